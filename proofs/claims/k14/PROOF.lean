import PyProof.Rows.All
import Wide.All
import OpenK.AllK
import Wide.FinOn
import HandS.ForMost
import HandS.ForExc
import HandS.Lambda
import HandS.TryMany
import HandS.ExcInit
import HandS.ExcField
import HandS.MakeKwOnly
import HandS.MakeKw
import HandS.Wide
import HandS.WideBits
import HandS.Property
import HandS.Defaults
import KE.KOpsOwn
import KE.KCallOwn
import HandS.IsInst
import HandS.FStr
import HandS.RaiseMore
import HandS.Zip
import HandS.Text
import HandS.Style
import HandS.TryOnly
import HandS.Head0
import HandS.Head1
import HandS.Head2
import HandS.HeadEnd
import HandS.HeadHook1
import HandS.HeadHook2
import HandS.HeadNt
import HandS.Ends
import HandS.HeadWalk
import KE.KExcInit
import PyProof.ReprRoads
import HandS.HeadHook4
import HandS.ExcIs
import KE.KExcMake
import PySem.Challenge.RW_stitchsizes_k14_errors_created
set_option Elab.async false
set_option linter.all false
set_option maxRecDepth 100000
set_option maxHeartbeats 4000000
/-! DF: Python data as plain Lean data (D), and what a piece of the text does to it. -/
namespace DF
open PySem L2

inductive D where
  | non | bl (b : Bool) | int (i : Int) | str (x : Str)
  | tup (ds : List D) | lst (ds : List D)
  | dct (kvs : List (Key × D))
  | obj (c : Nat) (fs : List D)
  | ex (c : Nat) (fs : List D)
  | pot
  | fn (n : Nat) | cls (c : Nat) | ty (n : String)

/-- the pot that is drawn from: two ints -/
abbrev Pot := Int × Int
inductive Res (α : Type) where
  | ok (a : α) (p : Pot)
  | exc (c : Nat) (fs : List D) (p : Pot)
  | stuck
abbrev M (α : Type) := Pot → Res α
section
variable {α β : Type}
def ret (a : α) : M α := fun p => .ok a p
def fail : M α := fun _ => .stuck
def bnd (m : M α) (f : α → M β) : M β := fun p => match m p with
  | .ok a p' => f a p'
  | .exc c fs p' => .exc c fs p'
  | .stuck => .stuck
def opt : Option α → M α
  | some a => ret a
  | none => fail
end

/-- where classes and defs stand; the fields of a class in their order -/
structure Tb where
  cls : Nat → Addr
  names : Nat → List Str
  fn : Nat → Addr
  tb : List (Addr × Str)

mutual
def R (K : PySem.W.Frag) (T : Tb) (p : Addr) (H : Hp) : D → V → Prop
  | .non, v => v = .non
  | .bl b, v => v = .bl b
  | .int i, v => v = .int i
  | .str x, v => v = .str x
  | .tup ds, v => ∃ a vs, v = .ref a ∧ SqT K H a vs ∧ RL K T p H ds vs
  | .lst ds, v => ∃ a vs, v = .ref a ∧ H a = some (.lst vs) ∧ RL K T p H ds vs
  | .dct kvs, v => ∃ a es, v = .ref a ∧ H a = some (.dK es) ∧ RK K T p H kvs es
  | .obj c fs, v => ∃ a dx vs, v = .ref a ∧ H a = some (.ins (T.cls c) dx ((T.names c).zip vs)) ∧ fs.length = (T.names c).length ∧ RL K T p H fs vs
  | .ex c fs, v => ∃ a dd vs, v = .ref a ∧ H a = some (exo a (T.cls c) dd) ∧ fs.length = (T.names c).length ∧ RL K T p H fs vs ∧
    ((dd = none ∧ fs = []) ∨ ∃ d fl, dd = some d ∧ H d = some (exd d fl) ∧ ∀ (i : Nat) (n : Str) (v : V), (T.names c)[i]? = some n → vs[i]? = some v → fl.lookup n = some v)
  | .pot, v => v = .ref p
  | .fn n, v => v = .ref (T.fn n)
  | .cls c, v => v = .ref (T.cls c)
  | .ty n, v => v = .ty n
def RL (K : PySem.W.Frag) (T : Tb) (p : Addr) (H : Hp) : List D → List V → Prop
  | [], vs => vs = []
  | d :: ds, vs => ∃ v ws, vs = v :: ws ∧ R K T p H d v ∧ RL K T p H ds ws
def RK (K : PySem.W.Frag) (T : Tb) (p : Addr) (H : Hp) : List (Key × D) → List (Key × V) → Prop
  | [], vs => vs = []
  | (k, d) :: ds, vs => ∃ v ws, vs = (k, v) :: ws ∧ R K T p H d v ∧ RK K T p H ds ws
end

/-- a heap that has grown -/
def Gr (H H' : Hp) : Prop := ∀ a o, H a = some o → H' a = some o
theorem Gr.refl (H : Hp) : Gr H H := fun _ _ h => h
theorem Gr.trans {H H1 H2 : Hp} (a : Gr H H1) (b : Gr H1 H2) : Gr H H2 := fun x o h => b x o (a x o h)
theorem Gr.sqt {K : PySem.W.Frag} {H H' : Hp} {a : Addr} {xs : List V} (e : Gr H H') (h : SqT K H a xs) : SqT K H' a xs :=
  h.elim (fun h => .inl (h.elim (fun h => .inl (e _ _ h)) fun ⟨o, h⟩ => .inr ⟨o, e _ _ h⟩)) fun h => .inr h
theorem Gr.sql {K : PySem.W.Frag} {H H' : Hp} {a : Addr} {xs : List V} (e : Gr H H') (h : SqL K H a xs) : SqL K H' a xs :=
  h.elim (fun h => .inl (h.elim (fun h => .inl (e _ _ h)) fun ⟨o, h⟩ => .inr ⟨o, e _ _ h⟩)) fun h => .inr h
theorem Gr.rd {H H' : Hp} {a : Addr} {u : HO} (e : Gr H H') (h : Rd H a u) : Rd H' a u := h.elim (fun h => .inl (e _ _ h)) fun ⟨o, h⟩ => .inr ⟨o, e _ _ h⟩

mutual
theorem R.gr {K : PySem.W.Frag} {T : Tb} {p : Addr} {H H' : Hp} (g : Gr H H') : ∀ {d : D} {v : V}, R K T p H d v → R K T p H' d v
  | .non, _, h | .bl _, _, h | .int _, _, h | .str _, _, h | .pot, _, h | .fn _, _, h | .cls _, _, h | .ty _, _, h => by simpa [R] using h
  | .tup ds, v, h => by
    simp only [R] at h ⊢
    obtain ⟨a, vs, e, s, r⟩ := h
    exact ⟨a, vs, e, g.sqt s, RL.gr g r⟩
  | .lst ds, v, h => by
    simp only [R] at h ⊢
    obtain ⟨a, vs, e, s, r⟩ := h
    exact ⟨a, vs, e, g _ _ s, RL.gr g r⟩
  | .dct ds, v, h => by
    simp only [R] at h ⊢
    obtain ⟨a, vs, e, s, r⟩ := h
    exact ⟨a, vs, e, g _ _ s, RK.gr g r⟩
  | .obj c fs, v, h => by
    simp only [R] at h ⊢
    obtain ⟨a, dx, vs, e, s, l, r⟩ := h
    exact ⟨a, dx, vs, e, g _ _ s, l, RL.gr g r⟩
  | .ex c fs, v, h => by
    simp only [R] at h ⊢
    obtain ⟨a, dd, vs, e, s, l, r, q⟩ := h
    exact ⟨a, dd, vs, e, g _ _ s, l, RL.gr g r, q.imp id fun ⟨d, fl, e1, e2, e3⟩ => ⟨d, fl, e1, g _ _ e2, e3⟩⟩
theorem RL.gr {K : PySem.W.Frag} {T : Tb} {p : Addr} {H H' : Hp} (g : Gr H H') : ∀ {ds : List D} {vs : List V}, RL K T p H ds vs → RL K T p H' ds vs
  | [], _, h => by simpa [RL] using h
  | d :: ds, vs, h => by
    simp only [RL] at h ⊢
    obtain ⟨v, ws, e, r, rs⟩ := h
    exact ⟨v, ws, e, R.gr g r, RL.gr g rs⟩
theorem RK.gr {K : PySem.W.Frag} {T : Tb} {p : Addr} {H H' : Hp} (g : Gr H H') : ∀ {ds : List (Key × D)} {vs : List (Key × V)}, RK K T p H ds vs → RK K T p H' ds vs
  | [], _, h => by simpa [RK] using h
  | (k, d) :: ds, vs, h => by
    simp only [RK] at h ⊢
    obtain ⟨v, ws, e, r, rs⟩ := h
    exact ⟨v, ws, e, R.gr g r, RK.gr g rs⟩
end

/-- no table of code objects -/
def nt : HO → Bool
  | .tbl _ => false
  | _ => true
/-- what may be changed -/
def mt : HO → Bool
  | .tbl _ => false
  | .ext _ => false
  | _ => true
theorem mt_nt {o : HO} (h : mt o = true) : nt o = true := by
  cases o <;> first | rfl | cases h
/-- some addresses left out of sight, and all tables -/
def Hd (S : List Addr) (H : Hp) : Hp := fun a => if a ∈ S then none else (H a).filter nt
theorem Hd.in_ {S : List Addr} {H : Hp} {a : Addr} (h : a ∈ S) : Hd S H a = none := if_pos h
theorem Hd.out {S : List Addr} {H : Hp} {a : Addr} {o : HO} (h : a ∉ S) (e : H a = some o) (n : nt o = true := by rfl) : Hd S H a = some o := by
  unfold Hd
  rw [if_neg h, e]
  simp [Option.filter, n]
theorem Hd.sees {S : List Addr} {H : Hp} {a : Addr} {o : HO} (h : Hd S H a = some o) : a ∉ S ∧ H a = some o ∧ nt o = true := by
  unfold Hd at h
  by_cases q : a ∈ S
  · rw [if_pos q] at h; cases h
  · rw [if_neg q] at h
    cases e : H a with
    | none => rw [e] at h; cases h
    | some u =>
      rw [e] at h
      by_cases z : nt u = true
      · simp [Option.filter, z] at h
        subst h
        exact ⟨q, rfl, z⟩
      · simp [Option.filter, z] at h
theorem Hd.no {S : List Addr} {H : Hp} {a : Addr} (h : H a = none) : Hd S H a = none := by
  unfold Hd
  rw [h]
  simp
theorem Hd.ne {H : Hp} {a b : Addr} {o : HO} (e : H a = some o) (n : nt o = true) (h : Hd [] H b = none) : a ≠ b := fun z => by
  rw [← z, Hd.out (by simp) e n] at h
  cases h
theorem Hd.le {S : List Addr} {H : Hp} : Gr (Hd S H) H := fun a o h => (Hd.sees h).2.1
/-- fewer hidden -/
theorem Hd.sub {S S' : List Addr} {H : Hp} (s : ∀ a ∈ S', a ∈ S) : Gr (Hd S H) (Hd S' H) := fun a o h => by
  obtain ⟨h1, h2, h3⟩ := Hd.sees h
  exact Hd.out (fun q => h1 (s a q)) h2 h3

/-- the exception that was caught, the lambda that was handed in -/
structure Xc where
  a : Addr
  cls : Value
  d : Option Addr
  lf : Addr
  lc : Addr
  lq : Str
def x0 : Xc := ⟨0, .none, none, 0, 0, Str.empty⟩
/-- the context of a body: the text's facts, the pot, the heap at the entry -/
structure Cy where
  K : PySem.W.Frag
  T : Tb
  p : Addr
  S : List Addr
  H0 : Hp
  me : Addr
  x : Xc
abbrev Cy.R (c : Cy) (H : Hp) (d : D) (v : V) : Prop := DF.R c.K c.T c.p H d v
abbrev Cy.RL (c : Cy) (H : Hp) (d : List D) (v : List V) : Prop := DF.RL c.K c.T c.p H d v

def potO (pt : Pot) : HO := .lst [.int pt.1, .int pt.2]
/-- the pot, and the tables -/
structure Pots (tb : List (Addr × Str)) (p : Addr) (H : Hp) (pt : Pot) : Prop where
  at_ : H p = some (potO pt)
  tab : LamX.Tabs tb H
theorem Pots.ext {tb : List (Addr × Str)} {p : Addr} {H H' : Hp} {pt : Pot} (h : Pots tb p H pt) (g : ∀ a o, H a = some o → H' a = some o) : Pots tb p H' pt := ⟨g _ _ h.at_, h.tab.ext g⟩
theorem Pots.upd {tb : List (Addr × Str)} {p : Addr} {H : Hp} {pt : Pot} {a : Addr} {o u : HO} (h : Pots tb p H pt) (n : p ≠ a) (e : H a = some u) (m : mt u = true) : Pots tb p (L2.upd H a o) pt := by
  refine ⟨by rw [upd_ne n]; exact h.at_, fun q hq => ?_⟩
  obtain ⟨ps, h1, h2, h3⟩ := h.tab q hq
  refine ⟨ps, ?_, h2, fun pos cv hc => ?_⟩
  · rw [upd_ne (fun z => by rw [z, e] at h1; cases h1; cases m)]
    exact h1
  · obtain ⟨c, e1, e2⟩ := h3 pos cv hc
    refine ⟨c, e1, ?_⟩
    rw [upd_ne (fun z => by
      rw [z, e] at e2
      have e3 : u = LamX.CodeO a q.2 := Option.some.inj e2
      rw [e3] at m
      cases m)]
    exact e2
/-- the pot is changed -/
theorem Pots.put {tb : List (Addr × Str)} {p : Addr} {H : Hp} {pt q : Pot} (h : Pots tb p H pt) : Pots tb p (L2.upd H p (potO q)) q := by
  refine ⟨upd_same, fun r hr => ?_⟩
  obtain ⟨ps, h1, h2, h3⟩ := h.tab r hr
  refine ⟨ps, ?_, h2, fun pos cv hc => ?_⟩
  · rw [upd_ne (fun z => by rw [z, h.at_] at h1; cases h1)]
    exact h1
  · obtain ⟨c, e1, e2⟩ := h3 pos cv hc
    refine ⟨c, e1, ?_⟩
    rw [upd_ne (fun z => by rw [z, h.at_] at e2; cases e2)]
    exact e2
/-- from H to H': all but the pot and the tables is kept -/
structure Stp (tb : List (Addr × Str)) (p : Addr) (H H' : Hp) (pt : Pot) : Prop where
  keep : ∀ a o, a ≠ p → H a = some o → (n : nt o = true := by rfl) → H' a = some o
  pot : Pots tb p H' pt
theorem Stp.trans {tb : List (Addr × Str)} {p : Addr} {H H1 H2 : Hp} {q r : Pot} (a : Stp tb p H H1 q) (b : Stp tb p H1 H2 r) : Stp tb p H H2 r := ⟨fun x o n h m => b.keep x o n (a.keep x o n h m) m, b.pot⟩
theorem Stp.gr {tb : List (Addr × Str)} {p : Addr} {H H' : Hp} {pt : Pot} (s : Stp tb p H H' pt) {S : List Addr} (hp : p ∈ S) : Gr (Hd S H) (Hd S H') := fun a o h => by
  obtain ⟨h1, h2, h3⟩ := Hd.sees h
  exact Hd.out h1 (s.keep a o (fun e => h1 (e ▸ hp)) h2 h3) h3

inductive SV where
  | val (d : D)
  | own (ds : List D)
  | ownd (kvs : List (Key × D))
  | slf (c : Nat) (fs : List D)
  | exv (e : Nat) (fs : List D)
  | lam
  | raw (v : V)
abbrev Slots := List (Option SV)
def isOwn : SV → Bool
  | .own _ => true
  | .ownd _ => true
  | .slf _ _ => true
  | _ => false
/-- an exception of the text as data -/
def Xv (c : Cy) (H : Hp) (e : Nat) (fs : List D) (cls : Value) (dd : Option Addr) : Prop :=
  cls = .ref (c.T.cls e) ∧ ((fs = [] ∧ dd = none) ∨ ∃ d fl vs, dd = some d ∧ H d = some (.xd fl) ∧ (∀ (i : Nat) (n : Str) (v : V), (c.T.names e)[i]? = some n → vs[i]? = some v → fl.lookup n = some v) ∧ fs.length = (c.T.names e).length ∧ c.RL H fs vs)
theorem Xv.gr {c : Cy} {H H' : Hp} {e : Nat} {fs : List D} {cls : Value} {dd : Option Addr} (g : Gr H H') (h : Xv c H e fs cls dd) : Xv c H' e fs cls dd :=
  ⟨h.1, h.2.imp id fun ⟨d, fl, vs, h1, h2, h3, h4, h5⟩ => ⟨d, fl, vs, h1, g _ _ h2, h3, h4, RL.gr g h5⟩⟩

abbrev hid (c : Cy) (O : List (Nat × Addr)) : List Addr := c.S ++ O.map (·.2)
def SlotOk (c : Cy) (O : List (Nat × Addr)) (H : Hp) (i : Nat) (x : Option (Option V)) : SV → Prop
  | .val d => ∃ v, x = some (some v) ∧ c.R (Hd (hid c O) H) d v
  | .own ds => ∃ a vs, (i, a) ∈ O ∧ x = some (some (.ref a)) ∧ H a = some (.lst vs) ∧ c.RL (Hd (hid c O) H) ds vs
  | .ownd kvs => ∃ a vs, (i, a) ∈ O ∧ x = some (some (.ref a)) ∧ H a = some (.dK vs) ∧ RK c.K c.T c.p (Hd (hid c O) H) kvs vs
  | .slf k fs => ∃ a dx vs, (i, a) ∈ O ∧ a = c.me ∧ x = some (some (.ref a)) ∧ H a = some (.ins (c.T.cls k) dx ((c.T.names k).zip vs)) ∧ fs.length ≤ (c.T.names k).length ∧ c.RL (Hd (hid c O) H) fs vs
  | .exv e fs => x = some (some (.ref c.x.a)) ∧ Xv c (Hd (hid c O) H) e fs c.x.cls c.x.d
  | .lam => x = some (some (.ref c.x.lf)) ∧ Hd (hid c O) H c.x.lc = some (LamX.CodeO c.x.lc c.x.lq)
  | .raw v => x = some (some v)
structure RS (c : Cy) (O : List (Nat × Addr)) (ρ : Slots) (σ : L2.St) (H : Hp) (pt : Pot) : Prop where
  pot : Pots c.T.tb c.p H pt
  ext : ∀ a o, a ≠ c.p → c.H0 a = some o → (n : nt o = true := by rfl) → H a = some o
  hp : c.p ∈ c.S
  hS : ∀ a ∈ c.S, ∃ o, H a = some o ∧ mt o = true
  new : ∀ q ∈ O, Hd [] c.H0 q.2 = none ∧ q.2 ≠ c.p ∧ q.2 ∉ c.S ∧ ∃ o, H q.2 = some o ∧ mt o = true
  nd : (O.map (·.2)).Nodup
  nf : (O.map (·.1)).Nodup
  len : ρ.length = σ.length
  ow : ∀ q ∈ O, ∃ s, ρ[q.1]? = some (some s) ∧ isOwn s = true
  sl : ∀ i s, ρ[i]? = some (some s) → SlotOk c O H i σ[i]? s

theorem SlotOk.stp {c : Cy} {O : List (Nat × Addr)} {H H' : Hp} {pt : Pot} {i : Nat} {x : Option (Option V)} {s : SV} (st : Stp c.T.tb c.p H H' pt) (hp : c.p ∈ c.S) (np : ∀ q ∈ O, q.2 ≠ c.p) (h : SlotOk c O H i x s) : SlotOk c O H' i x s := by
  have g : Gr (Hd (hid c O) H) (Hd (hid c O) H') := st.gr (List.mem_append_left _ hp)
  cases s with
  | val d =>
    obtain ⟨v, e, r⟩ := h
    exact ⟨v, e, R.gr g r⟩
  | own ds =>
    obtain ⟨a, vs, m, e, q, r⟩ := h
    exact ⟨a, vs, m, e, st.keep _ _ (np _ m) q, RL.gr g r⟩
  | ownd ds =>
    obtain ⟨a, vs, m, e, q, r⟩ := h
    exact ⟨a, vs, m, e, st.keep _ _ (np _ m) q, RK.gr g r⟩
  | slf k fs =>
    obtain ⟨a, dx, vs, m, em, e, q, l, r⟩ := h
    exact ⟨a, dx, vs, m, em, e, st.keep _ _ (np _ m) q, l, RL.gr g r⟩
  | exv e fs => exact ⟨h.1, Xv.gr g h.2⟩
  | lam => exact ⟨h.1, g _ _ h.2⟩
  | raw v => exact h
theorem RS.stp {c : Cy} {O : List (Nat × Addr)} {ρ : Slots} {σ : L2.St} {H H' : Hp} {pt pt' : Pot} (r : RS c O ρ σ H pt) (st : Stp c.T.tb c.p H H' pt') : RS c O ρ σ H' pt' :=
  ⟨st.pot, fun a o n h m => st.keep a o n (r.ext a o n h m) m, r.hp, fun a ha => let ⟨o, e, m⟩ := r.hS a ha; if q : a = c.p then ⟨_, q ▸ st.pot.at_, rfl⟩ else ⟨o, st.keep a o q e (mt_nt m), m⟩, fun q hq => let ⟨h1, h2, h4, o, h3, m⟩ := r.new q hq; ⟨h1, h2, h4, o, st.keep _ _ h2 h3 (mt_nt m), m⟩, r.nd, r.nf, r.len, r.ow, fun i s h => (r.sl i s h).stp st r.hp fun q hq => (r.new q hq).2.1⟩

def RX (c : Cy) (H : Hp) (e : Nat) (fs : List D) (cls : Value) (dd : Option Addr) : Prop := Xv c (Hd c.S H) e fs cls dd
/-- the heap when a body is left -/
structure Fin (c : Cy) (H : Hp) (pt : Pot) : Prop where
  pot : Pots c.T.tb c.p H pt
  ext : ∀ a o, a ≠ c.p → c.H0 a = some o → (n : nt o = true := by rfl) → H a = some o
  hS : ∀ a ∈ c.S, ∃ o, H a = some o ∧ mt o = true

/-- what is wanted of an outcome: its value with the heap behind it, or its exception -/
def Wg {α : Type} (c : Cy) (W : WX) (σ : L2.St) (H : Hp) (P : α → Pot → Hp → Prop) : Res α → Prop
  | .ok a pt => ∀ H', Stp c.T.tb c.p H H' pt → P a pt H'
  | .exc e fs pt => ∀ cls dd H', Stp c.T.tb c.p H H' pt → RX c H' e fs cls dd → W cls dd σ H'
  | .stuck => False
def dE (c : Cy) (W : WX) (f : Slots → M D) : TE := fun σ H Q => ∃ O ρ pt, RS c O ρ σ H pt ∧ Wg c W σ H (fun d _ H' => ∀ v, c.R (Hd (hid c O) H') d v → Q v H') (f ρ pt)
/-- a value, or a list or dict that may still be changed: to be looked at, not to be kept -/
def RB (c : Cy) (O : List (Nat × Addr)) (H : Hp) (d : D) (v : V) : Prop :=
  c.R (Hd (hid c O) H) d v ∨ (∃ i a ds vs, d = .lst ds ∧ v = .ref a ∧ (i, a) ∈ O ∧ H a = some (.lst vs) ∧ c.RL (Hd (hid c O) H) ds vs) ∨
    (∃ i a ds vs, d = .dct ds ∧ v = .ref a ∧ (i, a) ∈ O ∧ H a = some (.dK vs) ∧ RK c.K c.T c.p (Hd (hid c O) H) ds vs)
def dB (c : Cy) (W : WX) (f : Slots → M D) : TE := fun σ H Q => ∃ O ρ pt, RS c O ρ σ H pt ∧ Wg c W σ H (fun d _ H' => ∀ v, RB c O H' d v → Q v H') (f ρ pt)
def dT (c : Cy) (W : WX) (f : Slots → M Bool) : TT := fun σ H Q => ∃ O ρ pt, RS c O ρ σ H pt ∧ Wg c W σ H (fun b _ H' => Q b H') (f ρ pt)
def dA (c : Cy) (W : WX) (f : Slots → M (List D)) : TA := fun σ H Q => ∃ O ρ pt, RS c O ρ σ H pt ∧ Wg c W σ H (fun d _ H' => ∀ v, c.RL (Hd (hid c O) H') d v → Q v H') (f ρ pt)
inductive Out where
  | nx (ρ : Slots) | rt (d : D) | bk (ρ : Slots) | ct (ρ : Slots)
/-- what cannot change any more stays so -/
def Mv (c : Cy) (O : List (Nat × Addr)) (H : Hp) (O' : List (Nat × Addr)) (H' : Hp) : Prop := ∀ a o, a ∉ hid c O → H a = some o → nt o = true → a ∉ hid c O' ∧ H' a = some o
theorem Mv.trans {c : Cy} {O O1 O2 : List (Nat × Addr)} {H H1 H2 : Hp} (a : Mv c O H O1 H1) (b : Mv c O1 H1 O2 H2) : Mv c O H O2 H2 := fun x o h e m => b x o (a x o h e m).1 (a x o h e m).2 m
theorem Mv.gr {c : Cy} {O O1 : List (Nat × Addr)} {H H1 : Hp} (a : Mv c O H O1 H1) : Gr (Hd (hid c O) H) (Hd (hid c O1) H1) := fun x o h => by
  obtain ⟨h1, h2, h3⟩ := Hd.sees h
  obtain ⟨q1, q2⟩ := a x o h1 h2 h3
  exact Hd.out q1 q2 h3
theorem Stp.mv {c : Cy} {O : List (Nat × Addr)} {H H1 : Hp} {pt : Pot} (s : Stp c.T.tb c.p H H1 pt) (hp : c.p ∈ c.S) : Mv c O H O H1 := fun a o h e m => ⟨h, s.keep a o (fun q => h (q ▸ List.mem_append_left _ hp)) e m⟩
def WO (c : Cy) (W : WX) (E : Ends) (O : List (Nat × Addr)) (H : Hp) : Res Out → Prop
  | .ok (.nx ρ') pt' => ∀ O' σ' H', RS c O' ρ' σ' H' pt' → Mv c O H O' H' → E.nx σ' H'
  | .ok (.bk ρ') pt' => ∀ O' σ' H', RS c O' ρ' σ' H' pt' → Mv c O H O' H' → E.bk σ' H'
  | .ok (.ct ρ') pt' => ∀ O' σ' H', RS c O' ρ' σ' H' pt' → Mv c O H O' H' → E.ct σ' H'
  | .ok (.rt d) pt' => ∀ v H', Fin c H' pt' → c.R (Hd c.S H') d v → E.rt v H'
  | .exc e fs pt' => ∀ cls dd σ' H', Fin c H' pt' → RX c H' e fs cls dd → W cls dd σ' H'
  | .stuck => False
def dS (c : Cy) (W : WX) (g : Slots → M Out) : TS := fun E σ H => ∃ O ρ pt, RS c O ρ σ H pt ∧ WO c W E O H (g ρ pt)
/-- a new list -/
def dL (c : Cy) (W : WX) (f : Slots → M (List D)) : TE := fun σ H Q => ∃ O ρ pt, RS c O ρ σ H pt ∧ Wg c W σ H (fun ds _ H' => ∀ l vs, Hd [] H l = none → H' l = some (.lst vs) → c.RL (Hd (l :: hid c O) H') ds vs → Q (.ref l) H') (f ρ pt)

/-! ### weakening a judgement -/
section
variable {X : Cx}
theorem pe_imp {e : Expr} {t t' : TE} (h : PE X e t) (i : ∀ σ H Q, t' σ H Q → t σ H Q) : PE X e t' := ⟨fun pins s σ H Q I q => h.run pins s σ H Q I (i σ H Q q)⟩
theorem pt_imp {e : Expr} {t t' : TT} (h : PT X e t) (i : ∀ σ H Q, t' σ H Q → t σ H Q) : PT X e t' := ⟨fun pins s σ H Q I q => h.run pins s σ H Q I (i σ H Q q)⟩
theorem pw_imp {e : Expr} {t t' : TT} (h : PW X e t) (i : ∀ σ H Q, t' σ H Q → t σ H Q) : PW X e t' := ⟨fun wh pins s σ H Q I q => h.run wh pins s σ H Q I (i σ H Q q)⟩
theorem pa_imp {e : List Expr} {t t' : TA} (h : PA X e t) (i : ∀ σ H Q, t' σ H Q → t σ H Q) : PA X e t' := ⟨fun pos pins s σ H Q I q => h.run pos pins s σ H Q I (i σ H Q q)⟩
theorem ps_imp {st : Stmt} {t t' : TS} (h : PS X st t) (i : ∀ E σ H, t' E σ H → t E σ H) : PS X st t' := ⟨fun pins s σ H Q I q => h.run pins s σ H Q I (i Q σ H q)⟩
theorem pss_imp {st : List Stmt} {t t' : TS} (h : PSs X st t) (i : ∀ E σ H, t' E σ H → t E σ H) : PSs X st t' := ⟨fun pins s σ H Q I q => h.run pins s σ H Q I (i Q σ H q)⟩
theorem pe_or2 {e : Expr} {t t' : TE} (h : PE X e t) (h' : PE X e t') : PE X e (fun σ H Q => t σ H Q ∨ t' σ H Q) := ⟨fun pins s σ H Q I q => q.elim (h.run pins s σ H Q I) (h'.run pins s σ H Q I)⟩
end

section
variable {c : Cy} {W : WX} {σ : L2.St} {H : Hp} {α β : Type}
theorem RS.fin {O : List (Nat × Addr)} {ρ : Slots} {pt : Pot} (r : RS c O ρ σ H pt) : Fin c H pt := ⟨r.pot, fun a o n h m => r.ext a o n h m, r.hS⟩
theorem Wg.from {H1 : Hp} {P : α → Pot → Hp → Prop} {q : Pot} {r : Res α} (st : Stp c.T.tb c.p H H1 q) (h : Wg c W σ H P r) : Wg c W σ H1 P r := by
  cases r with
  | ok a pt => exact fun H' s => h H' (st.trans s)
  | exc e fs pt => exact fun cls dd H' s x => h cls dd H' (st.trans s) x
  | stuck => exact h
theorem Wg.bnd {P : β → Pot → Hp → Prop} {m : M α} {k : α → M β} {pt : Pot} (h : Wg c W σ H P (DF.bnd m k pt)) : Wg c W σ H (fun a q H' => Wg c W σ H' P (k a q)) (m pt) := by
  unfold DF.bnd at h
  cases e : m pt with
  | ok a q =>
    rw [e] at h
    exact fun H' st => Wg.from st h
  | exc _ _ _ =>
    rw [e] at h
    exact h
  | stuck =>
    rw [e] at h
    exact h
theorem Wg.imp {P P' : α → Pot → Hp → Prop} {r : Res α} (h : Wg c W σ H P r) (i : ∀ a q H', r = .ok a q → Stp c.T.tb c.p H H' q → P a q H' → P' a q H') : Wg c W σ H P' r := by
  cases r with
  | ok a pt => exact fun H' st => i a pt H' rfl st (h H' st)
  | exc e fs pt => exact h
  | stuck => exact h
/-- a value that is told at once -/
theorem Wg.here {P : α → Pot → Hp → Prop} {a : α} {q : Pot} (h : Wg c W σ H P (.ok a q)) (hp : Pots c.T.tb c.p H q) : P a q H := h H ⟨fun _ _ _ x _ => x, hp⟩
theorem Wg.opt {P : α → Pot → Hp → Prop} {o : Option α} {q : Pot} (h : Wg c W σ H P (DF.opt o q)) (hp : Pots c.T.tb c.p H q) : ∃ a, o = some a ∧ P a q H := by
  cases o with
  | none => exact h.elim
  | some a => exact ⟨a, rfl, Wg.here h hp⟩
end
end DF

set_option Elab.async false
set_option linter.all false
set_option maxRecDepth 100000
set_option maxHeartbeats 4000000
namespace DF
open PySem L2

section
variable {c : Cy} {W : WX} {σ : L2.St} {H H' : Hp} {O : List (Nat × Addr)} {ρ : Slots} {pt pt' : Pot} {a l : Addr} {o : HO} {v : V} {vs : List V} {d : D} {ds : List D}
theorem RS.hidden (r : RS c O ρ σ H pt) (h : a ∈ hid c O) : ∃ o, H a = some o ∧ mt o = true := by
  rcases List.mem_append.mp h with e | e
  · exact r.hS a e
  · obtain ⟨q, hq, e⟩ := List.mem_map.mp e
    obtain ⟨_, _, _, o, h, m⟩ := r.new q hq
    exact ⟨o, e ▸ h, m⟩
theorem RS.pm (r : RS c O ρ σ H pt) : c.p ∈ hid c O := List.mem_append_left _ r.hp
theorem RS.freshF (r : RS c O ρ σ H pt) (h : Hd [] H l = none) : l ∉ hid c O := fun q => by
  rcases List.mem_append.mp q with e | e
  · obtain ⟨o, h1, n⟩ := r.hS l e
    exact Hd.ne h1 (mt_nt n) h rfl
  · obtain ⟨q, hq, e⟩ := List.mem_map.mp e
    obtain ⟨_, _, _, o, h1, n⟩ := r.new q hq
    exact Hd.ne h1 (mt_nt n) h e
theorem RS.fresh (r : RS c O ρ σ H pt) (h : H l = none) : l ∉ hid c O := r.freshF (Hd.no h)
theorem Stp.refl {tb : List (Addr × Str)} {p : Addr} (h : Pots tb p H pt) : Stp tb p H H pt := ⟨fun _ _ _ x _ => x, h⟩
theorem Stp.gr_ {tb : List (Addr × Str)} {p : Addr} (h : Pots tb p H pt) (g : ∀ a o, H a = some o → H' a = some o) : Stp tb p H H' pt := ⟨fun b u _ e _ => g b u e, h.ext g⟩
theorem Stp.new {tb : List (Addr × Str)} {p : Addr} (h : Pots tb p H pt) (hl : H l = none) : Stp tb p H (upd H l o) pt :=
  Stp.gr_ h fun b u e => by rw [upd_ne (ne_of_none e hl)]; exact e
theorem Stp.newK {tb : List (Addr × Str)} {p : Addr} (s : Stp tb p H H' pt) (hl : H' l = none) : Stp tb p H (upd H' l o) pt := s.trans (Stp.new s.pot hl)
theorem Hd.new {S : List Addr} (hl : H l = none) : Gr (Hd S H) (Hd S (upd H l o)) := fun b u e => by
  obtain ⟨h1, h2, h3⟩ := Hd.sees e
  exact Hd.out h1 (by rw [upd_ne (ne_of_none h2 hl)]; exact h2) h3
theorem Hd.at_new {S : List Addr} (hs : l ∉ S) (n : nt o = true := by rfl) : Hd S (upd H l o) l = some o := Hd.out hs upd_same n
theorem RL.len : ∀ {K : PySem.W.Frag} {T : Tb} {p : Addr} {H : Hp} {ds : List D} {vs : List V}, RL K T p H ds vs → ds.length = vs.length
  | _, _, _, _, [], _, h => by simp only [RL] at h; subst h; rfl
  | _, _, _, _, d :: ds, _, h => by
    simp only [RL] at h
    obtain ⟨v, ws, rfl, _, h⟩ := h
    simp [RL.len h]
theorem RL.get : ∀ {K : PySem.W.Frag} {T : Tb} {p : Addr} {H : Hp} {ds : List D} {vs : List V} {i : Nat} {v : V}, RL K T p H ds vs → vs[i]? = some v → ∃ d, ds[i]? = some d ∧ R K T p H d v
  | _, _, _, _, [], _, _, _, h, e => by simp only [RL] at h; subst h; simp at e
  | _, _, _, _, d :: ds, _, i, v, h, e => by
    simp only [RL] at h
    obtain ⟨w, ws, rfl, r, h⟩ := h
    cases i with
    | zero => simp at e; subst e; exact ⟨d, rfl, r⟩
    | succ i => simp at e; obtain ⟨d', e', r'⟩ := RL.get h e; exact ⟨d', by simpa using e', r'⟩
theorem RL.getD : ∀ {K : PySem.W.Frag} {T : Tb} {p : Addr} {H : Hp} {ds : List D} {vs : List V} {i : Nat} {d : D}, RL K T p H ds vs → ds[i]? = some d → ∃ v, vs[i]? = some v ∧ R K T p H d v
  | _, _, _, _, [], _, _, _, h, e => by simp at e
  | _, _, _, _, d :: ds, _, i, d', h, e => by
    simp only [RL] at h
    obtain ⟨w, ws, rfl, r, h⟩ := h
    cases i with
    | zero => simp at e; subst e; exact ⟨w, rfl, r⟩
    | succ i => simp at e; obtain ⟨v', e', r'⟩ := RL.getD h e; exact ⟨v', by simpa using e', r'⟩
theorem RL.app : ∀ {K : PySem.W.Frag} {T : Tb} {p : Addr} {H : Hp} {ds es : List D} {vs ws : List V}, RL K T p H ds vs → RL K T p H es ws → RL K T p H (ds ++ es) (vs ++ ws)
  | _, _, _, _, [], _, _, _, h, h' => by simp only [RL] at h; subst h; simpa using h'
  | _, _, _, _, d :: ds, _, _, _, h, h' => by
    simp only [RL] at h
    obtain ⟨w, ws, rfl, r, h⟩ := h
    simp only [List.cons_append, RL]
    exact ⟨_, _, rfl, r, RL.app h h'⟩
theorem RL.take : ∀ {K : PySem.W.Frag} {T : Tb} {p : Addr} {H : Hp} {ds : List D} {vs : List V} (n : Nat), RL K T p H ds vs → RL K T p H (ds.take n) (vs.take n)
  | _, _, _, _, _, _, 0, _ => by simp [RL]
  | _, _, _, _, [], _, n + 1, h => by simp only [RL] at h; subst h; simp [RL]
  | _, _, _, _, d :: ds, _, n + 1, h => by
    simp only [RL] at h
    obtain ⟨w, ws, rfl, r, h⟩ := h
    simp only [List.take_succ_cons, RL]
    exact ⟨_, _, rfl, r, RL.take n h⟩
theorem RL.drop : ∀ {K : PySem.W.Frag} {T : Tb} {p : Addr} {H : Hp} {ds : List D} {vs : List V} (n : Nat), RL K T p H ds vs → RL K T p H (ds.drop n) (vs.drop n)
  | _, _, _, _, _, _, 0, h => by simpa using h
  | _, _, _, _, [], _, n + 1, h => by simp only [RL] at h; subst h; simp [RL]
  | _, _, _, _, d :: ds, _, n + 1, h => by
    simp only [RL] at h
    obtain ⟨w, ws, rfl, r, h⟩ := h
    simpa using RL.drop n h
theorem RL.set : ∀ {K : PySem.W.Frag} {T : Tb} {p : Addr} {H : Hp} {ds : List D} {vs : List V} {d : D} {v : V} (n : Nat), RL K T p H ds vs → R K T p H d v → RL K T p H (ds.set n d) (vs.set n v)
  | _, _, _, _, [], _, _, _, n, h, _ => by simp only [RL] at h; subst h; simp [RL]
  | _, _, _, _, d :: ds, _, _, _, 0, h, q => by
    simp only [RL] at h
    obtain ⟨w, ws, rfl, r, h⟩ := h
    simp only [List.set_cons_zero, RL]
    exact ⟨_, _, rfl, q, h⟩
  | _, _, _, _, d :: ds, _, _, _, n + 1, h, q => by
    simp only [RL] at h
    obtain ⟨w, ws, rfl, r, h⟩ := h
    simp only [List.set_cons_succ, RL]
    exact ⟨_, _, rfl, r, RL.set n h q⟩
theorem RL.rev {K : PySem.W.Frag} {T : Tb} {p : Addr} {H : Hp} : ∀ {ds : List D} {vs : List V}, RL K T p H ds vs → RL K T p H ds.reverse vs.reverse
  | [], _, h => by simp only [RL] at h; subst h; simp [RL]
  | d :: ds, _, h => by
    simp only [RL] at h
    obtain ⟨w, ws, rfl, r, h⟩ := h
    rw [List.reverse_cons, List.reverse_cons]
    exact RL.app (RL.rev h) (by simp only [RL]; exact ⟨_, _, rfl, r, rfl⟩)
theorem RL.nil {K : PySem.W.Frag} {T : Tb} {p : Addr} {H : Hp} : RL K T p H [] [] := by simp [RL]
theorem RL.cons {K : PySem.W.Frag} {T : Tb} {p : Addr} {H : Hp} (h : R K T p H d v) (hs : RL K T p H ds vs) : RL K T p H (d :: ds) (v :: vs) := by
  simp only [RL]
  exact ⟨_, _, rfl, h, hs⟩
theorem RL.one {K : PySem.W.Frag} {T : Tb} {p : Addr} {H : Hp} (h : R K T p H d v) : RL K T p H [d] [v] := RL.cons h RL.nil
theorem mk_lst (r : RS c O ρ σ H pt) (hl : H l = none) (h : c.RL (Hd (hid c O) H) ds vs) : c.R (Hd (hid c O) (upd H l (.lst vs))) (.lst ds) (.ref l) := by
  simp only [Cy.R, R]
  exact ⟨l, vs, rfl, Hd.at_new (r.fresh hl), RL.gr (Hd.new hl) h⟩
theorem mk_tup (r : RS c O ρ σ H pt) (hl : H l = none) (h : c.RL (Hd (hid c O) H) ds vs) : c.R (Hd (hid c O) (upd H l (.tup vs))) (.tup ds) (.ref l) := by
  simp only [Cy.R, R]
  exact ⟨l, vs, rfl, .inl (.inl (Hd.at_new (r.fresh hl))), RL.gr (Hd.new hl) h⟩

theorem RB.of (h : c.R (Hd (hid c O) H) d v) : RB c O H d v := .inl h
theorem RB.int {i : Int} (h : RB c O H (.int i) v) : v = .int i := by
  rcases h with h | ⟨_, _, _, _, e, _⟩ | ⟨_, _, _, _, e, _⟩
  · simpa [Cy.R, R] using h
  · cases e
  · cases e
theorem RB.str {i : Str} (h : RB c O H (.str i) v) : v = .str i := by
  rcases h with h | ⟨_, _, _, _, e, _⟩ | ⟨_, _, _, _, e, _⟩
  · simpa [Cy.R, R] using h
  · cases e
  · cases e
theorem RB.bl {i : Bool} (h : RB c O H (.bl i) v) : v = .bl i := by
  rcases h with h | ⟨_, _, _, _, e, _⟩ | ⟨_, _, _, _, e, _⟩
  · simpa [Cy.R, R] using h
  · cases e
  · cases e
theorem RB.non (h : RB c O H .non v) : v = .non := by
  rcases h with h | ⟨_, _, _, _, e, _⟩ | ⟨_, _, _, _, e, _⟩
  · simpa [Cy.R, R] using h
  · cases e
  · cases e
theorem RB.lst (h : RB c O H (.lst ds) v) : ∃ a vs, v = .ref a ∧ H a = some (.lst vs) ∧ c.RL (Hd (hid c O) H) ds vs := by
  rcases h with h | ⟨_, a, _, vs, e, ev, _, ha, rl⟩ | ⟨_, _, _, _, e, _⟩
  · simp only [Cy.R, R] at h
    obtain ⟨a, vs, e, s, r⟩ := h
    exact ⟨a, vs, e, Hd.le _ _ s, r⟩
  · cases e
    exact ⟨a, vs, ev, ha, rl⟩
  · cases e
theorem RB.tup (h : RB c O H (.tup ds) v) : ∃ a vs, v = .ref a ∧ SqT c.K H a vs ∧ c.RL (Hd (hid c O) H) ds vs := by
  rcases h with h | ⟨_, _, _, _, e, _⟩ | ⟨_, _, _, _, e, _⟩
  · simp only [Cy.R, R] at h
    obtain ⟨a, vs, e, s, r⟩ := h
    exact ⟨a, vs, e, Hd.le.sqt s, r⟩
  · cases e
  · cases e
theorem RB.dct {kvs : List (Key × D)} (h : RB c O H (.dct kvs) v) : ∃ a vs, v = .ref a ∧ H a = some (.dK vs) ∧ RK c.K c.T c.p (Hd (hid c O) H) kvs vs := by
  rcases h with h | ⟨_, _, _, _, e, _⟩ | ⟨_, a, _, vs, e, ev, _, ha, rl⟩
  · simp only [Cy.R, R] at h
    obtain ⟨a, vs, e, s, r⟩ := h
    exact ⟨a, vs, e, Hd.le _ _ s, r⟩
  · cases e
  · cases e
    exact ⟨a, vs, ev, ha, rl⟩
theorem RB.obj {k : Nat} {fs : List D} (h : RB c O H (.obj k fs) v) : c.R (Hd (hid c O) H) (.obj k fs) v := by
  rcases h with h | ⟨_, _, _, _, e, _⟩ | ⟨_, _, _, _, e, _⟩
  · exact h
  · cases e
  · cases e
theorem RB.stp (r : RS c O ρ σ H pt) (st : Stp c.T.tb c.p H H' pt') (h : RB c O H d v) : RB c O H' d v := by
  have g : Gr (Hd (hid c O) H) (Hd (hid c O) H') := st.gr r.pm
  rcases h with h | ⟨i, a, ds, vs, e, ev, m, ha, rl⟩ | ⟨i, a, ds, vs, e, ev, m, ha, rl⟩
  · exact .inl (R.gr g h)
  · exact .inr (.inl ⟨i, a, ds, vs, e, ev, m, st.keep _ _ (r.new _ m).2.1 ha, RL.gr g rl⟩)
  · exact .inr (.inr ⟨i, a, ds, vs, e, ev, m, st.keep _ _ (r.new _ m).2.1 ha, RK.gr g rl⟩)
end

/-! ### names, constants -/
section
variable {X : Cx} {c : Cy} {W : WX}
def valOf : Option (Option SV) → Option D
  | some (some (.val d)) => some d
  | _ => none
def bvalOf : Option (Option SV) → Option D
  | some (some (.val d)) => some d
  | some (some (.own ds)) => some (.lst ds)
  | some (some (.ownd ds)) => some (.dct ds)
  | _ => none
def varE (i : Nat) : Slots → M D := fun ρ => opt (valOf ρ[i]?)
def bvarE (i : Nat) : Slots → M D := fun ρ => opt (bvalOf ρ[i]?)
theorem valOf_some {x : Option (Option SV)} {d : D} (h : valOf x = some d) : x = some (some (.val d)) := by
  unfold valOf at h
  split at h
  · cases h; rfl
  · cases h
theorem de_var {x : Str} {pos : Pos} (i : Nat) (hN : X.N[i]? = some x := by rfl) (hv : Vis X.env.scope x := by first | exact Or.inl rfl | exact Or.inr (Or.inl rfl) | exact Or.inr (Or.inr rfl)) (hd : (x == ("__debug__" : Str)) = false := by decide)
    (hcd : (x == ("__classdict__" : Str)) = false := by decide) : PE X (.Name x pos) (dE c W (varE i)) := by
  refine pe_imp (pe_var hN hv hd hcd) fun σ H Q ⟨O, ρ, pt, r, h⟩ => ?_
  obtain ⟨d, e, h⟩ := Wg.opt h r.pot
  obtain ⟨v, ev, rv⟩ := r.sl i _ (valOf_some e)
  exact ⟨v, ev, h v rv⟩
theorem db_var {x : Str} {pos : Pos} (i : Nat) (hN : X.N[i]? = some x := by rfl) (hv : Vis X.env.scope x := by first | exact Or.inl rfl | exact Or.inr (Or.inl rfl) | exact Or.inr (Or.inr rfl)) (hd : (x == ("__debug__" : Str)) = false := by decide)
    (hcd : (x == ("__classdict__" : Str)) = false := by decide) : PE X (.Name x pos) (dB c W (bvarE i)) := by
  refine pe_imp (pe_var hN hv hd hcd) fun σ H Q ⟨O, ρ, pt, r, h⟩ => ?_
  obtain ⟨d, e, h⟩ := Wg.opt h r.pot
  unfold bvalOf at e
  split at e
  · rename_i d1 e1
    cases e
    obtain ⟨v, ev, rv⟩ := r.sl i _ e1
    exact ⟨v, ev, h v (.inl rv)⟩
  · rename_i d1 e1
    cases e
    obtain ⟨a, vs, m, ev, ha, rl⟩ := r.sl i _ e1
    exact ⟨_, ev, h _ (.inr (.inl ⟨i, a, d1, vs, rfl, rfl, m, ha, rl⟩))⟩
  · rename_i d1 e1
    cases e
    obtain ⟨a, vs, m, ev, ha, rl⟩ := r.sl i _ e1
    exact ⟨_, ev, h _ (.inr (.inr ⟨i, a, d1, vs, rfl, rfl, m, ha, rl⟩))⟩
  · cases e
/-- what is kept may be looked at -/
theorem db_of {e : Expr} {f : Slots → M D} (h : PE X e (dE c W f)) : PE X e (dB c W f) :=
  pe_imp h fun σ H Q ⟨O, ρ, pt, r, q⟩ => ⟨O, ρ, pt, r, q.imp fun _ _ _ _ _ q v rv => q v (.inl rv)⟩
def cE (d : D) : Slots → M D := fun _ => ret d
theorem de_c {e : Expr} {v : V} {d : D} (h : PE X e (tC v)) (r : ∀ H, c.R H d v) : PE X e (dE c W (cE d)) :=
  pe_imp h fun σ H Q ⟨O, ρ, pt, rs, q⟩ => Wg.here q rs.pot v (r _)
theorem de_int {i j pos} : PE X (.Constant (.int i) j pos) (dE c W (cE (.int i))) := de_c pe_int fun H => by simp [Cy.R, R]
theorem de_bl {b j pos} : PE X (.Constant (.bool b) j pos) (dE c W (cE (.bl b))) := de_c pe_bl fun H => by simp [Cy.R, R]
theorem de_non {j pos} : PE X (.Constant .none j pos) (dE c W (cE .non)) := de_c pe_non fun H => by simp [Cy.R, R]
theorem de_str {x j pos} : PE X (.Constant (.str x) j pos) (dE c W (cE (.str x))) := de_c pe_str fun H => by simp [Cy.R, R]

/-! ### argument lists, displays -/
def nilA : Slots → M (List D) := fun _ => ret []
def consA (f : Slots → M D) (g : Slots → M (List D)) : Slots → M (List D) := fun ρ => bnd (f ρ) fun d => bnd (g ρ) fun ds => ret (d :: ds)
theorem da_nil : PA X [] (dA c W nilA) := pa_imp pa_nil fun σ H Q ⟨O, ρ, pt, rs, q⟩ => Wg.here q rs.pot [] RL.nil
theorem da_cons {e : Expr} {es : List Expr} {f : Slots → M D} {g : Slots → M (List D)} (h : PE X e (dE c W f)) (hs : PA X es (dA c W g)) (hst : starEach (e :: es) X.env = (false, eval e X.env) :: starEach es X.env := by rfl) :
    PA X (e :: es) (dA c W (consA f g)) := by
  refine pa_imp (pa_cons h hs hst) fun σ H Q ⟨O, ρ, pt, r, q⟩ => ?_
  refine ⟨O, ρ, pt, r, (Wg.bnd q).imp fun d p1 H1 _ s1 q v rv => ?_⟩
  refine ⟨O, ρ, p1, r.stp s1, (Wg.bnd q).imp fun ds p2 H2 _ s2 q vs rvs => ?_⟩
  have r2 := (r.stp s1).stp s2
  exact Wg.here q r2.pot _ (RL.cons (R.gr (s2.gr r.pm) rv) rvs)
def tupE (g : Slots → M (List D)) : Slots → M D := fun ρ => bnd (g ρ) fun ds => if ds.length ≤ 100000 then ret (.tup ds) else fail
def lenA (g : Slots → M (List D)) : Slots → M (List D) := fun ρ => bnd (g ρ) fun ds => if ds.length ≤ 100000 then ret ds else fail
theorem sz5 {n : Nat} (h : n ≤ 100000) : n ≤ sizeLine := Nat.le_trans h (by decide)
theorem de_tup {es : List Expr} {g : Slots → M (List D)} {k : Nat} {pos : Pos} (h : PA X es (dA c W g)) : PE X (.Tuple es k pos) (dE c W (tupE g)) := by
  refine pe_imp (pe_tup h) fun σ H Q ⟨O, ρ, pt, r, q⟩ => ?_
  refine ⟨O, ρ, pt, r, (Wg.bnd q).imp fun ds p1 H1 _ s1 q vs rvs => ?_⟩
  by_cases hz : ds.length ≤ 100000
  · rw [if_pos hz] at q
    refine ⟨sz5 (by rw [← RL.len rvs]; exact hz), fun l hl => q _ (Stp.new s1.pot hl) _ (mk_tup (r.stp s1) hl rvs)⟩
  · rw [if_neg hz] at q
    exact q.elim
def boxE (f : Slots → M (List D)) : Slots → M D := fun ρ => bnd (f ρ) fun ds => ret (.lst ds)
theorem de_box {e : Expr} {f : Slots → M (List D)} (h : PE X e (dL c W f)) : PE X e (dE c W (boxE f)) := by
  refine pe_imp h fun σ H Q ⟨O, ρ, pt, r, q⟩ => ⟨O, ρ, pt, r, (Wg.bnd q).imp fun ds p1 H1 _ s1 q l vs hl h1 rl => ?_⟩
  refine Wg.here q s1.pot _ ?_
  simp only [Cy.R, R]
  refine ⟨l, vs, rfl, ?_, RL.gr (Hd.sub fun a h => List.mem_cons_of_mem _ h) rl⟩
  exact Hd.out (r.freshF hl) h1
/-- a new list from its items -/
theorem new_lst {σ : L2.St} {O : List (Nat × Addr)} {ρ : Slots} {pt p1 : Pot} {H H1 : Hp} {ds : List D} {vs : List V} {l : Addr} {Q : VK} (r : RS c O ρ σ H pt) (s1 : Stp c.T.tb c.p H H1 p1) (rl : c.RL (Hd (hid c O) H1) ds vs) (hl : H1 l = none)
    (q : ∀ H', Stp c.T.tb c.p H1 H' p1 → ∀ l vs, Hd [] H l = none → H' l = some (.lst vs) → c.RL (Hd (l :: hid c O) H') ds vs → Q (.ref l) H') : Q (.ref l) (upd H1 l (.lst vs)) := by
  have h0 : Hd [] H l = none := by
    cases e : Hd [] H l with
    | none => rfl
    | some o =>
      obtain ⟨_, e, n⟩ := Hd.sees e
      by_cases el : l = c.p
      · rw [el, s1.pot.at_] at hl; cases hl
      · rw [s1.keep l o el e n] at hl; cases hl
  refine q _ (Stp.new s1.pot hl) l vs h0 upd_same (RL.gr (fun a o h => ?_) rl)
  obtain ⟨h1, h2, h3⟩ := Hd.sees h
  have na : a ≠ l := ne_of_none h2 hl
  exact Hd.out (fun q => (List.mem_cons.mp q).elim na h1) (by rw [upd_ne na]; exact h2) h3
theorem dl_lst {es : List Expr} {g : Slots → M (List D)} {pos : Pos} (h : PA X es (dA c W g)) : PE X (.List es pos) (dL c W (lenA g)) := by
  refine pe_imp (pe_lst h) fun σ H Q ⟨O, ρ, pt, r, q⟩ => ?_
  refine ⟨O, ρ, pt, r, (Wg.bnd q).imp fun ds p1 H1 _ s1 q vs rvs => ?_⟩
  by_cases hz : ds.length ≤ 100000
  · rw [if_pos hz] at q
    exact ⟨sz5 (by rw [← RL.len rvs]; exact hz), fun l hl => new_lst r s1 rvs hl q⟩
  · rw [if_neg hz] at q
    exact q.elim

/-! ### operators -/
/-- an operation on two values, its wishes at the slots -/
def OpS (X : Cx) (f : Value → Value → Sem Value) (r : L2.St → R2) : Prop := ∀ (pins : List (Addr × Obj)) (s : Shared) (σ : L2.St) (H : Hp) (x y : V) (v u : Value) (Q : VK),
  Inv X pins σ H s → RelV x v → RelV y u → r σ x y H Q → wpAny (model X.prog X.w) X.A (f v u) (EP X pins σ Q) X.xe s
theorem ops_of {f : Value → Value → Sem Value} {r : R2} (h : OpR X f r) : OpS X f fun _ => r := fun pins s σ H x y v u Q => h pins s σ H x y v u Q
theorem OpS.or {f : Value → Value → Sem Value} {r r' : L2.St → R2} (h : OpS X f r) (h' : OpS X f r') : OpS X f (fun σ x y H Q => r σ x y H Q ∨ r' σ x y H Q) := fun pins s σ H x y v u Q I rx ry q =>
  q.elim (h pins s σ H x y v u Q I rx ry) (h' pins s σ H x y v u Q I rx ry)
/-- what an operator's rule r says, as a function of data -/
def OpD (X : Cx) (c : Cy) (W : WX) (f : Value → Value → Sem Value) (g : D → D → M D) : Prop := ∃ r : L2.St → R2, OpS X f r ∧
  ∀ (σ : L2.St) (O : List (Nat × Addr)) (ρ : Slots) (pt : Pot) (H : Hp) (Q : VK) (x y : D) (v w : V), RS c O ρ σ H pt → RB c O H x v → RB c O H y w →
    Wg c W σ H (fun d _ H' => ∀ v, c.R (Hd (hid c O) H') d v → Q v H') (g x y pt) → r σ v w H Q
def binE (g : D → D → M D) (fa fb : Slots → M D) : Slots → M D := fun ρ => bnd (fa ρ) fun x => bnd (fb ρ) fun y => g x y
theorem OpD.use {f : Value → Value → Sem Value} {g : D → D → M D} {fa fb : Slots → M D} (o : OpD X c W f g) : ∃ r : L2.St → R2, OpS X f r ∧ ∀ σ H Q, dE c W (binE g fa fb) σ H Q → dB c W fa σ H fun x H1 => dB c W fb σ H1 fun y H2 => r σ x y H2 Q := by
  obtain ⟨r, h1, h2⟩ := o
  refine ⟨r, h1, fun σ H Q ⟨O, ρ, pt, rs, q⟩ => ?_⟩
  refine ⟨O, ρ, pt, rs, (Wg.bnd q).imp fun x p1 H1 _ s1 q v rv => ?_⟩
  have rs1 := rs.stp s1
  refine ⟨O, ρ, p1, rs1, (Wg.bnd q).imp fun y p2 H2 _ s2 q w rw => ?_⟩
  exact h2 σ O ρ p2 H2 Q x y v w (rs1.stp s2) (rv.stp rs1 s2) rw q
theorem de_op {op : Operator} {g : D → D → M D} {a b : Expr} {fa fb : Slots → M D} {pos : Pos} (o : OpD X c W (binaryOp op) g) (ha : PE X a (dB c W fa)) (hb : PE X b (dB c W fb)) : PE X (.BinOp a op b pos) (dE c W (binE g fa fb)) := by
  obtain ⟨r, h1, h2⟩ := OpD.use (fa := fa) (fb := fb) o
  exact ⟨fun pins s σ H Q I h => wpAny_BinOp (binT ha hb I (h2 σ H Q h) fun v u s2 x y H2 I2 rx ry q => h1 pins s2 σ H2 x y v u Q I2 rx ry q)⟩
theorem de_cmp {op : CmpOp} {g : D → D → M D} {a b : Expr} {fa fb : Slots → M D} {pos : Pos} (o : OpD X c W (compareOp op) g) (ha : PE X a (dB c W fa)) (hb : PE X b (dB c W fb)) (hm : behindInMarks op b = false := by first | exact nomark _ | rfl) : PE X (.Compare a [op] [b] pos) (dE c W (binE g fa fb)) := by
  obtain ⟨r, h1, h2⟩ := OpD.use (fa := fa) (fb := fb) o
  exact ⟨fun pins s σ H Q I h => wpAny_Compare1 (binT ha hb I (h2 σ H Q h) fun v u s2 x y H2 I2 rx ry q => h1 pins s2 σ H2 x y v u Q I2 rx ry q) hm⟩
def asB : D → M Bool
  | .bl b => ret b
  | _ => fail
def testE (f : Slots → M D) : Slots → M Bool := fun ρ => bnd (f ρ) asB
theorem asB_ok {σ : L2.St} {H : Hp} {pt : Pot} {P : Bool → Pot → Hp → Prop} {d : D} (h : Wg c W σ H P (asB d pt)) (hp : Pots c.T.tb c.p H pt) : ∃ b, d = .bl b ∧ P b pt H := by
  unfold asB at h
  split at h
  · exact ⟨_, rfl, Wg.here h hp⟩
  · exact h.elim
theorem dt_cmp {op : CmpOp} {g : D → D → M D} {a b : Expr} {fa fb : Slots → M D} {pos : Pos} (o : OpD X c W (compareOp op) g) (ha : PE X a (dB c W fa)) (hb : PE X b (dB c W fb)) (hm : behindInMarks op b = false := by first | exact nomark _ | rfl) : PT X (.Compare a [op] [b] pos) (dT c W (testE (binE g fa fb))) := by
  obtain ⟨r, h1, h2⟩ := OpD.use (fa := fa) (fb := fb) o
  refine ⟨fun pins s σ H Q I ⟨O, ρ, pt, rs, q⟩ => ?_⟩
  have q1 : dE c W (binE g fa fb) σ H (fun x H' => ∃ k, x = .bl k ∧ Q k H') := ⟨O, ρ, pt, rs, (Wg.bnd q).imp fun d p1 H1 _ s1 q v rv => by
    obtain ⟨b, ed, q2⟩ := asB_ok q s1.pot
    subst ed
    exact ⟨b, by simpa [Cy.R, R] using rv, q2⟩⟩
  refine wpAny_isTrue_Compare1 (thn (ha.run pins s σ H _ I (h2 σ H _ q1)) fun v s1 ⟨x, H1, I1, r1, q1⟩ => thn (hb.run pins s1 σ H1 _ I1 q1) fun u s2 ⟨y, H2, I2, r2, q2⟩ => thn (h1 pins s2 σ H2 x y v u _ I2 r1 r2 q2) fun z s3 ⟨t, H3, I3, r3, k, e, q3⟩ => ?_) hm
  subst e
  cases r3
  exact wpAny_truthy_bool ⟨H3, I3, q3⟩
/-- any expression whose value is True or False, as a test -/
theorem dt_val {e : Expr} {f : Slots → M D} (h : PE X e (dE c W f)) (he : ∀ whole, isTrue e X.env whole = (do let v ← whole; standAt e.pos; holding [v] (truthy v)) := by intro _; rfl) : PT X e (dT c W (testE f)) := by
  refine pt_imp (pt_val h he) fun σ H Q ⟨O, ρ, pt, rs, q⟩ => ?_
  refine ⟨O, ρ, pt, rs, (Wg.bnd q).imp fun d p1 H1 _ s1 q v rv => ?_⟩
  obtain ⟨b, ed, q2⟩ := asB_ok q s1.pot
  clear q
  subst ed
  have q := q2
  exact ⟨b, by simpa [Cy.R, R] using rv, q⟩

/-! ### and, or, not, if else -/
def andT (f g : Slots → M Bool) : Slots → M Bool := fun ρ => bnd (f ρ) fun b => if b then g ρ else ret false
def orT (f g : Slots → M Bool) : Slots → M Bool := fun ρ => bnd (f ρ) fun b => if b then ret true else g ρ
def notT (f : Slots → M Bool) : Slots → M Bool := fun ρ => bnd (f ρ) fun b => ret (!b)
theorem dw_and1 {a : Expr} {pos : Pos} {f : Slots → M Bool} (h : PT X a (dT c W f)) : PW X (.BoolOp .And [a] pos) (dT c W f) := pw_and1 h
theorem dw_or1 {a : Expr} {pos : Pos} {f : Slots → M Bool} (h : PT X a (dT c W f)) : PW X (.BoolOp .Or [a] pos) (dT c W f) := pw_or1 h
theorem dw_and {a b : Expr} {rest : List Expr} {pos : Pos} {f g : Slots → M Bool} (ha : PT X a (dT c W f)) (hb : PW X (.BoolOp .And (b :: rest) pos) (dT c W g)) : PW X (.BoolOp .And (a :: b :: rest) pos) (dT c W (andT f g)) := by
  refine pw_imp (pw_and ha hb) fun σ H Q ⟨O, ρ, pt, rs, q⟩ => ?_
  refine ⟨O, ρ, pt, rs, (Wg.bnd q).imp fun b p1 H1 _ s1 q => ?_⟩
  cases b with
  | true => exact ⟨O, ρ, p1, rs.stp s1, q⟩
  | false => exact Wg.here q s1.pot
theorem dw_or {a b : Expr} {rest : List Expr} {pos : Pos} {f g : Slots → M Bool} (ha : PT X a (dT c W f)) (hb : PW X (.BoolOp .Or (b :: rest) pos) (dT c W g)) : PW X (.BoolOp .Or (a :: b :: rest) pos) (dT c W (orT f g)) := by
  refine pw_imp (pw_or ha hb) fun σ H Q ⟨O, ρ, pt, rs, q⟩ => ?_
  refine ⟨O, ρ, pt, rs, (Wg.bnd q).imp fun b p1 H1 _ s1 q => ?_⟩
  cases b with
  | false => exact ⟨O, ρ, p1, rs.stp s1, q⟩
  | true => exact Wg.here q s1.pot
theorem dt_not {a : Expr} {pos : Pos} {f : Slots → M Bool} (h : PT X a (dT c W f)) : PT X (.UnaryOp .Not a pos) (dT c W (notT f)) := by
  refine pt_imp (pt_not h) fun σ H Q ⟨O, ρ, pt, rs, q⟩ => ?_
  exact ⟨O, ρ, pt, rs, (Wg.bnd q).imp fun b p1 H1 _ s1 q => Wg.here q s1.pot⟩
def andE (f g : Slots → M D) : Slots → M D := fun ρ => bnd (bnd (f ρ) asB) fun b => if b then g ρ else ret (.bl false)
def orE (f g : Slots → M D) : Slots → M D := fun ρ => bnd (bnd (f ρ) asB) fun b => if b then ret (.bl true) else g ρ
def notE (f : Slots → M D) : Slots → M D := fun ρ => bnd (bnd (f ρ) asB) fun b => ret (.bl (!b))
theorem de_one {op} {a : Expr} {pos : Pos} {f : Slots → M D} (h : PE X a (dE c W f)) : PE X (.BoolOp op [a] pos) (dE c W f) := pe_one h
theorem de_and {a b : Expr} {rest : List Expr} {pos : Pos} {f g : Slots → M D} (ha : PE X a (dE c W f)) (hb : PE X (.BoolOp .And (b :: rest) pos) (dE c W g)) : PE X (.BoolOp .And (a :: b :: rest) pos) (dE c W (andE f g)) := by
  refine pe_imp (pe_and ha hb) fun σ H Q ⟨O, ρ, pt, rs, q⟩ => ?_
  refine ⟨O, ρ, pt, rs, (Wg.bnd (Wg.bnd q)).imp fun d p1 H1 _ s1 q v rv => ?_⟩
  obtain ⟨b, ed, q2⟩ := asB_ok q s1.pot
  clear q
  subst ed
  have q := q2
  refine ⟨b, by simpa [Cy.R, R] using rv, ?_⟩
  cases b with
  | true => exact ⟨O, ρ, p1, rs.stp s1, q⟩
  | false => exact Wg.here q s1.pot _ (by simp [Cy.R, R])
theorem de_or {a b : Expr} {rest : List Expr} {pos : Pos} {f g : Slots → M D} (ha : PE X a (dE c W f)) (hb : PE X (.BoolOp .Or (b :: rest) pos) (dE c W g)) : PE X (.BoolOp .Or (a :: b :: rest) pos) (dE c W (orE f g)) := by
  refine pe_imp (pe_or ha hb) fun σ H Q ⟨O, ρ, pt, rs, q⟩ => ?_
  refine ⟨O, ρ, pt, rs, (Wg.bnd (Wg.bnd q)).imp fun d p1 H1 _ s1 q v rv => ?_⟩
  obtain ⟨b, ed, q2⟩ := asB_ok q s1.pot
  clear q
  subst ed
  have q := q2
  refine ⟨b, by simpa [Cy.R, R] using rv, ?_⟩
  cases b with
  | false => exact ⟨O, ρ, p1, rs.stp s1, q⟩
  | true => exact Wg.here q s1.pot _ (by simp [Cy.R, R])
theorem de_not {a : Expr} {pos : Pos} {f : Slots → M D} (h : PE X a (dE c W f)) : PE X (.UnaryOp .Not a pos) (dE c W (notE f)) := by
  refine pe_imp (pe_not h) fun σ H Q ⟨O, ρ, pt, rs, q⟩ => ?_
  refine ⟨O, ρ, pt, rs, (Wg.bnd (Wg.bnd q)).imp fun d p1 H1 _ s1 q v rv => ?_⟩
  obtain ⟨b, ed, q2⟩ := asB_ok q s1.pot
  clear q
  subst ed
  have q := q2
  exact ⟨b, by simpa [Cy.R, R] using rv, Wg.here q s1.pot _ (by simp [Cy.R, R])⟩
def ifE (t : Slots → M Bool) (f g : Slots → M D) : Slots → M D := fun ρ => bnd (t ρ) fun b => if b then f ρ else g ρ
theorem de_if {t a b : Expr} {pos : Pos} {ft : Slots → M Bool} {f g : Slots → M D} (ht : PT X t (dT c W ft)) (ha : PE X a (dE c W f)) (hb : PE X b (dE c W g)) : PE X (.IfExp t a b pos) (dE c W (ifE ft f g)) := by
  refine pe_imp (pe_ifExp ht ha hb) fun σ H Q ⟨O, ρ, pt, rs, q⟩ => ?_
  refine ⟨O, ρ, pt, rs, (Wg.bnd q).imp fun b p1 H1 _ s1 q => ?_⟩
  cases b with
  | true => exact ⟨O, ρ, p1, rs.stp s1, q⟩
  | false => exact ⟨O, ρ, p1, rs.stp s1, q⟩
end
end DF

set_option Elab.async false
set_option linter.all false
set_option maxRecDepth 100000
set_option maxHeartbeats 4000000
namespace DF
open PySem L2
section
variable {X : Cx} {c : Cy} {W : WX}
/-! ### operators without effects -/
def pu (g : D → D → Option D) : D → D → M D := fun x y => opt (g x y)
theorem opd_pu {f : Value → Value → Sem Value} {g : D → D → Option D} {r : R2} (h : OpR X f r)
    (ok : ∀ (O : List (Nat × Addr)) (H : Hp) (x y z : D) (v w : V) (Q : VK), RB c O H x v → RB c O H y w → g x y = some z → (∀ v', c.R (Hd (hid c O) H) z v' → Q v' H) → r v w H Q) : OpD X c W f (pu g) :=
  ⟨fun _ => r, ops_of h, fun σ O ρ pt H Q x y v w rs rx ry q => by
    obtain ⟨z, e, q⟩ := Wg.opt q rs.pot
    exact ok O H x y z v w Q rx ry e q⟩
def orM (g h : D → D → M D) : D → D → M D := fun x y pt => match g x y pt with
  | .stuck => h x y pt
  | r => r
theorem OpD.or {f : Value → Value → Sem Value} {g h : D → D → M D} (a : OpD X c W f g) (b : OpD X c W f h) : OpD X c W f (orM g h) := by
  obtain ⟨r, r1, r2⟩ := a
  obtain ⟨r', r1', r2'⟩ := b
  refine ⟨_, r1.or r1', fun σ O ρ pt H Q x y v w rs rx ry q => ?_⟩
  unfold orM at q
  cases e : g x y pt with
  | stuck =>
    rw [e] at q
    exact .inr (r2' σ O ρ pt H Q x y v w rs rx ry q)
  | ok d p =>
    rw [e] at q
    exact .inl (r2 σ O ρ pt H Q x y v w rs rx ry (by rw [e]; exact q))
  | exc k fs p =>
    rw [e] at q
    exact .inl (r2 σ O ρ pt H Q x y v w rs rx ry (by rw [e]; exact q))
def iop (g : Int → Int → Int) : D → D → Option D
  | .int i, .int j => some (.int (g i j))
  | _, _ => none
theorem opd_iop {f : Value → Value → Sem Value} {g : Int → Int → Int} (h : OpR X f (rI0 fun i j => .int (g i j))) : OpD X c W f (pu (iop g)) := opd_pu h fun O H x y z v w Q rx ry e q => by
  unfold iop at e
  split at e
  · cases e
    exact ⟨_, _, rx.int, ry.int, q _ (by simp [Cy.R, R])⟩
  · cases e
def iopC (C : Int → Int → Bool) (g : Int → Int → Int) : D → D → Option D
  | .int i, .int j => if C i j then some (.int (g i j)) else none
  | _, _ => none
theorem opd_iopC {f : Value → Value → Sem Value} {P : Int → Int → Prop} {C : Int → Int → Bool} {g : Int → Int → Int} (h : OpR X f (rI P fun i j => .int (g i j))) (hC : ∀ i j, C i j = true → P i j) : OpD X c W f (pu (iopC C g)) := opd_pu h fun O H x y z v w Q rx ry e q => by
  unfold iopC at e
  split at e
  · split at e
    · rename_i hc
      cases e
      exact ⟨_, _, rx.int, ry.int, hC _ _ hc, q _ (by simp [Cy.R, R])⟩
    · cases e
  · cases e
def icmp (g : Int → Int → Bool) : D → D → Option D
  | .int i, .int j => some (.bl (g i j))
  | _, _ => none
theorem opd_icmp {f : Value → Value → Sem Value} {g : Int → Int → Bool} (h : OpR X f (rI0 fun i j => .bl (g i j))) : OpD X c W f (pu (icmp g)) := opd_pu h fun O H x y z v w Q rx ry e q => by
  unfold icmp at e
  split at e
  · cases e
    exact ⟨_, _, rx.int, ry.int, q _ (by simp [Cy.R, R])⟩
  · cases e
def sAdd : D → D → Option D
  | .str a, .str b => if a.length + b.length ≤ 1000000 then some (.str (a ++ b)) else none
  | _, _ => none
theorem od_sAdd : OpD X c W (binaryOp .Add) (pu sAdd) := opd_pu op_add_str fun O H x y z v w Q rx ry e q => by
  unfold sAdd at e
  split at e
  · split at e
    · rename_i hc
      cases e
      exact ⟨_, _, rx.str, ry.str, Nat.le_trans hc (by decide), q _ (by simp [Cy.R, R])⟩
    · cases e
  · cases e
abbrev iAdd := iop (· + ·)
abbrev iSub := iop (· - ·)
abbrev iMul := iopC (fun i j => decide (i.natAbs.log2 + j.natAbs.log2 < 1000000)) (· * ·)
abbrev iDiv := iopC (fun _ j => decide (0 < j) && decide (j.natAbs.log2 < 9000)) (· / ·)
abbrev iMod := iopC (fun _ j => decide (0 < j)) (· % ·)
abbrev iPow := iopC (fun i j => decide (0 ≤ j) && (decide (j ≤ 1000000) && decide (i.natAbs < 2 ^ 64))) (fun i j => i ^ j.toNat)
theorem od_iAdd : OpD X c W (binaryOp .Add) (pu iAdd) := opd_iop op_add
theorem od_iSub : OpD X c W (binaryOp .Sub) (pu iSub) := opd_iop op_sub
theorem od_iMul : OpD X c W (binaryOp .Mult) (pu iMul) := opd_iopC op_mulW fun i j h => (of_decide_eq_true h : i.natAbs.log2 + j.natAbs.log2 < 1000000)
theorem od_iDiv : OpD X c W (binaryOp .FloorDiv) (pu iDiv) := opd_iopC op_fdivW fun i j h => by
  rw [Bool.and_eq_true] at h
  exact ⟨of_decide_eq_true h.1, of_decide_eq_true h.2⟩
theorem od_iMod : OpD X c W (binaryOp .Mod) (pu iMod) := opd_iopC op_mod fun i j h => of_decide_eq_true h
theorem od_iPow : OpD X c W (binaryOp .Pow) (pu iPow) := opd_iopC op_pow fun i j h => by
  rw [Bool.and_eq_true, Bool.and_eq_true] at h
  exact ⟨of_decide_eq_true h.1, of_decide_eq_true h.2.1, of_decide_eq_true h.2.2⟩
abbrev iLt := icmp fun i j => decide (i < j)
abbrev iLe := icmp fun i j => decide (i ≤ j)
abbrev iGt := icmp fun i j => decide (j < i)
abbrev iGe := icmp fun i j => decide (j ≤ i)
theorem od_iLt : OpD X c W (compareOp .Lt) (pu iLt) := opd_icmp op_lt
theorem od_iLe : OpD X c W (compareOp .LtE) (pu iLe) := opd_icmp op_le
theorem od_iGt : OpD X c W (compareOp .Gt) (pu iGt) := opd_icmp op_gt
theorem od_iGe : OpD X c W (compareOp .GtE) (pu iGe) := opd_icmp op_ge
/-! ### lists and tuples put together -/
/-- what an operator's rule r says, where it makes a new list -/
def OpL (X : Cx) (c : Cy) (W : WX) (f : Value → Value → Sem Value) (g : D → D → M (List D)) : Prop := ∃ r : R2, OpR X f r ∧
  ∀ (σ : L2.St) (O : List (Nat × Addr)) (ρ : Slots) (pt p1 : Pot) (H H1 : Hp) (Q : VK) (x y : D) (v w : V), RS c O ρ σ H pt → Stp c.T.tb c.p H H1 p1 → RB c O H1 x v → RB c O H1 y w →
    Wg c W σ H1 (fun ds _ H' => ∀ l vs, Hd [] H l = none → H' l = some (.lst vs) → c.RL (Hd (l :: hid c O) H') ds vs → Q (.ref l) H') (g x y p1) → r v w H1 Q
def binL (g : D → D → M (List D)) (fa fb : Slots → M D) : Slots → M (List D) := fun ρ => bnd (fa ρ) fun x => bnd (fb ρ) fun y => g x y
theorem dl_op {op : Operator} {g : D → D → M (List D)} {a b : Expr} {fa fb : Slots → M D} {pos : Pos} (o : OpL X c W (binaryOp op) g) (ha : PE X a (dB c W fa)) (hb : PE X b (dB c W fb)) : PE X (.BinOp a op b pos) (dL c W (binL g fa fb)) := by
  obtain ⟨r, h1, h2⟩ := o
  refine pe_imp (pe_op h1 ha hb) fun σ H Q ⟨O, ρ, pt, rs, q⟩ => ?_
  refine ⟨O, ρ, pt, rs, (Wg.bnd q).imp fun x p1 H1 _ s1 q v rv => ?_⟩
  have rs1 := rs.stp s1
  refine ⟨O, ρ, p1, rs1, (Wg.bnd q).imp fun y p2 H2 _ s2 q w rw => ?_⟩
  exact h2 σ O ρ pt p2 H H2 Q x y v w rs (s1.trans s2) (rv.stp rs1 s2) rw q
def lCat : D → D → M (List D)
  | .lst xs, .lst ys => if xs.length + ys.length ≤ 100000 then ret (xs ++ ys) else fail
  | _, _ => fail
theorem od_lCat : OpL X c W (binaryOp .Add) lCat := ⟨_, op_cat, fun σ O ρ pt p1 H H1 Q x y v w rs s1 rx ry q => by
  cases x with
  | lst xs =>
    cases y with
    | lst ys =>
      simp only [lCat] at q
      by_cases hz : xs.length + ys.length ≤ 100000
      · rw [if_pos hz] at q
        obtain ⟨a, vs, rfl, ha, ra⟩ := rx.lst
        obtain ⟨b, ws, rfl, hb, rb⟩ := ry.lst
        exact ⟨a, b, vs, ws, rfl, rfl, ha, hb, sz5 (by rw [← RL.len ra, ← RL.len rb]; exact hz), fun l hl => new_lst rs s1 (RL.app ra rb) hl q⟩
      · rw [if_neg hz] at q
        exact q.elim
    | _ => exact q.elim
  | _ => exact q.elim⟩
def boxM (g : D → D → M (List D)) : D → D → M D := fun x y => bnd (g x y) fun ds => ret (.lst ds)
/-- .. as a value -/
theorem OpL.d {f : Value → Value → Sem Value} {g : D → D → M (List D)} (o : OpL X c W f g) : OpD X c W f (boxM g) := by
  obtain ⟨r, h1, h2⟩ := o
  refine ⟨fun _ => r, ops_of h1, fun σ O ρ pt H Q x y v w rs rx ry q => h2 σ O ρ pt pt H H Q x y v w rs (Stp.refl rs.pot) rx ry ((Wg.bnd q).imp fun ds p1 H1 _ s1 q l vs hl h1 rl => ?_)⟩
  refine Wg.here q s1.pot _ ?_
  simp only [Cy.R, R]
  refine ⟨l, vs, rfl, ?_, RL.gr (Hd.sub fun a h => List.mem_cons_of_mem _ h) rl⟩
  exact Hd.out (rs.freshF hl) h1
theorem RL.nil_iff {K : PySem.W.Frag} {T : Tb} {p : Addr} {H : Hp} {ds : List D} {vs : List V} (h : RL K T p H ds vs) : ds = [] ↔ vs = [] := by
  have := RL.len h
  constructor
  · intro e; subst e; simpa using this.symm
  · intro e; subst e; simpa using this
theorem RB.tupR {O : List (Nat × Addr)} {H : Hp} {ds : List D} {v : V} (h : RB c O H (.tup ds) v) : c.R (Hd (hid c O) H) (.tup ds) v := by
  rcases h with h | ⟨_, _, _, _, e, _⟩ | ⟨_, _, _, _, e, _⟩
  · exact h
  · cases e
  · cases e
def tCat : D → D → M D
  | .tup xs, .tup ys => if xs.length + ys.length ≤ 100000 ∧ xs.isEmpty = false then ret (.tup (xs ++ ys)) else fail
  | _, _ => fail
theorem od_tCat (hK : c.K = X.K := by rfl) : OpD X c W (binaryOp .Add) tCat := ⟨_, ops_of op_catT, fun σ O ρ pt H Q x y v w rs rx ry q => by
  cases x with
  | tup xs =>
    cases y with
    | tup ys =>
      simp only [tCat] at q
      by_cases hz : xs.length + ys.length ≤ 100000 ∧ xs.isEmpty = false
      · rw [if_pos hz] at q
        obtain ⟨a, vs, rfl, ha, ra⟩ := rx.tup
        obtain ⟨b, ws, rfl, hb, rb⟩ := ry.tup
        rw [hK] at ha hb
        refine ⟨a, b, vs, ws, rfl, rfl, ha, hb, fun e => ?_, sz5 (by rw [← RL.len ra, ← RL.len rb]; exact hz.1), fun e => ?_, fun _ l hl => q _ (Stp.new rs.pot hl) _ (mk_tup rs hl (RL.app ra rb))⟩
        · have := (RL.nil_iff ra).mpr e
          subst this
          simp at hz
        · have := (RL.nil_iff rb).mpr e
          subst this
          rw [List.append_nil] at q
          exact Wg.here q rs.pot _ rx.tupR
      · rw [if_neg hz] at q
        exact q.elim
    | _ => exact q.elim
  | _ => exact q.elim⟩

/-! ### == and != of data -/
mutual
def toPy : D → Option PyData
  | .non => some .none
  | .bl b => some (.bool b)
  | .int i => some (.int i)
  | .str x => some (.str x)
  | .tup ds => (toPyL ds).map .tuple
  | .lst ds => (toPyL ds).map .list
  | _ => none
def toPyL : List D → Option (List PyData)
  | [] => some []
  | d :: ds => (toPy d).bind fun x => (toPyL ds).map fun xs => x :: xs
end
mutual
theorem toPy_dp {K : PySem.W.Frag} {T : Tb} {p : Addr} {H H' : Hp} (g : Gr H H') : ∀ {d : D} {v : V} {x : PyData}, R K T p H d v → toPy d = some x → Dp K H' v x
  | .non, _, _, h, e => by simp only [R] at h; simp only [toPy] at e; cases e; subst h; exact .non
  | .bl b, _, _, h, e => by simp only [R] at h; simp only [toPy] at e; cases e; subst h; exact .bl b
  | .int b, _, _, h, e => by simp only [R] at h; simp only [toPy] at e; cases e; subst h; exact .int b
  | .str b, _, _, h, e => by simp only [R] at h; simp only [toPy] at e; cases e; subst h; exact .str b
  | .tup ds, _, _, h, e => by
    simp only [R] at h
    simp only [toPy] at e
    obtain ⟨a, vs, rfl, s, r⟩ := h
    cases q : toPyL ds with
    | none => rw [q] at e; cases e
    | some xs => rw [q] at e; cases e; exact .tup (g.sqt s) (toPyL_dp g r q)
  | .lst ds, _, _, h, e => by
    simp only [R] at h
    simp only [toPy] at e
    obtain ⟨a, vs, rfl, s, r⟩ := h
    cases q : toPyL ds with
    | none => rw [q] at e; cases e
    | some xs => rw [q] at e; cases e; exact .lst (.inl (.inl (g _ _ s))) (toPyL_dp g r q)
  | .dct _, _, _, _, e | .obj _ _, _, _, _, e | .ex _ _, _, _, _, e | .pot, _, _, _, e | .fn _, _, _, _, e | .cls _, _, _, _, e | .ty _, _, _, _, e => by simp only [toPy] at e; cases e
theorem toPyL_dp {K : PySem.W.Frag} {T : Tb} {p : Addr} {H H' : Hp} (g : Gr H H') : ∀ {d : List D} {v : List V} {x : List PyData}, RL K T p H d v → toPyL d = some x → DpAll K H' v x
  | [], _, _, h, e => by simp only [RL] at h; simp only [toPyL] at e; cases e; subst h; exact .nil
  | d :: ds, _, _, h, e => by
    simp only [RL] at h
    simp only [toPyL] at e
    obtain ⟨v, ws, rfl, r, rs⟩ := h
    cases q : toPy d with
    | none => rw [q] at e; cases e
    | some x =>
      rw [q] at e
      cases q2 : toPyL ds with
      | none => rw [q2] at e; cases e
      | some xs => rw [q2] at e; cases e; exact .cons (toPy_dp g r q) (toPyL_dp g rs q2)
end
theorem RB.dp {O : List (Nat × Addr)} {H : Hp} {d : D} {v : V} {x : PyData} (h : RB c O H d v) (e : toPy d = some x) : Dp c.K H v x := by
  rcases h with h | ⟨i, a, ds, vs, e1, ev, m, ha, rl⟩ | ⟨i, a, ds, vs, e1, ev, m, ha, rl⟩
  · exact toPy_dp Hd.le h e
  · subst e1
    subst ev
    simp only [toPy] at e
    cases q : toPyL ds with
    | none => rw [q] at e; cases e
    | some xs => rw [q] at e; cases e; exact .lst (.inl (.inl ha)) (toPyL_dp Hd.le rl q)
  · subst e1
    simp only [toPy] at e
    cases e
def eqP : D → D → Option Bool
  | .int i, .int j => some (decide (i = j))
  | .str i, .str j => some (decide (i = j))
  | .bl i, .bl j => some (decide (i = j))
  | .non, .non => some true
  | .non, .int _ | .non, .bl _ | .non, .str _ | .int _, .non | .bl _, .non | .str _, .non | .int _, .str _ | .str _, .int _ | .bl _, .str _ | .str _, .bl _ => some false
  | x, y => (toPy x).bind fun a => (toPy y).bind fun b => if SeqAt.shaped a && SeqAt.shaped b then some (PyData.eqv a b) else none
def dEq (x y : D) : Option D := (eqP x y).map .bl
def dNe (x y : D) : Option D := (eqP x y).map fun b => .bl (!b)
theorem eqP_ok {O : List (Nat × Addr)} {H : Hp} {x y : D} {v w : V} {b : Bool} (rx : RB c O H x v) (ry : RB c O H y w) (e : eqP x y = some b) : (scal v w = true ∧ b = decide (v = w)) ∨ ∃ d e, Dp c.K H v d ∧ Dp c.K H w e ∧ SeqAt.shaped d = true ∧ SeqAt.shaped e = true ∧ b = PyData.eqv d e := by
  unfold eqP at e
  split at e
  · cases e
    rw [rx.int, ry.int]
    exact .inl ⟨rfl, by simp⟩
  · cases e
    rw [rx.str, ry.str]
    exact .inl ⟨rfl, by simp⟩
  · cases e
    rw [rx.bl, ry.bl]
    exact .inl ⟨rfl, by simp⟩
  · cases e
    rw [rx.non, ry.non]
    exact .inl ⟨rfl, by simp⟩
  · cases e; rw [rx.non, ry.int]; exact .inl ⟨rfl, by simp⟩
  · cases e; rw [rx.non, ry.bl]; exact .inl ⟨rfl, by simp⟩
  · cases e; rw [rx.non, ry.str]; exact .inl ⟨rfl, by simp⟩
  · cases e; rw [rx.int, ry.non]; exact .inl ⟨rfl, by simp⟩
  · cases e; rw [rx.bl, ry.non]; exact .inl ⟨rfl, by simp⟩
  · cases e; rw [rx.str, ry.non]; exact .inl ⟨rfl, by simp⟩
  · cases e; rw [rx.int, ry.str]; exact .inl ⟨rfl, by simp⟩
  · cases e; rw [rx.str, ry.int]; exact .inl ⟨rfl, by simp⟩
  · cases e; rw [rx.bl, ry.str]; exact .inl ⟨rfl, by simp⟩
  · cases e; rw [rx.str, ry.bl]; exact .inl ⟨rfl, by simp⟩
  · cases q1 : toPy x with
    | none => rw [q1] at e; cases e
    | some d1 =>
      cases q2 : toPy y with
      | none => rw [q1, q2] at e; cases e
      | some d2 =>
        rw [q1, q2] at e
        simp only [Option.bind_some] at e
        split at e
        · rename_i hs
          rw [Bool.and_eq_true] at hs
          cases e
          exact .inr ⟨d1, d2, rx.dp q1, ry.dp q2, hs.1, hs.2, rfl⟩
        · cases e
theorem od_dEq {k : Nat} (hr : Room k X.A) (hK : c.K = X.K := by rfl) : OpD X c W (compareOp .Eq) (pu dEq) := opd_pu (op_eq.or (op_eqD hr.units)) fun O H x y z v w Q rx ry e q => by
  unfold dEq at e
  cases q1 : eqP x y with
  | none => rw [q1] at e; cases e
  | some b =>
    rw [q1] at e
    cases e
    rcases eqP_ok rx ry q1 with ⟨h1, h2⟩ | ⟨d, e, h1, h2, h3, h4, h5⟩
    · exact .inl ⟨h1, h2 ▸ q _ (by simp [Cy.R, R])⟩
    · rw [hK] at h1 h2
      exact .inr ⟨d, e, h1, h2, h3, h4, h5 ▸ q _ (by simp [Cy.R, R])⟩
theorem od_dNe {k : Nat} (hr : Room k X.A) (hK : c.K = X.K := by rfl) : OpD X c W (compareOp .NotEq) (pu dNe) := opd_pu (op_ne.or (op_neD hr.units)) fun O H x y z v w Q rx ry e q => by
  unfold dNe at e
  cases q1 : eqP x y with
  | none => rw [q1] at e; cases e
  | some b =>
    rw [q1] at e
    cases e
    rcases eqP_ok rx ry q1 with ⟨h1, h2⟩ | ⟨d, e, h1, h2, h3, h4, h5⟩
    · exact .inl ⟨h1, h2 ▸ q _ (by simp [Cy.R, R])⟩
    · rw [hK] at h1 h2
      exact .inr ⟨d, e, h1, h2, h3, h4, h5 ▸ q _ (by simp [Cy.R, R])⟩
/-! ### is None -/
def isNon : D → Bool
  | .non => true
  | _ => false
theorem isNon_ok {O : List (Nat × Addr)} {H : Hp} {x : D} {v : V} (h : RB c O H x v) : decide (v = .non) = isNon x := by
  have fin : ∀ {a : Addr}, v = .ref a → decide (v = .non) = false := fun e => by subst e; simp
  cases x with
  | non => rw [h.non]; rfl
  | bl b => rw [h.bl]; simp [isNon]
  | int i => rw [h.int]; simp [isNon]
  | str x => rw [h.str]; simp [isNon]
  | tup ds => obtain ⟨a, _, e, _⟩ := h.tup; exact fin e
  | lst ds => obtain ⟨a, _, e, _⟩ := h.lst; exact fin e
  | dct ds => obtain ⟨a, _, e, _⟩ := h.dct; exact fin e
  | obj k fs =>
    have q := h.obj
    simp only [Cy.R, R] at q
    obtain ⟨a, _, _, e, _⟩ := q
    exact fin e
  | ex k fs =>
    rcases h with h | ⟨_, _, _, _, e, _⟩ | ⟨_, _, _, _, e, _⟩
    · simp only [Cy.R, R] at h
      obtain ⟨a, _, _, e, _⟩ := h
      exact fin e
    · cases e
    · cases e
  | pot | fn _ | cls _ =>
    rcases h with h | ⟨_, _, _, _, e, _⟩ | ⟨_, _, _, _, e, _⟩
    · simp only [Cy.R, R] at h; exact fin h
    · cases e
    · cases e
  | ty n =>
    rcases h with h | ⟨_, _, _, _, e, _⟩ | ⟨_, _, _, _, e, _⟩
    · simp only [Cy.R, R] at h; subst h; simp [isNon]
    · cases e
    · cases e
def isN : D → D → Option D
  | x, .non => some (.bl (isNon x))
  | _, _ => none
def notN : D → D → Option D
  | x, .non => some (.bl (!isNon x))
  | _, _ => none
theorem od_isN : OpD X c W (compareOp .Is) (pu isN) := opd_pu op_isN fun O H x y z v w Q rx ry e q => by
  cases y <;> first | (simp only [isN] at e; cases e; done) | skip
  simp only [isN] at e
  cases e
  exact ⟨ry.non, by rw [isNon_ok rx]; exact q _ (by simp [Cy.R, R])⟩
theorem od_notN : OpD X c W (compareOp .IsNot) (pu notN) := opd_pu op_notN fun O H x y z v w Q rx ry e q => by
  cases y <;> first | (simp only [notN] at e; cases e; done) | skip
  simp only [notN] at e
  cases e
  exact ⟨ry.non, by rw [isNon_ok rx]; exact q _ (by simp [Cy.R, R])⟩
/-! ### unary -/
def negE (f : Slots → M D) : Slots → M D := fun ρ => bnd (f ρ) fun d => match d with
  | .int i => ret (.int (-i))
  | _ => fail
theorem de_neg {a : Expr} {pos : Pos} {f : Slots → M D} (h : PE X a (dE c W f)) : PE X (.UnaryOp .USub a pos) (dE c W (negE f)) := by
  refine pe_imp (pe_un un_neg h) fun σ H Q ⟨O, ρ, pt, rs, q⟩ => ?_
  refine ⟨O, ρ, pt, rs, (Wg.bnd q).imp fun d p1 H1 _ s1 q v rv => ?_⟩
  cases d with
  | int i => exact ⟨i, by simpa [Cy.R, R] using rv, Wg.here q s1.pot _ (by simp [Cy.R, R])⟩
  | _ => exact q.elim
end
end DF

set_option Elab.async false
set_option linter.all false
set_option maxRecDepth 100000
set_option maxHeartbeats 4000000
namespace DF
open PySem L2
/-! ### statements -/
section
variable {X : Cx} {c : Cy} {W : WX} {σ : L2.St} {H H' : Hp} {O : List (Nat × Addr)} {ρ : Slots} {pt pt' : Pot}
theorem Mv.refl : Mv c O H O H := fun a o h e _ => ⟨h, e⟩
/-- what is wanted of the rest, from a later heap -/
theorem WO.from {E : Ends} {O1 : List (Nat × Addr)} {H1 : Hp} {r : Res Out} (m : Mv c O H O1 H1) (h : WO c W E O H r) : WO c W E O1 H1 r := by
  cases r with
  | ok o p =>
    cases o with
    | nx ρ' => exact fun O' σ' H' rs m' => h O' σ' H' rs (m.trans m')
    | bk ρ' => exact fun O' σ' H' rs m' => h O' σ' H' rs (m.trans m')
    | ct ρ' => exact fun O' σ' H' rs m' => h O' σ' H' rs (m.trans m')
    | rt d => exact h
  | exc e fs p => exact h
  | stuck => exact h
theorem Fin.of_stp (r : RS c O ρ σ H pt) (s : Stp c.T.tb c.p H H' pt') : Fin c H' pt' := (r.stp s).fin
/-- an expression, then what is done with it -/
theorem WO.bnd {α : Type} {E : Ends} {m : M α} {k : α → M Out} (r : RS c O ρ σ H pt) (h : WO c W E O H (DF.bnd m k pt)) : Wg c W σ H (fun a q H' => WO c W E O H' (k a q)) (m pt) := by
  unfold DF.bnd at h
  cases e : m pt with
  | ok a q =>
    rw [e] at h
    exact fun H' st => WO.from (st.mv r.hp) h
  | exc _ _ _ =>
    rw [e] at h
    exact fun cls dd H' st x => h cls dd σ H' (Fin.of_stp r st) x
  | stuck =>
    rw [e] at h
    exact h
def seqS (f g : Slots → M Out) : Slots → M Out := fun ρ => bnd (f ρ) fun o => match o with
  | .nx ρ' => g ρ'
  | o => ret o
def nilS : Slots → M Out := fun ρ => ret (.nx ρ)
theorem dss_nil : PSs X [] (dS c W nilS) := pss_imp pss_nil fun E σ H ⟨O, ρ, pt, r, h⟩ => h O σ H r Mv.refl
theorem dss_cons {st : Stmt} {rest : List Stmt} {f g : Slots → M Out} (h1 : PS X st (dS c W f)) (h2 : PSs X rest (dS c W g)) : PSs X (st :: rest) (dS c W (seqS f g)) := by
  refine pss_imp (pss_cons h1 h2) fun E σ H ⟨O, ρ, pt, r, h⟩ => ⟨O, ρ, pt, r, ?_⟩
  unfold seqS DF.bnd at h
  cases e : f ρ pt with
  | ok o q =>
    rw [e] at h
    cases o with
    | nx ρ' => exact fun O' σ' H' rs m => ⟨O', ρ', q, rs, WO.from m h⟩
    | bk ρ' => exact h
    | ct ρ' => exact h
    | rt d => exact h
  | exc _ _ _ =>
    rw [e] at h
    exact h
  | stuck =>
    rw [e] at h
    exact h
theorem dss_one {st : Stmt} {f : Slots → M Out} (h1 : PS X st (dS c W f)) : PSs X [st] (dS c W f) := pss_one h1
theorem ds_pass {pos : Pos} : PS X (.Pass pos) (dS c W nilS) := ps_imp ps_pass fun E σ H ⟨O, ρ, pt, r, h⟩ => h O σ H r Mv.refl
def retS (f : Slots → M D) : Slots → M Out := fun ρ => bnd (f ρ) fun d => ret (.rt d)
theorem RS.out (r : RS c O ρ σ H pt) : Gr (Hd (hid c O) H) (Hd c.S H) := Hd.sub fun a h => List.mem_append_left _ h
theorem ds_ret {e : Expr} {f : Slots → M D} {pos : Pos} (h : PE X e (dE c W f)) : PS X (.Return (some e) pos) (dS c W (retS f)) := by
  refine ps_imp (ps_ret h) fun E σ H ⟨O, ρ, pt, r, h⟩ => ⟨O, ρ, pt, r, (WO.bnd r h).imp fun d p1 H1 _ s1 q v rv => ?_⟩
  exact q v H1 (Fin.of_stp r s1) (R.gr (r.stp s1).out rv)
def retNS : Slots → M Out := fun _ => ret (.rt .non)
theorem ds_retN {pos : Pos} : PS X (.Return none pos) (dS c W retNS) := ps_imp ps_retN fun E σ H ⟨O, ρ, pt, r, h⟩ => h .non H r.fin (by simp [Cy.R, R])
def dropS (f : Slots → M D) : Slots → M Out := fun ρ => bnd (f ρ) fun _ => ret (.nx ρ)
theorem ds_expr {e : Expr} {f : Slots → M D} {pos : Pos} (h : PE X e (dE c W f)) (hs : swapsWith e none pos.line X.env = pure false := by rfl) : PS X (.Expr e pos) (dS c W (dropS f)) := by
  refine ps_imp (ps_expr h hs) fun E σ H ⟨O, ρ, pt, r, h⟩ => ⟨O, ρ, pt, r, (WO.bnd r h).imp fun d p1 H1 _ s1 q v rv => ?_⟩
  exact q O σ H1 (r.stp s1) Mv.refl
def ifS (t : Slots → M Bool) (f g : Slots → M Out) : Slots → M Out := fun ρ => bnd (t ρ) fun b => if b then f ρ else g ρ
theorem ds_if {e : Expr} {t : Slots → M Bool} {a b : List Stmt} {f g : Slots → M Out} {pos : Pos} (h : PT X e (dT c W t)) (ha : PSs X a (dS c W f)) (hb : PSs X b (dS c W g)) : PS X (.If e a b pos) (dS c W (ifS t f g)) := by
  refine ps_imp (ps_if h ha hb) fun E σ H ⟨O, ρ, pt, r, h⟩ => ⟨O, ρ, pt, r, (WO.bnd r h).imp fun b p1 H1 _ s1 q => ?_⟩
  cases b with
  | true => exact ⟨O, ρ, p1, r.stp s1, q⟩
  | false => exact ⟨O, ρ, p1, r.stp s1, q⟩
/-- a statement that is not reached -/
theorem ds_never {st : Stmt} : PS X st (dS c W fun _ => fail) := ps_imp (ps_never (st := st)) fun E σ H ⟨O, ρ, pt, r, h⟩ => h.elim

/-! ### slots -/
theorem fil_mem {O : List (Nat × Addr)} {i : Nat} {q : Nat × Addr} (h : q ∈ O.filter fun q => decide (q.1 ≠ i)) : q ∈ O ∧ q.1 ≠ i := by
  obtain ⟨h1, h2⟩ := List.mem_filter.mp h
  exact ⟨h1, of_decide_eq_true h2⟩
theorem fil_sub {c : Cy} {O : List (Nat × Addr)} {i : Nat} : ∀ a ∈ hid c (O.filter fun q => decide (q.1 ≠ i)), a ∈ hid c O := fun a h => by
  rcases List.mem_append.mp h with h | h
  · exact List.mem_append_left _ h
  · obtain ⟨q, hq, e⟩ := List.mem_map.mp h
    exact List.mem_append_right _ (List.mem_map.mpr ⟨q, (fil_mem hq).1, e⟩)
theorem fil_nd {O : List (Nat × Addr)} {i : Nat} {β : Type} (f : Nat × Addr → β) (h : (O.map f).Nodup) : ((O.filter fun q => decide (q.1 ≠ i)).map f).Nodup :=
  List.Nodup.sublist (List.Sublist.map f List.filter_sublist) h
/-- fewer things are one's own: what stands in another slot stands -/
theorem SlotOk.fewer {i j : Nat} {x : Option (Option V)} {s : SV} (hj : j ≠ i) (h : SlotOk c O H j x s) : SlotOk c (O.filter fun q => decide (q.1 ≠ i)) H j x s := by
  have g : Gr (Hd (hid c O) H) (Hd (hid c (O.filter fun q => decide (q.1 ≠ i))) H) := Hd.sub fil_sub
  have keep : ∀ {a : Addr}, (j, a) ∈ O → (j, a) ∈ O.filter fun q => decide (q.1 ≠ i) := fun m => List.mem_filter.mpr ⟨m, decide_eq_true hj⟩
  cases s with
  | val d =>
    obtain ⟨v, e, r⟩ := h
    exact ⟨v, e, R.gr g r⟩
  | own ds =>
    obtain ⟨a, vs, m, e, q, r⟩ := h
    exact ⟨a, vs, keep m, e, q, RL.gr g r⟩
  | ownd ds =>
    obtain ⟨a, vs, m, e, q, r⟩ := h
    exact ⟨a, vs, keep m, e, q, RK.gr g r⟩
  | slf k fs =>
    obtain ⟨a, dx, vs, m, em, e, q, l, r⟩ := h
    exact ⟨a, dx, vs, keep m, em, e, q, l, RL.gr g r⟩
  | exv e fs => exact ⟨h.1, Xv.gr g h.2⟩
  | lam => exact ⟨h.1, g _ _ h.2⟩
  | raw v => exact h
theorem fil_ow {ρ : Slots} {O : List (Nat × Addr)} (h : ∀ q ∈ O, ∃ s, ρ[q.1]? = some (some s) ∧ isOwn s = true) (i : Nat) (x : Option SV) : ∀ q ∈ O.filter (fun q => decide (q.1 ≠ i)), ∃ s, (ρ.set i x)[q.1]? = some (some s) ∧ isOwn s = true := fun q hq => by
  obtain ⟨h1, h2⟩ := fil_mem hq
  rw [List.getElem?_set_ne (Ne.symm h2)]
  exact h q h1
theorem RS.drop (r : RS c O ρ σ H pt) (i : Nat) : RS c (O.filter fun q => decide (q.1 ≠ i)) (ρ.set i none) σ H pt :=
  ⟨r.pot, fun a o n h m => r.ext a o n h m, r.hp, r.hS, fun q hq => r.new q (fil_mem hq).1, fil_nd _ r.nd, fil_nd _ r.nf, by rw [List.length_set]; exact r.len, fil_ow r.ow i _, fun j s h => by
    by_cases e : j = i
    · subst e
      by_cases hl : j < ρ.length
      · rw [List.getElem?_set_self hl] at h; cases h
      · rw [List.getElem?_eq_none (by simpa using hl)] at h; cases h
    · rw [List.getElem?_set_ne (Ne.symm e)] at h
      exact (r.sl j s h).fewer e⟩
theorem Mv.fewer {i : Nat} : Mv c O H (O.filter fun q => decide (q.1 ≠ i)) H := fun a o h e _ => ⟨fun q => h (fil_sub a q), e⟩
/-- a value is stored -/
theorem RS.put {d : D} {v : V} (r : RS c O ρ σ H pt) (i : Nat) (hi : i < σ.length) (rv : c.R (Hd (hid c O) H) d v) : RS c (O.filter fun q => decide (q.1 ≠ i)) (ρ.set i (some (.val d))) (σ.set i (some v)) H pt := by
  have r1 := r.drop i
  refine ⟨r1.pot, fun a o n h m => r1.ext a o n h m, r1.hp, r1.hS, r1.new, r1.nd, r1.nf, by rw [List.length_set, List.length_set]; exact r.len, fil_ow r.ow i _, fun j s h => ?_⟩
  by_cases e : j = i
  · subst e
    rw [List.getElem?_set_self (by rw [r.len]; exact hi)] at h
    cases h
    exact ⟨v, List.getElem?_set_self hi, R.gr (Hd.sub fil_sub) rv⟩
  · rw [List.getElem?_set_ne (Ne.symm e)] at h
    have q := r1.sl j s (by rw [List.getElem?_set_ne (Ne.symm e)]; exact h)
    rw [List.getElem?_set_ne (Ne.symm e)]
    exact q
def asgS (i : Nat) (f : Slots → M D) : Slots → M Out := fun ρ => bnd (f ρ) fun d => if i < ρ.length then ret (.nx (ρ.set i (some (.val d)))) else fail
theorem ds_asg {i : Nat} {x : Str} {e : Expr} {f : Slots → M D} {pos' pos : Pos} (hN : X.N.Nodup) (h : PE X e (dE c W f)) (hi : X.N[i]? = some x := by rfl) (hx : Loc X.env.scope x := by first | exact Or.inl rfl | exact Or.inr rfl) (hs : swapsWith e (some (.Name x pos')) pos.line X.env = pure false := by rfl)
    (hf : X.fn x = true ∨ X.env.scope.names.lookup x = some .local := by first | exact .inl rfl | exact .inr rfl | assumption) : PS X (.Assign [.Name x pos'] e pos) (dS c W (asgS i f)) := by
  refine ps_imp (ps_set hN hi hx h hs hf) fun E σ H ⟨O, ρ, pt, r, h⟩ => ⟨O, ρ, pt, r, (WO.bnd r h).imp fun d p1 H1 _ s1 q v rv => ?_⟩
  by_cases hl : i < ρ.length
  · rw [if_pos hl] at q
    exact q _ _ _ ((r.stp s1).put i (by rw [← r.len]; exact hl) rv) Mv.fewer
  · rw [if_neg hl] at q
    exact q.elim
/-- a list of one's own is stored: it may be changed -/
theorem RS.putOwn {ds : List D} {vs : List V} {l : Addr} (r : RS c O ρ σ H pt) {H1 : Hp} {p1 : Pot} (s1 : Stp c.T.tb c.p H H1 p1) (i : Nat) (hi : i < σ.length) (hl : Hd [] H l = none) (h1 : H1 l = some (.lst vs)) (rl : c.RL (Hd (l :: hid c O) H1) ds vs) :
    RS c ((i, l) :: O.filter fun q => decide (q.1 ≠ i)) (ρ.set i (some (.own ds))) (σ.set i (some (.ref l))) H1 p1 ∧ Mv c O H ((i, l) :: O.filter fun q => decide (q.1 ≠ i)) H1 := by
  have nh : l ∉ hid c O := r.freshF hl
  have r1 := (r.stp s1).drop i
  have hid1 : ∀ a, a ∈ hid c ((i, l) :: O.filter fun q => decide (q.1 ≠ i)) → a = l ∨ a ∈ hid c O := fun a h => by
    rcases List.mem_append.mp h with h | h
    · exact .inr (List.mem_append_left _ h)
    · rcases List.mem_cons.mp (show a ∈ l :: (O.filter fun q => decide (q.1 ≠ i)).map (·.2) from h) with h | h
      · exact .inl h
      · exact .inr (fil_sub a (List.mem_append_right _ h))
  have mv : Mv c O H ((i, l) :: O.filter fun q => decide (q.1 ≠ i)) H1 := fun a o h e n => ⟨fun q => (hid1 a q).elim (fun z => Hd.ne e n hl z) h, s1.keep a o (fun z => h (z ▸ r.pm)) e n⟩
  have g0 : Gr (Hd (l :: hid c O) H1) (Hd (hid c ((i, l) :: O.filter fun q => decide (q.1 ≠ i))) H1) := Hd.sub fun a h => (hid1 a h).elim (fun z => z ▸ List.mem_cons_self) fun z => List.mem_cons_of_mem _ z
  have nl : l ∉ (O.filter fun q => decide (q.1 ≠ i)).map (·.2) := fun h => nh (fil_sub l (List.mem_append_right _ h))
  refine ⟨⟨s1.pot, fun a o n h m => r1.ext a o n h m, r.hp, r1.hS, fun q hq => ?_, ?_, ?_, by rw [List.length_set, List.length_set]; exact r.len, fun q hq => ?_, fun j s h => ?_⟩, mv⟩
  · rcases List.mem_cons.mp hq with e | hq
    · subst e
      refine ⟨?_, fun z => ?_, fun z => nh (List.mem_append_left _ z), _, h1, rfl⟩
      · cases e : Hd [] c.H0 l with
        | none => rfl
        | some o =>
          obtain ⟨_, e, n⟩ := Hd.sees e
          by_cases lp : l = c.p
          · exact absurd (lp ▸ r.pm) nh
          · exact absurd rfl (Hd.ne (r.ext l o lp e n) n hl)
      · have z' : l = c.p := z
        exact nh (z' ▸ r.pm)
    · exact r1.new q hq
  · exact List.nodup_cons.mpr ⟨nl, r1.nd⟩
  · refine List.nodup_cons.mpr ⟨fun h => ?_, r1.nf⟩
    obtain ⟨q, hq, e⟩ := List.mem_map.mp h
    exact (fil_mem hq).2 e
  · rcases List.mem_cons.mp hq with e | hq
    · subst e
      exact ⟨.own ds, List.getElem?_set_self (by rw [r.len]; exact hi), rfl⟩
    · exact fil_ow r.ow i _ q hq
  · by_cases e : j = i
    · subst e
      rw [List.getElem?_set_self (by rw [r.len]; exact hi)] at h
      cases h
      exact ⟨l, vs, List.mem_cons_self, List.getElem?_set_self hi, h1, RL.gr g0 rl⟩
    · rw [List.getElem?_set_ne (Ne.symm e)] at h
      rw [List.getElem?_set_ne (Ne.symm e)]
      have g : Gr (Hd (hid c O) H) (Hd (hid c ((i, l) :: O.filter fun q => decide (q.1 ≠ i))) H1) := mv.gr
      have keep : ∀ {a : Addr}, (j, a) ∈ O → (j, a) ∈ (i, l) :: O.filter fun q => decide (q.1 ≠ i) := fun m => List.mem_cons_of_mem _ (List.mem_filter.mpr ⟨m, decide_eq_true e⟩)
      have st : ∀ {a : Addr} {o : HO}, (j, a) ∈ O → H a = some o → (n : nt o = true := by rfl) → H1 a = some o := fun m q n => s1.keep _ _ (r.new _ m).2.1 q n
      have q := r.sl j s h
      cases s with
      | val d =>
        obtain ⟨v, e, r⟩ := q
        exact ⟨v, e, R.gr g r⟩
      | own ds =>
        obtain ⟨a, vs, m, e, q, r⟩ := q
        exact ⟨a, vs, keep m, e, st m q, RL.gr g r⟩
      | ownd ds =>
        obtain ⟨a, vs, m, e, q, r⟩ := q
        exact ⟨a, vs, keep m, e, st m q, RK.gr g r⟩
      | slf k fs =>
        obtain ⟨a, dx, vs, m, em, e, q, l, r⟩ := q
        exact ⟨a, dx, vs, keep m, em, e, st m q, l, RL.gr g r⟩
      | exv e fs => exact ⟨q.1, Xv.gr g q.2⟩
      | lam => exact ⟨q.1, g _ _ q.2⟩
      | raw v => exact q
def asgL (i : Nat) (f : Slots → M (List D)) : Slots → M Out := fun ρ => bnd (f ρ) fun ds => if i < ρ.length then ret (.nx (ρ.set i (some (.own ds)))) else fail
theorem ds_asgL {i : Nat} {x : Str} {e : Expr} {f : Slots → M (List D)} {pos' pos : Pos} (hN : X.N.Nodup) (h : PE X e (dL c W f)) (hi : X.N[i]? = some x := by rfl) (hx : Loc X.env.scope x := by first | exact Or.inl rfl | exact Or.inr rfl) (hs : swapsWith e (some (.Name x pos')) pos.line X.env = pure false := by rfl)
    (hf : X.fn x = true ∨ X.env.scope.names.lookup x = some .local := by first | exact .inl rfl | exact .inr rfl | assumption) : PS X (.Assign [.Name x pos'] e pos) (dS c W (asgL i f)) := by
  refine ps_imp (ps_set hN hi hx h hs hf) fun E σ H ⟨O, ρ, pt, r, h⟩ => ⟨O, ρ, pt, r, ?_⟩
  unfold asgL DF.bnd at h
  cases e : f ρ pt with
  | ok ds p1 =>
    rw [e] at h
    intro H1 s1 l vs hl h1 rl
    simp only at h
    by_cases hz : i < ρ.length
    · rw [if_pos hz] at h
      obtain ⟨rs, mv⟩ := r.putOwn s1 i (by rw [← r.len]; exact hz) hl h1 rl
      exact h _ _ _ rs mv
    · rw [if_neg hz] at h
      exact h.elim
  | exc _ _ _ =>
    rw [e] at h
    exact fun cls dd H' st x => h cls dd σ H' (Fin.of_stp r st) x
  | stuck =>
    rw [e] at h
    exact h
theorem same_of {i : Nat} {a : Addr} {q : Nat × Addr} : ∀ {O : List (Nat × Addr)}, (O.map (·.2)).Nodup → (i, a) ∈ O → q ∈ O → q.2 = a → q = (i, a)
  | [], _, m, _, _ => nomatch m
  | z :: zs, nd, m, m2, e => by
    have nd' := List.nodup_cons.mp (show (z.2 :: zs.map (·.2)).Nodup from nd)
    rcases List.mem_cons.mp m with e1 | m
    · rcases List.mem_cons.mp m2 with e2 | m2
      · rw [e1, e2]
      · exact absurd (List.mem_map.mpr ⟨q, m2, by rw [e, ← e1]⟩) nd'.1
    · rcases List.mem_cons.mp m2 with e2 | m2
      · exact absurd (List.mem_map.mpr ⟨_, m, by rw [← e2]; exact e.symm⟩) nd'.1
      · exact same_of nd'.2 m m2 e
/-- from now on it is not changed any more -/
def frz1 (i : Nat) (ρ : Slots) : Slots := match ρ[i]? with
  | some (some (.own ds)) => ρ.set i (some (.val (.lst ds)))
  | some (some (.ownd ds)) => ρ.set i (some (.val (.dct ds)))
  | _ => ρ
theorem RS.frz (r : RS c O ρ σ H pt) (i : Nat) : ∃ O', RS c O' (frz1 i ρ) σ H pt ∧ Mv c O H O' H := by
  have low : ∀ {a : Addr}, (i, a) ∈ O → a ∉ hid c (O.filter fun q => decide (q.1 ≠ i)) := fun {a} m h => by
    rcases List.mem_append.mp h with h | h
    · exact (r.new _ m).2.2.1 h
    · obtain ⟨q, hq, e⟩ := List.mem_map.mp h
      obtain ⟨m2, n2⟩ := fil_mem hq
      have := same_of r.nd m m2 e
      exact n2 (by rw [this])
  unfold frz1
  split
  · rename_i ds e
    obtain ⟨a, vs, m, ev, ha, rl⟩ := r.sl i _ e
    refine ⟨_, ?_, Mv.fewer (i := i)⟩
    have r1 := r.drop i
    refine ⟨r1.pot, fun a o n h m => r1.ext a o n h m, r1.hp, r1.hS, r1.new, r1.nd, r1.nf, by rw [List.length_set]; exact r.len, fil_ow r.ow i _, fun j s h => ?_⟩
    by_cases ej : j = i
    · subst ej
      rw [List.getElem?_set_self (List.getElem?_eq_some_iff.mp e).1] at h
      cases h
      refine ⟨_, ev, ?_⟩
      simp only [Cy.R, R]
      exact ⟨a, vs, rfl, Hd.out (low m) ha, RL.gr (Hd.sub fil_sub) rl⟩
    · rw [List.getElem?_set_ne (Ne.symm ej)] at h
      exact r1.sl j s (by rw [List.getElem?_set_ne (Ne.symm ej)]; exact h)
  · rename_i ds e
    obtain ⟨a, vs, m, ev, ha, rl⟩ := r.sl i _ e
    refine ⟨_, ?_, Mv.fewer (i := i)⟩
    have r1 := r.drop i
    refine ⟨r1.pot, fun a o n h m => r1.ext a o n h m, r1.hp, r1.hS, r1.new, r1.nd, r1.nf, by rw [List.length_set]; exact r.len, fil_ow r.ow i _, fun j s h => ?_⟩
    by_cases ej : j = i
    · subst ej
      rw [List.getElem?_set_self (List.getElem?_eq_some_iff.mp e).1] at h
      cases h
      refine ⟨_, ev, ?_⟩
      simp only [Cy.R, R]
      exact ⟨a, vs, rfl, Hd.out (low m) ha, RK.gr (Hd.sub fil_sub) rl⟩
    · rw [List.getElem?_set_ne (Ne.symm ej)] at h
      exact r1.sl j s (by rw [List.getElem?_set_ne (Ne.symm ej)]; exact h)
  · exact ⟨O, r, Mv.refl⟩
theorem ds_frz {st : Stmt} {g : Slots → M Out} (i : Nat) (h : PS X st (dS c W g)) : PS X st (dS c W fun ρ => g (frz1 i ρ)) := by
  refine ps_imp h fun E σ H ⟨O, ρ, pt, r, q⟩ => ?_
  obtain ⟨O', r', m⟩ := r.frz i
  exact ⟨O', _, pt, r', WO.from m q⟩
end
end DF

set_option Elab.async false
set_option linter.all false
set_option maxRecDepth 100000
set_option maxHeartbeats 4000000
namespace DF
open PySem L2
/-! ### defs that may need to know that no repr is under way (gu) -/
structure Rm (gu : Prop) (k : Nat) (A : Around) : Prop where
  room : Room k A
  gd : gu → A.guards = some []
section
variable {gu : Prop} {j k : Nat} {A : Around}
theorem Rm.mono (r : Rm gu k A) (h : j ≤ k) : Rm gu j A := ⟨r.room.mono h, r.gd⟩
theorem Rm.lo (r : Rm gu k A) (h : j ≤ k) : Rm False j A := ⟨r.room.mono h, fun z => z.elim⟩
theorem Rm.in1 (r : Rm gu (k + 1) A) : Rm gu k A.in1 := ⟨r.room.in1, r.gd⟩
theorem Rm.make (r : Rm gu (k + 1) A) (C : Addr) (us : List Value) (kw : List (Str × Value)) : Rm gu k (A.under (.builtin "type.__call__" ⟨.ref C :: us, kw⟩)) := ⟨r.room.make C us kw, fun g => by
  have e := r.gd g
  show pushGuards (Code.builtin "type.__call__" ⟨.ref C :: us, kw⟩).guards A.guards = some []
  rw [e]
  have e2 : (Code.builtin "type.__call__" ⟨.ref C :: us, kw⟩).guards = [] := by
    unfold Code.guards
    rw [if_neg (show ¬ ((Code.builtin "type.__call__" ⟨.ref C :: us, kw⟩).isGuard = true) from by show ¬ (guardIds.contains "type.__call__" = true); decide +kernel)]
  rw [e2]
  rfl⟩
theorem Rm.units0 (r : Rm gu k A) : A.units < cLine := r.room.units0
theorem Rm.units (r : Rm gu k A) : A.units + 64 < cLine := r.room.units
theorem Rm.of (r : Room k A) : Rm False k A := ⟨r, fun z => z.elim⟩
end
structure FnG (gu : Prop) (P : Program) (w : World) (K : PySem.W.Frag) (mg : Str → Option Value) (base : Heap) (CX : CXT) (k : Nat) (f : Addr) (fd : FuncData) (ps : List Str) (sp : Sp) : Prop where
  len : ∀ vs H Q E, sp vs H Q E → vs.length = ps.length
  run : ∀ (A : Around) (outer : List Env) (s : Shared) (H : Hp) (args : Args) (us : List Value) (vs : List V) (Q : VK) (E : XK), Rm gu k A → Env0 P w K mg base A outer s H → BindsTo s fd args (ps.zip us) → Vals vs us → sp vs H Q E →
    codeAny (model P w) A (.call (.ref f) args) (CR CX outer P w H s Q E) s
theorem FnG.ok {P : Program} {w : World} {K : PySem.W.Frag} {mg : Str → Option Value} {base : Heap} {CX : CXT} {k : Nat} {f : Addr} {fd : FuncData} {ps : List Str} {sp : Sp} (F : FnG False P w K mg base CX k f fd ps sp) : FnOk P w K mg base CX k f fd ps sp :=
  ⟨F.len, fun A outer s H args us vs Q E hr => F.run A outer s H args us vs Q E (Rm.of hr)⟩
theorem fnOk_g {gu : Prop} {P : Program} {w : World} {K : PySem.W.Frag} {mg : Str → Option Value} {base : Heap} {CX : CXT} {k : Nat} {f : Addr} {fd : FuncData} {ps : List Str} {sp : Sp} (F : FnOk P w K mg base CX k f fd ps sp) : FnG gu P w K mg base CX k f fd ps sp :=
  ⟨F.len, fun A outer s H args us vs Q E hr => F.run A outer s H args us vs Q E hr.room⟩
theorem fn_okG {gu : Prop} {P : Program} {w : World} {K : PySem.W.Frag} {mg : Str → Option Value} {base : Heap} {CX : CXT} {x qual : Str} {params : Arguments} {body : List Stmt} {scope : Scope} {dvs : List V} {kws : List (Str × V)} {f : Addr} {fd : FuncData} {N ps : List Str} {k : Nat} {sp : Sp} (F : FunD K x qual params body scope dvs kws f fd) (S : FnScope N ps scope) (len : ∀ vs H Q E, sp vs H Q E → vs.length = ps.length)
    (hb : ∀ (cdv : Value), fd.code = cdv → ∀ (A : Around) (outer : List Env) (s : Shared) (H : Hp) (vs : List V) (Q : VK) (E : XK), Rm gu k (A.deeper (PyProof.Rows.envOfC qual scope s.heap.objs.size f cdv)) → sp vs H Q E →
      ∃ t, PSs (cxOf CX P w K mg base N qual scope f cdv A outer s H E) body t ∧ t { nx := fun _ H' => Q .non H', rt := Q } (start N vs) H) : FnG gu P w K mg base CX (k + 1) f fd ps sp := by
  obtain ⟨oc, od, dV, kV, doc, pm, an, cdv, ct, osl, rfl, lk, hcd, _, _⟩ := F.ex
  exact ⟨len, fun A outer s H args us vs Q E hr e0 hbd r hsp => LamX.run_ofS lk hcd S hr.room e0 hbd r (len _ _ _ _ hsp) fun hr1 => hb cdv rfl A outer s H vs Q E ⟨hr1, hr.gd⟩ hsp⟩
/-! ### a def as a function of data -/
/-- what a call with the data ds comes to -/
def Wf (c : Cy) (H : Hp) (Q : VK) (E : XK) : Res D → Prop
  | .ok d pt => ∀ v H', Stp c.T.tb c.p H H' pt → c.R (Hd c.S H') d v → Q v H'
  | .exc e fs pt => ∀ cls dd H', Stp c.T.tb c.p H H' pt → RX c H' e fs cls dd → E cls dd H'
  | .stuck => False
def spF (K : PySem.W.Frag) (T : Tb) (n : Nat) (m : List D → M D) : Sp := fun vs H Q E => ∃ p S ds pt, p ∈ S ∧ (∀ a ∈ S, ∃ o, H a = some o ∧ mt o = true) ∧ ds.length = n ∧ RL K T p (Hd S H) ds vs ∧ Pots T.tb p H pt ∧ Wf ⟨K, T, p, S, H, 0, x0⟩ H Q E (m ds pt)
/-- the slots at the entry -/
def ini (n : Nat) (ds : List D) : Slots := ds.map (fun d => some (.val d)) ++ List.replicate (n - ds.length) none
def fnM (n : Nat) (g : Slots → M Out) : List D → M D := fun ds => bnd (g (ini n ds)) fun o => match o with
  | .rt d => ret d
  | .nx _ => ret .non
  | _ => fail
section
variable {P : Program} {w : World} {K : PySem.W.Frag} {mg : Str → Option Value} {base : Heap} {T : Tb}
theorem ini_rs {c : Cy} {N : List Str} {ds : List D} {vs : List V} {pt : Pot} (hp : c.p ∈ c.S) (hS : ∀ a ∈ c.S, ∃ o, c.H0 a = some o ∧ mt o = true) (rl : c.RL (Hd c.S c.H0) ds vs) (hpot : Pots c.T.tb c.p c.H0 pt) (hl : ds.length ≤ N.length) :
    RS c [] (ini N.length ds) (L2.start N vs) c.H0 pt := by
  have lv := RL.len rl
  refine ⟨hpot, fun _ _ _ h _ => h, hp, hS, fun _ h => (nomatch h), .nil, .nil, ?_, fun _ h => (nomatch h), fun i s h => ?_⟩
  · unfold ini L2.start
    rw [List.length_append, List.length_append, List.length_map, List.length_map, List.length_replicate, List.length_replicate, lv]
  · have hh : hid c [] = c.S := List.append_nil _
    unfold ini at h
    unfold L2.start
    by_cases hi : i < ds.length
    · rw [List.getElem?_append_left (by rw [List.length_map]; exact hi), List.getElem?_map] at h
      cases e : ds[i]? with
      | none => rw [e] at h; cases h
      | some d =>
        rw [e] at h
        cases h
        obtain ⟨v, ev, rv⟩ := RL.getD rl e
        refine ⟨v, ?_, by rw [hh]; exact rv⟩
        rw [List.getElem?_append_left (by rw [List.length_map, ← lv]; exact hi), List.getElem?_map, ev]
        rfl
    · rw [List.getElem?_append_right (by rw [List.length_map]; omega), List.getElem?_replicate] at h
      split at h
      · cases h
      · cases h
/-- THE RULE for a def -/
theorem fnD {gu : Prop} {x qual : Str} {st : Stmt} {f : Addr} {fd : FuncData} {N ps : List Str} {k : Nat} {g : Slots → M Out} {dvs : List V} {kws : List (Str × V)} (F : FunD K x qual (defArgs st) (defBody st) (defScope st) dvs kws f fd) (S : FnScope N ps (defScope st)) (hl : ps.length ≤ N.length)
    (hb : ∀ (cdv : Value), fd.code = cdv → ∀ (A : Around) (outer : List Env) (s : Shared) (H : Hp) (E : XK) (p : Addr) (S : List Addr), Rm gu k (A.deeper (PyProof.Rows.envOfC qual (defScope st) s.heap.objs.size f cdv)) →
      PSs (cxOf (L2.CX P w) P w K mg base N qual (defScope st) f cdv A outer s H E) (defBody st) (dS ⟨K, T, p, S, H, 0, x0⟩ (fun cls d _ H => E cls d H) g)) :
    FnG gu P w K mg base (L2.CX P w) (k + 1) f fd ps (spF K T ps.length (fnM N.length g)) := by
  refine fn_okG F S (fun vs H Q E h => ?_) (fun cdv hcv A outer s H vs Q E hr h => ?_)
  · obtain ⟨p, S, ds, pt, _, _, e, rl, _⟩ := h
    rw [← RL.len rl, e]
  · obtain ⟨p, S, ds, pt, hp, hS, e, rl, hpot, q⟩ := h
    refine ⟨_, hb cdv hcv A outer s H E p S hr, ⟨[], _, pt, ini_rs (c := ⟨K, T, p, S, H, 0, x0⟩) hp hS rl hpot (by rw [e]; exact hl), ?_⟩⟩
    unfold fnM DF.bnd at q
    cases e2 : g (ini N.length ds) pt with
    | ok o p1 =>
      rw [e2] at q
      cases o with
      | nx ρ' => exact fun O' σ' H' rs _ => q .non H' ⟨fun a o n h m => rs.ext a o n h m, rs.pot⟩ (by simp [Cy.R, R])
      | rt d => exact fun v H' fi rv => q v H' ⟨fun a o n h m => fi.ext a o n h m, fi.pot⟩ rv
      | bk ρ' => exact q.elim
      | ct ρ' => exact q.elim
    | exc _ _ _ =>
      rw [e2] at q
      exact fun cls dd σ' H' fi x => q cls dd H' ⟨fun a o n h m => fi.ext a o n h m, fi.pot⟩ x
    | stuck =>
      rw [e2] at q
      exact q
end

/-! ### calls -/
section
variable {gu : Prop} {X : Cx} {c : Cy} {W : WX} {CX : CXT} {k : Nat} {f C : Addr} {fd : FuncData} {ps : List Str} {sp : Sp} {ds : List Value} {dvs : List V} {E : L2.St → XK} {x m : Str} {p pos apos : Pos} {e o : Expr} {es : List Expr} {ta : TE} {t : TA}
/-- the callee runs; what it lets out is wished for at the slots -/
theorem runAt {pins : List (Addr × Obj)} {σ : L2.St} {H : Hp} {s : Shared} {Q : VK} {us : List Value} {vs : List V} (F : FnG gu X.prog X.w X.K X.mg X.base CX k f fd ps sp) (hr : Rm gu k X.A) (hb : Binds X.K fd ps ds) (hd : Vals dvs ds) (hx : PassesAt CX X σ (E σ))
    (I : Inv X pins σ H s) (r : Vals vs us) (h : sp (vs ++ dvs) H Q (E σ)) : wpAny (model X.prog X.w) X.A (call (.ref f) us) (EP X pins σ Q) X.xe s := by
  have r2 := r.append hd
  have hl : (us ++ ds).length = ps.length := r2.length.symm.trans (F.len _ _ _ _ h)
  have go := F.run X.A X.stack s H ⟨us, []⟩ _ _ Q (E σ) hr I.env0 (hb s us I.kIn hl) r2 h
  refine wpAny_call (codeAny_mono go fun res s' hq => ?_)
  match res, hq with
  | .error e, hq => exact hx pins H s e s' I hq
  | .ok (.ret u), hq => exact I.after hq
def tCallA (sp : Sp) (dvs : List V) (E : L2.St → XK) (t : TA) : TE := fun σ H Q => t σ H fun vs H1 => sp (vs ++ dvs) H1 Q (E σ)
theorem pe_callA (F : FnG gu X.prog X.w X.K X.mg X.base CX k f fd ps sp) (hr : Rm gu k X.A) (hg : Gl X x) (hm : X.mg x = some (.ref f)) (hk : PySem.W.keepIn X.K (.ref f) = true) (hb : Binds X.K fd ps ds) (hd : Vals dvs ds) (hx : ∀ σ, PassesAt CX X σ (E σ)) (ha : PA X (e :: es) t)
    (hdb : (x == ("__debug__" : Str)) = false := by decide) (he : starEach (e :: es) X.env = (false, eval e X.env) :: starEach es X.env := by rfl) (hpl : (backTo pos (starEach es X.env)).any (·.1) = false := by rfl) : PE X (.Call (.Name x p) (e :: es) [] pos) (tCallA sp dvs E t) :=
  ⟨fun pins s σ H Q I h => wpAny_Call_Name_kw (ld_glob I hg hm (PySem.W.callWith_K (h₀ := X.base) I.ok.mod.kin hk (thn (ha.run pos pins s σ H _ I h) fun us s1 ⟨vs, H1, I1, r, q⟩ => ⟨I1.kIn, runAt F hr hb hd (hx σ) I1 r q⟩) he hpl) hdb)⟩
theorem pe_callA0 (F : FnG gu X.prog X.w X.K X.mg X.base CX k f fd ps sp) (hr : Rm gu k X.A) (hg : Gl X x) (hm : X.mg x = some (.ref f)) (hk : PySem.W.keepIn X.K (.ref f) = true) (hb : Binds X.K fd ps ds) (hd : Vals dvs ds) (hx : ∀ σ, PassesAt CX X σ (E σ))
    (hdb : (x == ("__debug__" : Str)) = false := by decide) : PE X (.Call (.Name x p) [] [] pos) (tCallA sp dvs E tNil) :=
  ⟨fun pins s σ H Q I h => wpAny_Call_Name_kw (ld_glob I hg hm (PySem.W.callWith_K0 I.kIn hk (runAt (us := []) F hr hb hd (hx σ) I .nil h)) hdb)⟩
def tMethA (C : Addr) (m : Str) (sp : Sp) (dvs : List V) (E : L2.St → XK) (ta : TE) (t : TA) : TE := fun σ H Q => ta σ H fun x H1 => ∃ a dx fs, x = .ref a ∧ H1 a = some (.ins C dx fs) ∧ fs.lookup m = none ∧ t σ H1 fun vs H2 => sp (.ref a :: (vs ++ dvs)) H2 Q (E σ)
theorem pe_methA {pl : Sem Bool} (he : PE X o ta) (cl : Cls X.K C) (hm : Meth X.K C m f) (F : FnG gu X.prog X.w X.K X.mg X.base CX k f fd ps sp) (hr : Rm gu k X.A) (hb : Binds X.K fd ps ds) (hd : Vals dvs ds) (hx : ∀ σ, PassesAt CX X σ (E σ)) (ha : PA X (e :: es) t)
    (hst : starEach (e :: es) X.env = (false, eval e X.env) :: starEach es X.env := by rfl) (hpl : (backTo pos (starEach es X.env)).any (·.1) = false := by rfl)
    (ht : eval (.Call (.Attribute o m apos) (e :: es) [] pos) X.env = (eval o X.env >>= fun ov => standAt apos.atName >>= fun _ => holding [ov] (getMethod ov m pl) >>= fun z => callWith pos z.1 z.2 (backTo pos (starEach (e :: es) X.env)) (backToKw pos (keywordEach [] X.env))) := by rfl) :
    PE X (.Call (.Attribute o m apos) (e :: es) [] pos) (tMethA C m sp dvs E ta t) := by
  refine ⟨fun pins s σ H Q I h => PySem.W.methodCall_KW (pl := pl) (thn (he.run pins s σ H _ I h) fun u s1 ⟨x, H1, I1, rx, a, dx, fs, ex, ea, l, q⟩ => ?_) ht⟩
  subst ex
  obtain rfl : u = Value.ref a := rx
  refine getmeth_ok I1 ea cl hm l (PySem.W.callWith_K (first := [.ref a]) (h₀ := X.base) I.ok.mod.kin hm.kp (thn (ha.run pos pins s1 σ H1 _ I1 q) fun us s2 ⟨vs, H2, I2, r, q2⟩ => ⟨I2.kIn, ?_⟩) hst hpl)
  exact runAt (us := .ref a :: us) (vs := .ref a :: vs) F hr hb hd (hx σ) I2 (.cons rfl r) q2
theorem pe_methA0 {pl : Sem Bool} (he : PE X o ta) (cl : Cls X.K C) (hm : Meth X.K C m f) (F : FnG gu X.prog X.w X.K X.mg X.base CX k f fd ps sp) (hr : Rm gu k X.A) (hb : Binds X.K fd ps ds) (hd : Vals dvs ds) (hx : ∀ σ, PassesAt CX X σ (E σ))
    (ht : eval (.Call (.Attribute o m apos) [] [] pos) X.env = (eval o X.env >>= fun ov => standAt apos.atName >>= fun _ => holding [ov] (getMethod ov m pl) >>= fun z => callWith pos z.1 z.2 (backTo pos (starEach [] X.env)) (backToKw pos (keywordEach [] X.env))) := by rfl) :
    PE X (.Call (.Attribute o m apos) [] [] pos) (tMethA C m sp dvs E ta tNil) := by
  refine ⟨fun pins s σ H Q I h => PySem.W.methodCall_KW (pl := pl) (thn (he.run pins s σ H _ I h) fun u s1 ⟨x, H1, I1, rx, a, dx, fs, ex, ea, l, q⟩ => ?_) ht⟩
  subst ex
  obtain rfl : u = Value.ref a := rx
  exact getmeth_ok I1 ea cl hm l (PySem.W.callWith_K0 (first := [.ref a]) I1.kIn hm.kp (runAt (us := [.ref a]) (vs := [.ref a]) F hr hb hd (hx σ) I1 (.cons rfl .nil) q))
def tMakeA (C : Addr) (sp : Sp) (dvs : List V) (E : L2.St → XK) (t : TA) : TE := fun σ H Q => t σ H fun vs H1 => ∀ x dx, H1 x = none → H1 dx = none → dx ≠ x →
  sp (.ref x :: (vs ++ dvs)) (upd (upd H1 dx (.own x)) x (.ins C dx [])) (fun v H2 => v = .non ∧ Q (.ref x) H2) (E σ)
theorem makeAt {pins : List (Addr × Obj)} {σ : L2.St} {H : Hp} {s : Shared} {Q : VK} {us : List Value} {vs : List V} (M : Mk X.K C f) (F : FnG gu X.prog X.w X.K X.mg X.base CX k f fd ps sp) (hr : Rm gu (k + 1) X.A) (hb : Binds X.K fd ps ds) (hd : Vals dvs ds) (hx : PassesAt CX X σ (E σ))
    (I : Inv X pins σ H s) (r : Vals vs us) (h : ∀ x dx, H x = none → H dx = none → dx ≠ x → sp (.ref x :: (vs ++ dvs)) (upd (upd H dx (.own x)) x (.ins C dx [])) (fun v H2 => v = .non ∧ Q (.ref x) H2) (E σ)) :
    wpAny (model X.prog X.w) X.A (call (.ref C) us) (EP X pins σ Q) X.xe s := by
  have hq := h (s.heap.objs.size + 1) s.heap.objs.size (I.hok.fresh (Nat.le_succ _)) (I.hok.fresh (Nat.le_refl _)) (Nat.ne_of_lt (Nat.lt_succ_self _))
  have J := Inv.made (C := C) I
  have r2 : Vals (V.ref (s.heap.objs.size + 1) :: (vs ++ dvs)) (Value.ref (s.heap.objs.size + 1) :: (us ++ ds)) := .cons rfl (r.append hd)
  have hl : (Value.ref (s.heap.objs.size + 1) :: us ++ ds).length = ps.length := r2.length.symm.trans (F.len _ _ _ _ hq)
  have go := F.run _ X.stack _ _ ⟨Value.ref (s.heap.objs.size + 1) :: us, []⟩ _ _ _ (E σ) (hr.make C us []) (J.env0.make C us []) (hb _ (Value.ref (s.heap.objs.size + 1) :: us) J.kIn hl) r2 hq
  refine wpAny_call (make_map (f := f) I.kIn M.makes M.init (beq_iff_eq.mp M.fn) (codeAny_mono go fun res s' hq' => ?_))
  match res, hq' with
  | .error e, hq' => exact hx pins _ _ e s' J hq'
  | .ok (.ret u), hq' =>
    obtain ⟨v, H', I3, rv, ev, q3⟩ := J.after hq'
    subst ev
    exact ⟨rv, ⟨V.ref (s.heap.objs.size + 1), H', I3, rfl, q3⟩⟩
theorem pe_makeA (M : Mk X.K C f) (F : FnG gu X.prog X.w X.K X.mg X.base CX k f fd ps sp) (hr : Rm gu (k + 1) X.A) (hg : Gl X x) (hm : X.mg x = some (.ref C)) (hb : Binds X.K fd ps ds) (hd : Vals dvs ds) (hx : ∀ σ, PassesAt CX X σ (E σ)) (ha : PA X (e :: es) t)
    (hdb : (x == ("__debug__" : Str)) = false := by decide) (he : starEach (e :: es) X.env = (false, eval e X.env) :: starEach es X.env := by rfl) (hpl : (backTo pos (starEach es X.env)).any (·.1) = false := by rfl) : PE X (.Call (.Name x p) (e :: es) [] pos) (tMakeA C sp dvs E t) :=
  ⟨fun pins s σ H Q I h => wpAny_Call_Name_kw (ld_glob I hg hm (PySem.W.callWith_K (h₀ := X.base) I.ok.mod.kin M.kp (thn (ha.run pos pins s σ H _ I h) fun us s1 ⟨vs, H1, I1, r, q⟩ => ⟨I1.kIn, makeAt M F hr hb hd (hx σ) I1 r q⟩) he hpl) hdb)⟩
theorem pe_makeA0 (M : Mk X.K C f) (F : FnG gu X.prog X.w X.K X.mg X.base CX k f fd ps sp) (hr : Rm gu (k + 1) X.A) (hg : Gl X x) (hm : X.mg x = some (.ref C)) (hb : Binds X.K fd ps ds) (hd : Vals dvs ds) (hx : ∀ σ, PassesAt CX X σ (E σ))
    (hdb : (x == ("__debug__" : Str)) = false := by decide) : PE X (.Call (.Name x p) [] [] pos) (tMakeA C sp dvs E tNil) :=
  ⟨fun pins s σ H Q I h => wpAny_Call_Name_kw (ld_glob I hg hm (PySem.W.callWith_K0 I.kIn M.kp (makeAt (us := []) M F hr hb hd (hx σ) I .nil h)) hdb)⟩
end

/-! ### the same of data -/
section
variable {gu : Prop} {X : Cx} {c : Cy} {W : WX} {k n : Nat} {f C : Addr} {fd : FuncData} {ps : List Str} {ds : List Value} {dvs : List V} {dd : List D} {x m : Str} {p pos apos : Pos} {e o : Expr} {es : List Expr} {fm : List D → M D} {fa : Slots → M (List D)} {fo : Slots → M D}
theorem RX.less {c c' : Cy} {H : Hp} {e : Nat} {fs : List D} {cls : Value} {dd : Option Addr} (h : RX c' H e fs cls dd) (hK : c'.K = c.K) (hT : c'.T = c.T) (hp : c'.p = c.p) (hS : ∀ a ∈ c.S, a ∈ c'.S) : RX c H e fs cls dd := by
  obtain ⟨K, T, p, S, H0, me, x0⟩ := c
  obtain ⟨K', T', p', S', H0', me', x1⟩ := c'
  simp only at hK hT hp hS
  subst hK hT hp
  exact Xv.gr (c := ⟨K', T', p', S, H0, me, x0⟩) (Hd.sub hS) h
/-- what a call of data asks, from what is wanted of its outcome -/
theorem spF_of {σ : L2.St} {O : List (Nat × Addr)} {ρ : Slots} {pt : Pot} {H : Hp} {xs : List D} {vs : List V} {Q : VK} (rs : RS c O ρ σ H pt) (rl : c.RL (Hd (hid c O) H) xs vs) (hl : xs.length = n)
    (h : Wg c W σ H (fun d _ H' => ∀ v, c.R (Hd (hid c O) H') d v → Q v H') (fm xs pt)) : spF c.K c.T n fm vs H Q (WE W σ) := by
  refine ⟨c.p, hid c O, xs, pt, rs.pm, fun a h => rs.hidden h, hl, rl, rs.pot, ?_⟩
  cases e : fm xs pt with
  | ok d p1 =>
    rw [e] at h
    exact fun v H' st rv => h H' st v rv
  | exc k fs p1 =>
    rw [e] at h
    exact fun cls dd H' st rx => h cls dd H' st (RX.less rx rfl rfl rfl fun a h => List.mem_append_left _ h)
  | stuck =>
    rw [e] at h
    exact h
/-- data that stand in every heap: defaults -/
def Cst (c : Cy) (dd : List D) (dvs : List V) : Prop := ∀ H, c.RL H dd dvs
theorem Cst.nil : Cst c [] [] := fun _ => RL.nil
theorem Cst.int {i : Int} (h : Cst c dd dvs) : Cst c (.int i :: dd) (.int i :: dvs) := fun H => RL.cons (by simp [R]) (h H)
theorem Cst.non (h : Cst c dd dvs) : Cst c (.non :: dd) (.non :: dvs) := fun H => RL.cons (by simp [R]) (h H)
theorem Cst.bl {b : Bool} (h : Cst c dd dvs) : Cst c (.bl b :: dd) (.bl b :: dvs) := fun H => RL.cons (by simp [R]) (h H)
def callE (n : Nat) (fm : List D → M D) (dd : List D) (fa : Slots → M (List D)) : Slots → M D := fun ρ => bnd (fa ρ) fun ds => if (ds ++ dd).length = n then fm (ds ++ dd) else fail
theorem de_call (F : FnG gu X.prog X.w X.K X.mg X.base (L2.CX X.prog X.w) k f fd ps (spF c.K c.T n fm)) (hr : Rm gu k X.A) (tk : Takes X W) (hm : X.mg x = some (.ref f)) (hk : PySem.W.keepIn X.K (.ref f) = true) (hb : Binds X.K fd ps ds) (hd : Vals dvs ds) (hc : Cst c dd dvs) (ha : PA X (e :: es) (dA c W fa))
    (hg : Gl X x := by rfl) (hdb : (x == ("__debug__" : Str)) = false := by decide) (he : starEach (e :: es) X.env = (false, eval e X.env) :: starEach es X.env := by rfl) (hpl : (backTo pos (starEach es X.env)).any (·.1) = false := by rfl) :
    PE X (.Call (.Name x p) (e :: es) [] pos) (dE c W (callE n fm dd fa)) := by
  refine pe_imp (pe_callA F hr hg hm hk hb hd (passAt tk) ha hdb he hpl) fun σ H Q ⟨O, ρ, pt, r, q⟩ => ⟨O, ρ, pt, r, (Wg.bnd q).imp fun ds p1 H1 _ s1 q vs rvs => ?_⟩
  by_cases hz : (ds ++ dd).length = n
  · rw [if_pos hz] at q
    exact spF_of (r.stp s1) (RL.app rvs (hc _)) hz q
  · rw [if_neg hz] at q
    exact q.elim
theorem de_call0 (F : FnG gu X.prog X.w X.K X.mg X.base (L2.CX X.prog X.w) k f fd ps (spF c.K c.T n fm)) (hr : Rm gu k X.A) (tk : Takes X W) (hm : X.mg x = some (.ref f)) (hk : PySem.W.keepIn X.K (.ref f) = true) (hb : Binds X.K fd ps ds) (hd : Vals dvs ds) (hc : Cst c dd dvs)
    (hg : Gl X x := by rfl) (hdb : (x == ("__debug__" : Str)) = false := by decide) : PE X (.Call (.Name x p) [] [] pos) (dE c W (callE n fm dd nilA)) := by
  refine pe_imp (pe_callA0 F hr hg hm hk hb hd (passAt tk) hdb) fun σ H Q ⟨O, ρ, pt, r, q⟩ => ?_
  have q := Wg.here (Wg.bnd q) r.pot
  by_cases hz : ([] ++ dd).length = n
  · rw [if_pos hz] at q
    exact spF_of (vs := [] ++ dvs) r (hc _) hz q
  · rw [if_neg hz] at q
    exact q.elim
/-- a method of the class number kc -/
def methE (kc : Nat) (n : Nat) (fm : List D → M D) (dd : List D) (fo : Slots → M D) (fa : Slots → M (List D)) : Slots → M D := fun ρ => bnd (fo ρ) fun z => match z with
  | .obj j fs => if j = kc then bnd (fa ρ) fun ds => if (ds ++ dd).length + 1 = n then fm (.obj j fs :: (ds ++ dd)) else fail else fail
  | _ => fail
theorem no_attr {T : Tb} {kc : Nat} {m : Str} {vs : List V} (h : m ∉ T.names kc) : ((T.names kc).zip vs).lookup m = none := by
  generalize T.names kc = ns at h
  induction ns generalizing vs with
  | nil => rfl
  | cons a as ih =>
    cases vs with
    | nil => rfl
    | cons v vs =>
      show (match m == a with | true => _ | false => _) = _
      have : (m == a) = false := by
        rw [beq_eq_false_iff_ne]
        intro q
        exact h (q ▸ List.mem_cons_self)
      rw [this]
      exact ih fun q => h (List.mem_cons_of_mem _ q)
theorem de_meth {kc : Nat} {pl : Sem Bool} (ho : PE X o (dE c W fo)) (hC : c.T.cls kc = C) (hno : m ∉ c.T.names kc) (cl : Cls X.K C) (hm : Meth X.K C m f) (F : FnG gu X.prog X.w X.K X.mg X.base (L2.CX X.prog X.w) k f fd ps (spF c.K c.T n fm)) (hr : Rm gu k X.A) (tk : Takes X W) (hb : Binds X.K fd ps ds) (hd : Vals dvs ds) (hc : Cst c dd dvs) (ha : PA X (e :: es) (dA c W fa))
    (hst : starEach (e :: es) X.env = (false, eval e X.env) :: starEach es X.env := by rfl) (hpl : (backTo pos (starEach es X.env)).any (·.1) = false := by rfl)
    (ht : eval (.Call (.Attribute o m apos) (e :: es) [] pos) X.env = (eval o X.env >>= fun ov => standAt apos.atName >>= fun _ => holding [ov] (getMethod ov m pl) >>= fun z => callWith pos z.1 z.2 (backTo pos (starEach (e :: es) X.env)) (backToKw pos (keywordEach [] X.env))) := by rfl) :
    PE X (.Call (.Attribute o m apos) (e :: es) [] pos) (dE c W (methE kc n fm dd fo fa)) := by
  refine pe_imp (pe_methA (pl := pl) ho cl hm F hr hb hd (passAt tk) ha hst hpl ht) fun σ H Q ⟨O, ρ, pt, r, q⟩ => ⟨O, ρ, pt, r, (Wg.bnd q).imp fun z p1 H1 _ s1 qz v rv => ?_⟩
  cases z with
  | obj j fs =>
    simp only at qz
    by_cases hj : j = kc
    · rw [if_pos hj] at qz
      subst hj
      have rv' := rv
      simp only [Cy.R, R] at rv
      obtain ⟨a, dx, ws, rfl, ha, _, _⟩ := rv
      refine ⟨a, dx, _, rfl, by rw [← hC]; exact Hd.le _ _ ha, no_attr hno, ⟨O, ρ, p1, r.stp s1, (Wg.bnd qz).imp fun ds p2 H2 _ s2 q vs rvs => ?_⟩⟩
      by_cases hz : (ds ++ dd).length + 1 = n
      · rw [if_pos hz] at q
        exact spF_of ((r.stp s1).stp s2) (RL.cons (R.gr (s2.gr r.pm) rv') (RL.app rvs (hc _))) hz q
      · rw [if_neg hz] at q
        exact q.elim
    · rw [if_neg hj] at qz
      exact qz.elim
  | _ => exact qz.elim
theorem de_meth0 {kc : Nat} {pl : Sem Bool} (ho : PE X o (dE c W fo)) (hC : c.T.cls kc = C) (hno : m ∉ c.T.names kc) (cl : Cls X.K C) (hm : Meth X.K C m f) (F : FnG gu X.prog X.w X.K X.mg X.base (L2.CX X.prog X.w) k f fd ps (spF c.K c.T n fm)) (hr : Rm gu k X.A) (tk : Takes X W) (hb : Binds X.K fd ps ds) (hd : Vals dvs ds) (hc : Cst c dd dvs)
    (ht : eval (.Call (.Attribute o m apos) [] [] pos) X.env = (eval o X.env >>= fun ov => standAt apos.atName >>= fun _ => holding [ov] (getMethod ov m pl) >>= fun z => callWith pos z.1 z.2 (backTo pos (starEach [] X.env)) (backToKw pos (keywordEach [] X.env))) := by rfl) :
    PE X (.Call (.Attribute o m apos) [] [] pos) (dE c W (methE kc n fm dd fo nilA)) := by
  refine pe_imp (pe_methA0 (pl := pl) ho cl hm F hr hb hd (passAt tk) ht) fun σ H Q ⟨O, ρ, pt, r, q⟩ => ⟨O, ρ, pt, r, (Wg.bnd q).imp fun z p1 H1 _ s1 qz v rv => ?_⟩
  cases z with
  | obj j fs =>
    simp only at qz
    by_cases hj : j = kc
    · rw [if_pos hj] at qz
      subst hj
      have rv' := rv
      simp only [Cy.R, R] at rv
      obtain ⟨a, dx, ws, rfl, ha, _, _⟩ := rv
      refine ⟨a, dx, _, rfl, by rw [← hC]; exact Hd.le _ _ ha, no_attr hno, ?_⟩
      have q := Wg.here (Wg.bnd qz) s1.pot
      by_cases hz : (([] : List D) ++ dd).length + 1 = n
      · rw [if_pos hz] at q
        exact spF_of (vs := .ref a :: ([] ++ dvs)) (r.stp s1) (RL.cons rv' (hc _)) hz q
      · rw [if_neg hz] at q
        exact q.elim
    · rw [if_neg hj] at qz
      exact qz.elim
  | _ => exact qz.elim
end
end DF

set_option Elab.async false
set_option linter.all false
set_option maxRecDepth 100000
set_option maxHeartbeats 4000000
namespace DF
open PySem L2
/-! ### objects: made, their fields -/
structure StpI (tb : List (Addr × Str)) (p x : Addr) (H H' : Hp) (pt : Pot) : Prop where
  keep : ∀ a o, a ≠ p → a ≠ x → H a = some o → (n : nt o = true := by rfl) → H' a = some o
  pot : Pots tb p H' pt
def Wi (c : Cy) (kc : Nat) (x : Addr) (H : Hp) (Q : VK) (E : XK) : Res (List D) → Prop
  | .ok fs pt => ∀ H' dx fvs, StpI c.T.tb c.p x H H' pt → H' x = some (.ins (c.T.cls kc) dx ((c.T.names kc).zip fvs)) → fs.length = (c.T.names kc).length → c.RL (Hd (x :: c.S) H') fs fvs → Q .non H'
  | .exc e fs pt => ∀ cls dd H', StpI c.T.tb c.p x H H' pt → RX c H' e fs cls dd → E cls dd H'
  | .stuck => False
def spI (K : PySem.W.Frag) (T : Tb) (kc n : Nat) (m : List D → M (List D)) : Sp := fun vs H Q E => ∃ p S x dx ds ws pt, vs = .ref x :: ws ∧ p ∈ S ∧ (∀ a ∈ S, ∃ o, H a = some o ∧ mt o = true) ∧ x ∉ S ∧ ds.length + 1 = n ∧ H x = some (.ins (T.cls kc) dx []) ∧
  RL K T p (Hd (x :: S) H) ds ws ∧ Pots T.tb p H pt ∧ Wi ⟨K, T, p, S, H, x, x0⟩ kc x H Q E (m ds pt)
def fldsOf (kc nf : Nat) : Slots → Option (List D)
  | some (.slf j fs) :: _ => if j = kc ∧ fs.length = nf then some fs else none
  | _ => none
def iniM (kc nf n : Nat) (g : Slots → M Out) : List D → M (List D) := fun ds => bnd (g (some (.slf kc []) :: ini n ds)) fun o => match o with
  | .nx ρ => opt (fldsOf kc nf ρ)
  | _ => fail
section
variable {P : Program} {w : World} {K : PySem.W.Frag} {mg : Str → Option Value} {base : Heap} {T : Tb}
theorem iniI_rs {c : Cy} {y : Str} {N : List Str} {ds : List D} {vs : List V} {pt : Pot} {H : Hp} {dx : Addr} {kc : Nat} (h0 : c.H0 = Hd [c.me] H) (hx : c.me ∉ c.S) (hp : c.p ∈ c.S) (hS : ∀ a ∈ c.S, ∃ o, H a = some o ∧ mt o = true) (hi : H c.me = some (.ins (c.T.cls kc) dx []))
    (rl : c.RL (Hd (c.me :: c.S) H) ds vs) (hpot : Pots c.T.tb c.p H pt) (hl : ds.length ≤ N.length) :
    RS c [(0, c.me)] (some (.slf kc []) :: ini N.length ds) (L2.start (y :: N) (.ref c.me :: vs)) H pt := by
  have lv := RL.len rl
  have eh : ∀ a, a ∈ hid c [(0, c.me)] → a ∈ c.me :: c.S := fun a h => (List.mem_append.mp h).elim (fun z => List.mem_cons_of_mem _ z) fun z => by
    have : a = c.me := by simpa using z
    rw [this]; exact List.mem_cons_self
  have hst : L2.start (y :: N) (.ref c.me :: vs) = some (.ref c.me) :: L2.start N vs := by
    unfold L2.start
    simp [Nat.succ_sub_succ]
  rw [hst]
  refine ⟨hpot, fun a o n h m => ?_, hp, fun a h => ?_, fun q hq => ?_, ?_, ?_, ?_, fun q hq => ⟨.slf kc [], by rw [List.mem_singleton.mp hq]; rfl, rfl⟩, fun i s h => ?_⟩
  · rw [h0] at h
    exact (Hd.sees h).2.1
  · exact hS a h
  · have e : q = (0, c.me) := by simpa using hq
    subst e
    refine ⟨?_, fun z => hx (show c.me ∈ c.S from (show c.me = c.p from z) ▸ hp), hx, _, hi, rfl⟩
    rw [h0]
    exact Hd.no (Hd.in_ List.mem_cons_self)
  · simp
  · simp
  · simp only [List.length_cons]
    unfold ini L2.start
    simp [lv]
  · cases i with
    | zero =>
      simp only [List.getElem?_cons_zero] at h
      cases h
      exact ⟨c.me, dx, [], List.mem_cons_self, rfl, rfl, by simpa using hi, Nat.zero_le _, RL.nil⟩
    | succ i =>
      simp only [List.getElem?_cons_succ] at h ⊢
      unfold ini at h
      unfold L2.start
      by_cases hi : i < ds.length
      · rw [List.getElem?_append_left (by rw [List.length_map]; exact hi), List.getElem?_map] at h
        cases e : ds[i]? with
        | none => rw [e] at h; cases h
        | some d =>
          rw [e] at h
          cases h
          obtain ⟨v, ev, rv⟩ := RL.getD rl e
          refine ⟨v, ?_, R.gr (Hd.sub eh) rv⟩
          rw [List.getElem?_append_left (by rw [List.length_map, ← lv]; exact hi), List.getElem?_map, ev]
          rfl
      · rw [List.getElem?_append_right (by rw [List.length_map]; omega), List.getElem?_replicate] at h
        split at h
        · cases h
        · cases h
/-- THE RULE for an __init__ -/
theorem fnI {gu : Prop} {x qual y : Str} {st : Stmt} {f : Addr} {fd : FuncData} {N ps : List Str} {k kc : Nat} {g : Slots → M Out} {dvs : List V} {kws : List (Str × V)} (F : FunD K x qual (defArgs st) (defBody st) (defScope st) dvs kws f fd) (S : FnScope (y :: N) (y :: ps) (defScope st)) (hl : ps.length ≤ N.length)
    (hb : ∀ (cdv : Value), fd.code = cdv → ∀ (A : Around) (outer : List Env) (s : Shared) (H H0 : Hp) (E : XK) (p me : Addr) (S : List Addr), Rm gu k (A.deeper (PyProof.Rows.envOfC qual (defScope st) s.heap.objs.size f cdv)) →
      PSs (cxOf (L2.CX P w) P w K mg base (y :: N) qual (defScope st) f cdv A outer s H E) (defBody st) (dS ⟨K, T, p, S, H0, me, x0⟩ (fun cls d _ H => E cls d H) g))
    {nf : Nat} (hnf : nf = (T.names kc).length) : FnG gu P w K mg base (L2.CX P w) (k + 1) f fd (y :: ps) (spI K T kc (y :: ps).length (iniM kc nf N.length g)) := by
  refine fn_okG F S (fun vs H Q E h => ?_) (fun cdv hcv A outer s H vs Q E hr h => ?_)
  · obtain ⟨p, S, x, dx, ds, ws, pt, rfl, _, _, _, e, _, rl, _⟩ := h
    rw [List.length_cons, ← RL.len rl, e]
  · obtain ⟨p, S, x, dx, ds, ws, pt, rfl, hp, hS, hx, e, hi, rl, hpot, q⟩ := h
    have le : ds.length ≤ N.length := by
      simp only [List.length_cons] at e
      omega
    refine ⟨_, hb cdv hcv A outer s H (Hd [x] H) E p x S hr, ⟨[(0, x)], _, pt, iniI_rs (c := ⟨K, T, p, S, Hd [x] H, x, x0⟩) (N := N) rfl hx hp hS hi rl hpot le, ?_⟩⟩
    unfold iniM DF.bnd at q
    have keepI : ∀ {H' : Hp} {p1 : Pot}, Fin ⟨K, T, p, S, Hd [x] H, x, x0⟩ H' p1 → StpI T.tb p x H H' p1 := fun fi => ⟨fun a o n1 n2 h m => fi.ext a o n1 (Hd.out (fun z => n2 (List.mem_singleton.mp z)) h m) m, fi.pot⟩
    cases e2 : g (some (.slf kc []) :: ini N.length ds) pt with
    | ok o p1 =>
      rw [e2] at q
      cases o with
      | nx ρ' =>
        intro O' σ' H' rs _
        simp only at q
        cases ef : fldsOf kc nf ρ' with
        | none => rw [ef] at q; exact q.elim
        | some fs =>
          rw [ef] at q
          unfold fldsOf at ef
          split at ef
          · rename_i j fs' rest
            split at ef
            · rename_i hj
              cases ef
              obtain ⟨hj, hf⟩ := hj
              subst hj
              obtain ⟨a, dx', vs', m, em, _, ha, _, rl'⟩ := rs.sl 0 _ rfl
              have em' : a = x := em
              subst em'
              refine q H' dx' vs' (keepI rs.fin) ha (hf.trans hnf) (RL.gr (Hd.sub fun b hb => ?_) rl')
              rcases List.mem_cons.mp hb with z | z
              · rw [z]; exact List.mem_append_right _ (List.mem_map.mpr ⟨_, m, rfl⟩)
              · exact List.mem_append_left _ z
            · cases ef
          · cases ef
      | rt d => exact q.elim
      | bk ρ' => exact q.elim
      | ct ρ' => exact q.elim
    | exc _ _ _ =>
      rw [e2] at q
      exact fun cls dd σ' H' fi x => q cls dd H' (keepI fi) x
    | stuck =>
      rw [e2] at q
      exact q
end
section
variable {X : Cx} {c : Cy} {W : WX} {σ : L2.St} {H H' : Hp} {O : List (Nat × Addr)} {ρ : Slots} {pt pt' : Pot}
/-- what is one's own is changed -/
theorem RS.mut (r : RS c O ρ σ H pt) {i : Nat} {a : Addr} {o : HO} {s' : SV} (m : (i, a) ∈ O) (h : (Gr (Hd (hid c O) H) (Hd (hid c O) (upd H a o))) → SlotOk c O (upd H a o) i σ[i]? s') (hi : i < ρ.length) (ho : isOwn s' = true := by rfl) (mo : mt o = true := by rfl) :
    RS c O (ρ.set i (some s')) σ (upd H a o) pt ∧ Mv c O H O (upd H a o) := by
  have ah : a ∈ hid c O := List.mem_append_right _ (List.mem_map.mpr ⟨_, m, rfl⟩)
  have ap : c.p ≠ a := fun z => (r.new _ m).2.1 z.symm
  have g : Gr (Hd (hid c O) H) (Hd (hid c O) (upd H a o)) := fun b u e => by
    obtain ⟨h1, h2, h3⟩ := Hd.sees e
    exact Hd.out h1 (by rw [upd_ne (fun z : b = a => h1 (z ▸ ah))]; exact h2) h3
  obtain ⟨u0, e0, m0⟩ := r.hidden ah
  refine ⟨⟨r.pot.upd ap e0 m0, fun b u n e nn => ?_, r.hp, fun b hb => ?_, fun q hq => ?_, r.nd, r.nf, by rw [List.length_set]; exact r.len, fun q hq => ?_, fun j s hj => ?_⟩, fun b u h1 h2 _ => ⟨h1, by rw [upd_ne (fun z : b = a => h1 (z ▸ ah))]; exact h2⟩⟩
  · rw [upd_ne (Hd.ne e nn (r.new _ m).1)]
    exact r.ext b u n e nn
  · obtain ⟨u, e, mu⟩ := r.hS b hb
    by_cases z : b = a
    · exact ⟨o, by rw [z, upd_same], mo⟩
    · exact ⟨u, by rw [upd_ne z]; exact e, mu⟩
  · obtain ⟨h1, h2, h4, u, h3, mu⟩ := r.new q hq
    refine ⟨h1, h2, h4, ?_⟩
    by_cases z : q.2 = a
    · exact ⟨o, by rw [z, upd_same], mo⟩
    · exact ⟨u, by rw [upd_ne z]; exact h3, mu⟩
  · by_cases e : q.1 = i
    · rw [e]
      exact ⟨s', List.getElem?_set_self hi, ho⟩
    · rw [List.getElem?_set_ne (Ne.symm e)]
      exact r.ow q hq
  · by_cases e : j = i
    · subst e
      rw [List.getElem?_set_self hi] at hj
      cases hj
      exact h g
    · rw [List.getElem?_set_ne (Ne.symm e)] at hj
      have q := r.sl j s hj
      have ne : ∀ {b : Addr}, (j, b) ∈ O → b ≠ a := fun mb z => by
        have := same_of r.nd m mb z
        cases this
        exact e rfl
      cases s with
      | val d =>
        obtain ⟨v, e, r⟩ := q
        exact ⟨v, e, R.gr g r⟩
      | own ds =>
        obtain ⟨b, vs, m, e, q, r⟩ := q
        exact ⟨b, vs, m, e, by rw [upd_ne (ne m)]; exact q, RL.gr g r⟩
      | ownd ds =>
        obtain ⟨b, vs, m, e, q, r⟩ := q
        exact ⟨b, vs, m, e, by rw [upd_ne (ne m)]; exact q, RK.gr g r⟩
      | slf k fs =>
        obtain ⟨b, dx, vs, m, em, e, q, l, r⟩ := q
        exact ⟨b, dx, vs, m, em, e, by rw [upd_ne (ne m)]; exact q, l, RL.gr g r⟩
      | exv e fs => exact ⟨q.1, Xv.gr g q.2⟩
      | lam => exact ⟨q.1, g _ _ q.2⟩
      | raw v => exact q
theorem putF_new {f : Str} {y : V} : ∀ {fs : List (Str × V)}, f ∉ fs.map (·.1) → putF f y fs = fs ++ [(f, y)]
  | [], _ => rfl
  | (g, v) :: fs, h => by
    have h1 : f ≠ g := fun e => h (by rw [e]; exact List.mem_cons_self)
    show (if g = f then _ else (g, v) :: putF f y fs) = _
    rw [if_neg (Ne.symm h1), putF_new fun q => h (List.mem_cons_of_mem _ q)]
    rfl
theorem zip_put {ns : List Str} {vs : List V} {f : Str} {y : V} (nd : ns.Nodup) (h : ns[vs.length]? = some f) : putF f y (ns.zip vs) = ns.zip (vs ++ [y]) := by
  have hl := (List.getElem?_eq_some_iff.mp h).1
  induction ns generalizing vs with
  | nil => simp at hl
  | cons n ns ih =>
    cases vs with
    | nil =>
      simp at h
      subst h
      simp [putF]
    | cons v vs =>
      simp only [List.length_cons, List.getElem?_cons_succ] at h
      have nd' := List.nodup_cons.mp nd
      have hn : n ≠ f := fun e => nd'.1 (e ▸ List.mem_of_getElem? h)
      have hl' := (List.getElem?_eq_some_iff.mp h).1
      show (if n = f then _ else (n, v) :: putF f y (ns.zip vs)) = _
      rw [if_neg hn, ih nd'.2 h hl']
      rfl
/-- self.f = e, the field number ix -/
def fldS (i kc ix : Nat) (f : Slots → M D) : Slots → M Out := fun ρ => bnd (f ρ) fun d => match ρ[i]? with
  | some (some (.slf k fs)) => if k = kc ∧ fs.length = ix then ret (.nx (ρ.set i (some (.slf k (fs ++ [d]))))) else fail
  | _ => fail
theorem ds_fld {i kc ix : Nat} {x f : Str} {C : Addr} {e : Expr} {g : Slots → M D} {p1 p2 pos : Pos} (h : PE X e (dE c W g)) (hC : c.T.cls kc = C) (cl : Cls X.K C) (hno : NoAttr X.K C f) (nd : (c.T.names kc).Nodup) (hf : (c.T.names kc)[ix]? = some f) (hsz : (c.T.names kc).length < 1000)
    (hN : X.N[i]? = some x := by rfl) (hv : Vis X.env.scope x := by first | exact Or.inl rfl | exact Or.inr (Or.inl rfl)) (hd : (x == ("__debug__" : Str)) = false := by decide) (hcd : (x == ("__classdict__" : Str)) = false := by decide)
    (hs : swapsWith e (some (.Attribute (.Name x p1) f p2)) pos.line X.env = pure false := by rfl) : PS X (.Assign [.Attribute (.Name x p1) f p2] e pos) (dS c W (fldS i kc ix g)) := by
  refine ps_imp (ps_fld (pe_var (i := i) hN hv hd hcd) h hs) fun E σ H ⟨O, ρ, pt, r, h⟩ => ⟨O, ρ, pt, r, (WO.bnd r h).imp fun d p1 H1 _ s1 q v rv => ?_⟩
  have r1 := r.stp s1
  revert q
  match hρ : ρ[i]? with
  | some (some (.slf k fs)) =>
    intro q
    simp only at q
    by_cases hz : k = kc ∧ fs.length = ix
    · rw [if_pos hz] at q
      obtain ⟨rfl, rfl⟩ := hz
      obtain ⟨a, dx, vs, m, em, ev, ha, hl, rl⟩ := r1.sl i _ hρ
      have lv := RL.len rl
      refine ⟨_, ev, a, C, dx, _, rfl, by rw [← hC]; exact ha, cl, hno, by rw [List.length_zip]; omega, ?_⟩
      rw [← hC, zip_put nd (by rw [← lv]; exact hf)]
      have hi : i < ρ.length := (List.getElem?_eq_some_iff.mp hρ).1
      have hle : (fs ++ [d]).length ≤ (c.T.names k).length := by
        have := (List.getElem?_eq_some_iff.mp hf).1
        rw [List.length_append]
        simp only [List.length_cons, List.length_nil]
        omega
      obtain ⟨rs, mv⟩ := r1.mut (s' := .slf k (fs ++ [d])) m (o := .ins (c.T.cls k) dx ((c.T.names k).zip (vs ++ [v]))) (fun gr => ⟨a, dx, vs ++ [v], m, em, ev, upd_same, hle, RL.app (RL.gr gr rl) (RL.one (R.gr gr rv))⟩) hi
      exact q _ _ _ rs mv
    · rw [if_neg hz] at q
      exact q.elim
  | some (some (.val _)) => exact fun q => q.elim
  | some (some (.own _)) => exact fun q => q.elim
  | some (some (.ownd _)) => exact fun q => q.elim
  | some (some (.exv _ _)) => exact fun q => q.elim
  | some (some .lam) => exact fun q => q.elim
  | some (some (.raw _)) => exact fun q => q.elim
  | some none => exact fun q => q.elim
  | none => exact fun q => q.elim
/-- C(e, ..) -/
def makeE (kc n : Nat) (m : List D → M (List D)) (dd : List D) (fa : Slots → M (List D)) : Slots → M D := fun ρ => bnd (fa ρ) fun ds => if (ds ++ dd).length + 1 = n then bnd (m (ds ++ dd)) fun fs => ret (.obj kc fs) else fail
theorem spI_of {kc n : Nat} {m : List D → M (List D)} {xs : List D} {vs : List V} {Q : VK} {x dx : Addr} {C : Addr} (rs : RS c O ρ σ H pt) (rl : c.RL (Hd (hid c O) H) xs vs) (hl : xs.length + 1 = n) (hC : c.T.cls kc = C) (hx : H x = none) (hdx : H dx = none) (ne : dx ≠ x)
    (h : Wg c W σ H (fun d _ H' => ∀ v, c.R (Hd (hid c O) H') d v → Q v H') (bnd (m xs) (fun fs => ret (.obj kc fs)) pt)) :
    spI c.K c.T kc n m (.ref x :: vs) (upd (upd H dx (.own x)) x (.ins C dx [])) (fun v H2 => v = .non ∧ Q (.ref x) H2) (WE W σ) := by
  have g0 : Gr H (upd (upd H dx (.own x)) x (.ins C dx [])) := fun a o e => by
    rw [upd_ne (ne_of_none e hx), upd_ne (ne_of_none e hdx)]
    exact e
  have xh : x ∉ hid c O := rs.fresh hx
  have h := Wg.bnd h
  refine ⟨c.p, hid c O, x, dx, xs, vs, pt, rfl, rs.pm, fun a ha => let ⟨o, e, m⟩ := rs.hidden ha; ⟨o, g0 _ _ e, m⟩, xh, hl, by rw [hC]; exact upd_same, RL.gr (fun a o e => ?_) rl, rs.pot.ext g0, ?_⟩
  · obtain ⟨h1, h2, h3⟩ := Hd.sees e
    exact Hd.out (fun z => (List.mem_cons.mp z).elim (ne_of_none h2 hx) h1) (g0 _ _ h2) h3
  · have step : ∀ {H' : Hp} {p1 : Pot}, StpI c.T.tb c.p x (upd (upd H dx (.own x)) x (.ins C dx [])) H' p1 → Stp c.T.tb c.p H H' p1 := fun st => ⟨fun a o n e m => st.keep a o n (ne_of_none e hx) (g0 _ _ e) m, st.pot⟩
    cases e : m xs pt with
    | ok fs p1 =>
      rw [e] at h
      intro H' dx' fvs st hx' hn rf
      refine ⟨rfl, Wg.here (h H' (step st)) st.pot _ ?_⟩
      simp only [Cy.R, R]
      exact ⟨x, dx', fvs, rfl, Hd.out xh hx', hn, RL.gr (Hd.sub fun b hb => List.mem_cons_of_mem _ hb) rf⟩
    | exc k fs p1 =>
      rw [e] at h
      exact fun cls dd H' st rx => h cls dd H' (step st) (RX.less rx rfl rfl rfl fun a h => List.mem_append_left _ h)
    | stuck =>
      rw [e] at h
      exact h
variable {gu : Prop} {k n kc : Nat} {f C : Addr} {fd : FuncData} {ps : List Str} {ds : List Value} {dvs : List V} {dd : List D} {x m : Str} {p pos apos : Pos} {e o : Expr} {es : List Expr} {fm : List D → M (List D)} {fa : Slots → M (List D)} {fo : Slots → M D}
theorem de_make (M : Mk X.K C f) (F : FnG gu X.prog X.w X.K X.mg X.base (L2.CX X.prog X.w) k f fd ps (spI c.K c.T kc n fm)) (hr : Rm gu (k + 1) X.A) (tk : Takes X W) (hm : X.mg x = some (.ref C)) (hC : c.T.cls kc = C) (hb : Binds X.K fd ps ds) (hd : Vals dvs ds) (hc : Cst c dd dvs) (ha : PA X (e :: es) (dA c W fa))
    (hg : Gl X x := by rfl) (hdb : (x == ("__debug__" : Str)) = false := by decide) (he : starEach (e :: es) X.env = (false, eval e X.env) :: starEach es X.env := by rfl) (hpl : (backTo pos (starEach es X.env)).any (·.1) = false := by rfl) :
    PE X (.Call (.Name x p) (e :: es) [] pos) (dE c W (makeE kc n fm dd fa)) := by
  refine pe_imp (pe_makeA M F hr hg hm hb hd (passAt tk) ha hdb he hpl) fun σ H Q ⟨O, ρ, pt, r, q⟩ => ⟨O, ρ, pt, r, (Wg.bnd q).imp fun ds p1 H1 _ s1 q vs rvs => ?_⟩
  by_cases hz : (ds ++ dd).length + 1 = n
  · rw [if_pos hz] at q
    exact fun x dx h1 h2 h3 => spI_of (r.stp s1) (RL.app rvs (hc _)) hz hC h1 h2 h3 q
  · rw [if_neg hz] at q
    exact q.elim
theorem de_make0 (M : Mk X.K C f) (F : FnG gu X.prog X.w X.K X.mg X.base (L2.CX X.prog X.w) k f fd ps (spI c.K c.T kc n fm)) (hr : Rm gu (k + 1) X.A) (tk : Takes X W) (hm : X.mg x = some (.ref C)) (hC : c.T.cls kc = C) (hb : Binds X.K fd ps ds) (hd : Vals dvs ds) (hc : Cst c dd dvs)
    (hg : Gl X x := by rfl) (hdb : (x == ("__debug__" : Str)) = false := by decide) : PE X (.Call (.Name x p) [] [] pos) (dE c W (makeE kc n fm dd nilA)) := by
  refine pe_imp (pe_makeA0 M F hr hg hm hb hd (passAt tk) hdb) fun σ H Q ⟨O, ρ, pt, r, q⟩ => ?_
  have q := Wg.here (Wg.bnd q) r.pot
  by_cases hz : (([] : List D) ++ dd).length + 1 = n
  · rw [if_pos hz] at q
    exact fun x dx h1 h2 h3 => spI_of (vs := [] ++ dvs) r (hc _) hz hC h1 h2 h3 q
  · rw [if_neg hz] at q
    exact q.elim
/-- e.f, the field number ix of the class kc -/
def getE (kc ix : Nat) (fo : Slots → M D) : Slots → M D := fun ρ => bnd (fo ρ) fun z => match z with
  | .obj j fs => if j = kc then opt fs[ix]? else fail
  | _ => fail
theorem zip_look {ns : List Str} {vs : List V} {f : Str} {v : V} {ix : Nat} (nd : ns.Nodup) (h : ns[ix]? = some f) (hv : vs[ix]? = some v) : (ns.zip vs).lookup f = some v := by
  induction ns generalizing vs ix with
  | nil => simp at h
  | cons n ns ih =>
    cases vs with
    | nil => simp at hv
    | cons w vs =>
      have nd' := List.nodup_cons.mp nd
      cases ix with
      | zero =>
        simp at h hv
        subst h hv
        simp [List.lookup]
      | succ ix =>
        simp at h hv
        have hn : f ≠ n := fun e => nd'.1 (e ▸ List.mem_of_getElem? h)
        show (match f == n with | true => _ | false => _) = _
        rw [beq_eq_false_iff_ne.mpr hn]
        exact ih nd'.2 h hv
theorem de_get {kc ix : Nat} {f : Str} (ho : PE X o (dE c W fo)) (hC : c.T.cls kc = C) (cl : Cls X.K C) (hno : NoAttr X.K C f) (nd : (c.T.names kc).Nodup) (hf : (c.T.names kc)[ix]? = some f) (hb : attributeBase o f X.env (eval o X.env) = eval o X.env := by rfl) :
    PE X (.Attribute o f pos) (dE c W (getE kc ix fo)) := by
  refine pe_imp (pe_fld ho hb) fun σ H Q ⟨O, ρ, pt, r, q⟩ => ⟨O, ρ, pt, r, (Wg.bnd q).imp fun z p1 H1 _ s1 qz v rv => ?_⟩
  cases z with
  | obj j fs =>
    simp only at qz
    by_cases hj : j = kc
    · rw [if_pos hj] at qz
      subst hj
      simp only [Cy.R, R] at rv
      obtain ⟨a, dx, ws, rfl, ha, _, rl⟩ := rv
      obtain ⟨d, ed, qd⟩ := Wg.opt qz s1.pot
      obtain ⟨v, ev, rv⟩ := RL.getD rl ed
      exact ⟨a, C, dx, _, v, rfl, by rw [← hC]; exact Hd.le _ _ ha, cl, hno, zip_look nd hf ev, qd v rv⟩
    · rw [if_neg hj] at qz
      exact qz.elim
  | _ => exact qz.elim
/-- of two readings the one that applies -/
def orF (f g : Slots → M D) : Slots → M D := fun ρ pt => match f ρ pt with
  | .stuck => g ρ pt
  | r => r
theorem de_or2 {f g : Slots → M D} (h : PE X e (dE c W f)) (h' : PE X e (dE c W g)) : PE X e (dE c W (orF f g)) := by
  refine pe_imp (pe_or2 h h') fun σ H Q ⟨O, ρ, pt, r, q⟩ => ?_
  unfold orF at q
  cases e : f ρ pt with
  | stuck =>
    rw [e] at q
    exact .inr ⟨O, ρ, pt, r, q⟩
  | ok d p =>
    rw [e] at q
    exact .inl ⟨O, ρ, pt, r, by rw [e]; exact q⟩
  | exc k fs p =>
    rw [e] at q
    exact .inl ⟨O, ρ, pt, r, by rw [e]; exact q⟩
/-- a property of the class kc; its getter raises nothing -/
def noX {α : Type} (m : M α) : M α := fun pt => match m pt with
  | .exc _ _ _ => .stuck
  | r => r
def propE (kc : Nat) (fm : List D → M D) (fo : Slots → M D) : Slots → M D := fun ρ => bnd (fo ρ) fun z => match z with
  | .obj j fs => if j = kc then noX (fm [.obj j fs]) else fail
  | _ => fail
theorem spF_ofN {n : Nat} {fm : List D → M D} {xs : List D} {vs : List V} {Q : VK} (rs : RS c O ρ σ H pt) (rl : c.RL (Hd (hid c O) H) xs vs) (hl : xs.length = n)
    (h : Wg c W σ H (fun d _ H' => ∀ v, c.R (Hd (hid c O) H') d v → Q v H') (noX (fm xs) pt)) : spF c.K c.T n fm vs H Q E0 := by
  refine ⟨c.p, hid c O, xs, pt, rs.pm, fun a h => rs.hidden h, hl, rl, rs.pot, ?_⟩
  unfold noX at h
  cases e : fm xs pt with
  | ok d p1 =>
    rw [e] at h
    exact fun v H' st rv => h H' st v rv
  | exc k fs p1 =>
    rw [e] at h
    exact h.elim
  | stuck =>
    rw [e] at h
    exact h
theorem de_prop {fm : List D → M D} {y : Str} {pa g : Addr} (ho : PE X o (dE c W fo)) (hC : c.T.cls kc = C) (cl : Cls X.K C) (hp : PropOf X.K C y pa g) (F : FnG False X.prog X.w X.K X.mg X.base (L2.CX X.prog X.w) k g fd ps (spF c.K c.T 1 fm)) (hr : Rm False (k + 1) X.A) (hb : Binds X.K fd ps [])
    (hab : attributeBase o y X.env (eval o X.env) = eval o X.env := by rfl) : PE X (.Attribute o y pos) (dE c W (propE kc fm fo)) := by
  refine pe_imp (pe_prop (E := E0) ho cl hp F.ok hr.room hb .nil (passL (X := X.nox)) hab) fun σ H Q ⟨O, ρ, pt, r, q⟩ => ⟨O, ρ, pt, r, (Wg.bnd q).imp fun z p1 H1 _ s1 qz v rv => ?_⟩
  cases z with
  | obj j fs =>
    simp only at qz
    by_cases hj : j = kc
    · rw [if_pos hj] at qz
      subst hj
      have rv' := rv
      simp only [Cy.R, R] at rv
      obtain ⟨a, dx, ws, rfl, ha, _, rl⟩ := rv
      exact ⟨a, dx, _, rfl, by rw [← hC]; exact Hd.le _ _ ha, spF_ofN (r.stp s1) (RL.one rv') rfl qz⟩
    · rw [if_neg hj] at qz
      exact qz.elim
  | _ => exact qz.elim
end
end DF

set_option Elab.async false
set_option linter.all false
set_option maxRecDepth 100000
set_option maxHeartbeats 4000000
namespace DF
open PySem L2
/-! ### kinds of values -/
/-- what isinstance and comparisons look up of a class of the text -/
structure ClsI (K : PySem.W.Frag) (C : Addr) : Prop where
  cl : Cls K C
  ha : PySem.W.findIn K (.ref C) "__class__" = some (some (.builtin "object.__class__"))
  hn : PySem.W.specialIn K (.builtin "object.__class__") "__get__" = some (some (.builtin "getset_descriptor.__get__"))
  htk : PySem.W.takesIn K (.builtin "object.__class__") = some true
  hm : PySem.W.mroIn K C (.type "object") = some true
def tag (T : Tb) (nC : Nat) : D → Option Value
  | .non => some (.type "NoneType")
  | .bl _ => some (.type "bool")
  | .int _ => some (.type "int")
  | .str _ => some (.type "str")
  | .lst _ => some (.type "list")
  | .tup _ => some (.type "tuple")
  | .dct _ => some (.type "dict")
  | .obj k _ => if k < nC then some (.ref (T.cls k)) else none
  | _ => none
/-- a kind of value that is told: a built-in one, or one of the first nC classes -/
def knd (nC : Nat) : D → Option (Sum String Nat)
  | .non => some (.inl "NoneType")
  | .bl _ => some (.inl "bool")
  | .int _ => some (.inl "int")
  | .str _ => some (.inl "str")
  | .lst _ => some (.inl "list")
  | .tup _ => some (.inl "tuple")
  | .dct _ => some (.inl "dict")
  | .obj k _ => if k < nC then some (.inr k) else none
  | _ => none
def tagV (T : Tb) : Sum String Nat → Value
  | .inl n => .type n
  | .inr k => .ref (T.cls k)
theorem tag_knd (T : Tb) (nC : Nat) (x : D) : tag T nC x = (knd nC x).map (tagV T) := by
  cases x <;> first | rfl | (simp only [tag, knd]; split <;> rfl)
def tagB : List String := ["NoneType", "bool", "int", "str", "list", "tuple", "dict"]
section
variable {gu : Prop} {X : Cx} {c : Cy} {W : WX} {σ : L2.St} {H H' : Hp} {O : List (Nat × Addr)} {ρ : Slots} {pt pt' : Pot} {nC : Nat}
theorem tag_ok {x : D} {v : V} {t : Value} (hC : ∀ k, k < nC → ClsI X.K (c.T.cls k)) (hK : c.K = X.K) (h : RB c O H x v) (e : tag c.T nC x = some t) : TyX X.K H v t := by
  cases x with
  | non => simp only [tag] at e; cases e; rw [h.non]; exact .base .non
  | bl b => simp only [tag] at e; cases e; rw [h.bl]; exact .base (.bl b)
  | int b => simp only [tag] at e; cases e; rw [h.int]; exact .base (.int b)
  | str b => simp only [tag] at e; cases e; rw [h.str]; exact .base (.str b)
  | lst ds =>
    simp only [tag] at e; cases e
    obtain ⟨a, vs, rfl, ha, _⟩ := h.lst
    exact .base (.lst ha)
  | dct ds =>
    simp only [tag] at e; cases e
    obtain ⟨a, vs, rfl, ha, _⟩ := h.dct
    exact .base (.dK ha)
  | tup ds =>
    simp only [tag] at e; cases e
    obtain ⟨a, vs, rfl, ha, _⟩ := h.tup
    rcases ha with (ha | ⟨o, ha⟩) | ⟨o, its, n, h1, h2, _⟩
    · exact .base (.tup ha)
    · exact .fTuple ha
    · exact .kTuple (by rw [← hK]; exact h1) h2
  | obj k fs =>
    simp only [tag] at e
    split at e
    · rename_i hk
      cases e
      have q := h.obj
      simp only [Cy.R, R] at q
      obtain ⟨a, dx, vs, rfl, ha, _, _⟩ := q
      have I := hC k hk
      exact .base (.ins (Hd.le _ _ ha) I.cl I.ha I.hn I.htk I.hm)
    · cases e
  | ex _ _ => simp only [tag] at e; cases e
  | pot => simp only [tag] at e; cases e
  | fn _ => simp only [tag] at e; cases e
  | cls _ => simp only [tag] at e; cases e
  | ty _ => simp only [tag] at e; cases e

/-! ### operators on values that are kept -/
def OpV (X : Cx) (c : Cy) (W : WX) (f : Value → Value → Sem Value) (g : D → D → M D) : Prop := ∃ r : L2.St → R2, OpS X f r ∧
  ∀ (σ : L2.St) (O : List (Nat × Addr)) (ρ : Slots) (pt : Pot) (H : Hp) (Q : VK) (x y : D) (v w : V), RS c O ρ σ H pt → c.R (Hd (hid c O) H) x v → c.R (Hd (hid c O) H) y w →
    Wg c W σ H (fun d _ H' => ∀ v, c.R (Hd (hid c O) H') d v → Q v H') (g x y pt) → r σ v w H Q
theorem OpD.v {f : Value → Value → Sem Value} {g : D → D → M D} (o : OpD X c W f g) : OpV X c W f g := by
  obtain ⟨r, h1, h2⟩ := o
  exact ⟨r, h1, fun σ O ρ pt H Q x y v w rs rx ry q => h2 σ O ρ pt H Q x y v w rs (.inl rx) (.inl ry) q⟩
theorem OpV.or {f : Value → Value → Sem Value} {g h : D → D → M D} (a : OpV X c W f g) (b : OpV X c W f h) : OpV X c W f (orM g h) := by
  obtain ⟨r, r1, r2⟩ := a
  obtain ⟨r', r1', r2'⟩ := b
  refine ⟨_, r1.or r1', fun σ O ρ pt H Q x y v w rs rx ry q => ?_⟩
  unfold orM at q
  cases e : g x y pt with
  | stuck =>
    rw [e] at q
    exact .inr (r2' σ O ρ pt H Q x y v w rs rx ry q)
  | ok d p =>
    rw [e] at q
    exact .inl (r2 σ O ρ pt H Q x y v w rs rx ry (by rw [e]; exact q))
  | exc k fs p =>
    rw [e] at q
    exact .inl (r2 σ O ρ pt H Q x y v w rs rx ry (by rw [e]; exact q))
theorem OpV.use {f : Value → Value → Sem Value} {g : D → D → M D} {fa fb : Slots → M D} (o : OpV X c W f g) : ∃ r : L2.St → R2, OpS X f r ∧ ∀ σ H Q, dE c W (binE g fa fb) σ H Q → dE c W fa σ H fun x H1 => dE c W fb σ H1 fun y H2 => r σ x y H2 Q := by
  obtain ⟨r, h1, h2⟩ := o
  refine ⟨r, h1, fun σ H Q ⟨O, ρ, pt, rs, q⟩ => ?_⟩
  refine ⟨O, ρ, pt, rs, (Wg.bnd q).imp fun x p1 H1 _ s1 q v rv => ?_⟩
  have rs1 := rs.stp s1
  refine ⟨O, ρ, p1, rs1, (Wg.bnd q).imp fun y p2 H2 _ s2 q w rw => ?_⟩
  exact h2 σ O ρ p2 H2 Q x y v w (rs1.stp s2) (R.gr (s2.gr rs.pm) rv) rw q
theorem de_opV {op : Operator} {g : D → D → M D} {a b : Expr} {fa fb : Slots → M D} {pos : Pos} (o : OpV X c W (binaryOp op) g) (ha : PE X a (dE c W fa)) (hb : PE X b (dE c W fb)) : PE X (.BinOp a op b pos) (dE c W (binE g fa fb)) := by
  obtain ⟨r, h1, h2⟩ := OpV.use (fa := fa) (fb := fb) o
  exact ⟨fun pins s σ H Q I h => wpAny_BinOp (binT ha hb I (h2 σ H Q h) fun v u s2 x y H2 I2 rx ry q => h1 pins s2 σ H2 x y v u Q I2 rx ry q)⟩
theorem de_cmpV {op : CmpOp} {g : D → D → M D} {a b : Expr} {fa fb : Slots → M D} {pos : Pos} (o : OpV X c W (compareOp op) g) (ha : PE X a (dE c W fa)) (hb : PE X b (dE c W fb)) (hm : behindInMarks op b = false := by first | exact nomark _ | rfl) : PE X (.Compare a [op] [b] pos) (dE c W (binE g fa fb)) := by
  obtain ⟨r, h1, h2⟩ := OpV.use (fa := fa) (fb := fb) o
  exact ⟨fun pins s σ H Q I h => wpAny_Compare1 (binT ha hb I (h2 σ H Q h) fun v u s2 x y H2 I2 rx ry q => h1 pins s2 σ H2 x y v u Q I2 rx ry q) hm⟩
theorem dt_cmpV {op : CmpOp} {g : D → D → M D} {a b : Expr} {fa fb : Slots → M D} {pos : Pos} (o : OpV X c W (compareOp op) g) (ha : PE X a (dE c W fa)) (hb : PE X b (dE c W fb)) (hm : behindInMarks op b = false := by first | exact nomark _ | rfl) : PT X (.Compare a [op] [b] pos) (dT c W (testE (binE g fa fb))) := by
  obtain ⟨r, h1, h2⟩ := OpV.use (fa := fa) (fb := fb) o
  refine ⟨fun pins s σ H Q I ⟨O, ρ, pt, rs, q⟩ => ?_⟩
  have q1 : dE c W (binE g fa fb) σ H (fun x H' => ∃ k, x = .bl k ∧ Q k H') := ⟨O, ρ, pt, rs, (Wg.bnd q).imp fun d p1 H1 _ s1 q v rv => by
    obtain ⟨b, ed, q2⟩ := asB_ok q s1.pot
    subst ed
    exact ⟨b, by simpa [Cy.R, R] using rv, q2⟩⟩
  refine wpAny_isTrue_Compare1 (thn (ha.run pins s σ H _ I (h2 σ H _ q1)) fun v s1 ⟨x, H1, I1, r1, q1⟩ => thn (hb.run pins s1 σ H1 _ I1 q1) fun u s2 ⟨y, H2, I2, r2, q2⟩ => thn (h1 pins s2 σ H2 x y v u _ I2 r1 r2 q2) fun z s3 ⟨t, H3, I3, r3, k, e, q3⟩ => ?_) hm
  subst e
  cases r3
  exact wpAny_truthy_bool ⟨H3, I3, q3⟩

/-! ### operators of the text's own classes -/
variable {CX : CXT} {k n kc : Nat} {f C : Addr} {fd : FuncData} {ps : List Str} {fm : List D → M D} {sp : Sp} {E : L2.St → XK}
/-- the callee runs somewhere below -/
theorem runSub {A : Around} {pins : List (Addr × Obj)} {s : Shared} {Q : VK} {us : List Value} {vs : List V} (F : FnG gu X.prog X.w X.K X.mg X.base CX k f fd ps sp) (hr : Rm gu k A) (hfr : A.frames = X.A.frames) (hb : Binds X.K fd ps []) (hx : PassesAt CX X σ (E σ))
    (I : Inv X pins σ H s) (r : Vals vs us) (h : sp vs H Q (E σ)) : wpAny (model X.prog X.w) A (call (.ref f) us) (EP X pins σ Q) X.xe s := by
  have hl : us.length = ps.length := r.length.symm.trans (F.len _ _ _ _ h)
  have b := hb s us I.kIn (by rw [List.append_nil]; exact hl)
  rw [List.append_nil] at b
  have e := I.env0
  have e0 : Env0 X.prog X.w X.K X.mg X.base A X.stack s H := ⟨hfr.trans e.frames, e.mod, e.bs, e.bsz, e.funs, e.frf, e.hok, e.bare⟩
  refine wpAny_call (codeAny_mono (F.run A X.stack s H ⟨us, []⟩ us vs Q (E σ) hr e0 b r h) fun res s' hq => ?_)
  match res, hq with
  | .error e, hq => exact hx pins H s e s' I hq
  | .ok (.ret u), hq => exact I.after hq
theorem not_ni {v : V} {u : Value} (r : RelV v u) : u ≠ .notImplemented := fun e => by
  subst e
  cases v with
  | int i => obtain ⟨_, z⟩ := r; cases z
  | str i => obtain ⟨_, z⟩ := r; cases z
  | byt i => obtain ⟨_, z⟩ := r; cases z
  | flt i => obtain ⟨_, z⟩ := r; cases z
  | _ => cases r
theorem cmpBack {pins : List (Addr × Obj)} {Q : VK} {u : Value} {s' : Shared} (h : EP X pins σ Q u s') : PySem.W.CmpBack (EP X pins σ Q) u s' := by
  obtain ⟨v, H', I, r, q⟩ := h
  have := not_ni r
  unfold PySem.W.CmpBack
  split
  · exact this rfl
  · exact ⟨v, H', I, r, q⟩
/-- an instance of the class: what the library's rules ask -/
theorem inst_at {pins : List (Addr × Obj)} {s : Shared} {a dx : Addr} {fs : List (Str × V)} (I : Inv X pins σ H s) (e : H a = some (.ins C dx fs)) : ∃ ox od, PySem.W.InstAt s.heap a ox C (some od) := by
  obtain ⟨mA, J, _⟩ := ins_get I.hok e
  obtain ⟨od, J, _⟩ := J.look
  exact ⟨_, od, J⟩
/-- what an own method is asked with: the object, and any value whose kind is told -/
def ownM (nC kc : Nat) (fm : List D → M D) : D → D → M D := fun x y => match x with
  | .obj j fs => if j = kc ∧ (knd nC y).isSome then fm [.obj j fs, y] else fail
  | _ => fail
/-- the reading of an own method of two -/
def rOwn (X : Cx) (c : Cy) (W : WX) (nC kc : Nat) (fm : List D → M D) (C : Addr) : L2.St → R2 := fun σ v w H Q => ∃ a dx fs t, v = .ref a ∧ H a = some (.ins C dx fs) ∧ TyX X.K H w t ∧ (∃ n ∈ tagB, t = .type n) ∧ spF c.K c.T 2 fm [v, w] H Q (WE W σ)
def rOwn2 (X : Cx) (c : Cy) (W : WX) (nC kc : Nat) (fm : List D → M D) (C : Addr) : L2.St → R2 := fun σ v w H Q => ∃ a dx fs b dy gs k, v = .ref a ∧ H a = some (.ins C dx fs) ∧ w = .ref b ∧ k < nC ∧ H b = some (.ins (c.T.cls k) dy gs) ∧ TyX X.K H w (.ref (c.T.cls k)) ∧ spF c.K c.T 2 fm [v, w] H Q (WE W σ)
theorem own_use (hCs : ∀ k, k < nC → ClsI X.K (c.T.cls k)) (hK : c.K = X.K) (hC : c.T.cls kc = C) {x y : D} {v w : V} {Q : VK} (rs : RS c O ρ σ H pt) (rx : c.R (Hd (hid c O) H) x v) (ry : c.R (Hd (hid c O) H) y w)
    (q : Wg c W σ H (fun d _ H' => ∀ v, c.R (Hd (hid c O) H') d v → Q v H') (ownM nC kc fm x y pt)) : rOwn X c W nC kc fm C σ v w H Q ∨ rOwn2 X c W nC kc fm C σ v w H Q := by
  cases x with
  | obj j fs =>
    simp only [ownM] at q
    by_cases hj : j = kc ∧ (knd nC y).isSome
    · rw [if_pos hj] at q
      obtain ⟨rfl, ht⟩ := hj
      have ht : (tag c.T nC y).isSome = true := by rw [tag_knd, Option.isSome_map]; exact ht
      obtain ⟨t, et⟩ := Option.isSome_iff_exists.mp ht
      have ty := tag_ok hCs hK (.inl ry) et
      have sp : spF c.K c.T 2 fm [v, w] H Q (WE W σ) := spF_of rs (RL.cons rx (RL.one ry)) rfl q
      simp only [Cy.R, R] at rx
      obtain ⟨a, dx, vs, rfl, ha, _, _⟩ := rx
      have ha' : H a = some (.ins C dx ((c.T.names j).zip vs)) := by rw [← hC]; exact Hd.le _ _ ha
      cases y with
      | obj k gs =>
        simp only [tag] at et
        split at et
        · rename_i hk
          cases et
          simp only [Cy.R, R] at ry
          obtain ⟨b, dy, ws, rfl, hb, _, _⟩ := ry
          exact .inr ⟨a, dx, _, b, dy, _, k, rfl, ha', rfl, hk, Hd.le _ _ hb, ty, sp⟩
        · cases et
      | non => simp only [tag] at et; cases et; exact .inl ⟨a, dx, _, _, rfl, ha', ty, ⟨_, by simp [tagB], rfl⟩, sp⟩
      | bl _ => simp only [tag] at et; cases et; exact .inl ⟨a, dx, _, _, rfl, ha', ty, ⟨_, by simp [tagB], rfl⟩, sp⟩
      | int _ => simp only [tag] at et; cases et; exact .inl ⟨a, dx, _, _, rfl, ha', ty, ⟨_, by simp [tagB], rfl⟩, sp⟩
      | str _ => simp only [tag] at et; cases et; exact .inl ⟨a, dx, _, _, rfl, ha', ty, ⟨_, by simp [tagB], rfl⟩, sp⟩
      | lst _ => simp only [tag] at et; cases et; exact .inl ⟨a, dx, _, _, rfl, ha', ty, ⟨_, by simp [tagB], rfl⟩, sp⟩
      | tup _ => simp only [tag] at et; cases et; exact .inl ⟨a, dx, _, _, rfl, ha', ty, ⟨_, by simp [tagB], rfl⟩, sp⟩
      | dct _ => simp only [tag] at et; cases et; exact .inl ⟨a, dx, _, _, rfl, ha', ty, ⟨_, by simp [tagB], rfl⟩, sp⟩
      | ex _ _ => simp only [tag] at et; cases et
      | pot => simp only [tag] at et; cases et
      | fn _ => simp only [tag] at et; cases et
      | cls _ => simp only [tag] at et; cases et
      | ty _ => simp only [tag] at et; cases et
    · rw [if_neg hj] at q
      exact q.elim
  | _ => exact q.elim
/-- what the order of the two sides asks of a class: no kind of value stands below it -/
structure CmpI (X : Cx) (T : Tb) (nC : Nat) (C : Addr) : Prop where
  nb : ∀ n ∈ tagB, PySem.W.subIn X.K (.type n) (.ref C) = some false
  no : ∀ k, k < nC → PySem.W.notFirst X.K C (.ref (T.cls k)) = true
theorem CmpI.nf {T : Tb} (h : CmpI X T nC C) {n : String} (hn : n ∈ tagB) : PySem.W.notFirst X.K C (.type n) = true := by
  unfold PySem.W.notFirst
  rw [h.nb n hn]
  simp
theorem ov_eq (hCs : ∀ k, k < nC → ClsI X.K (c.T.cls k)) (hK : c.K = X.K) (hC : c.T.cls kc = C) (ci : CmpI X c.T nC C) (hs : PySem.W.findIn X.K (.ref C) "__eq__" = some (some (.ref f))) (hf : PySem.W.isFn X.K (.ref f) = true)
    (F : FnG gu X.prog X.w X.K X.mg X.base (L2.CX X.prog X.w) k f fd ps (spF c.K c.T 2 fm)) (hr : Rm gu k X.A) (hb : Binds X.K fd ps []) (tk : Takes X W) : OpV X c W (compareOp .Eq) (ownM nC kc fm) := by
  refine ⟨fun σ v w H Q => rOwn X c W nC kc fm C σ v w H Q ∨ rOwn2 X c W nC kc fm C σ v w H Q, fun pins s σ H x y v u Q I rx ry q => ?_, fun σ O ρ pt H Q x y v w rs rx ry q => own_use hCs hK hC rs rx ry q⟩
  have go : ∀ {a : Addr} {t : Value}, x = .ref a → v = .ref a → TyX X.K H y t → PySem.W.notFirst X.K C t = true → (∃ dx fs, H a = some (.ins C dx fs)) → spF c.K c.T 2 fm [x, y] H Q (WE W σ) → wpAny (model X.prog X.w) X.A (compareOp .Eq v u) (EP X pins σ Q) X.xe s := by
    intro a t ex ev ty nf ⟨dx, fs, ha⟩ sp
    subst ex ev
    obtain ⟨ox, od, J⟩ := inst_at I ha
    obtain ⟨m, hF⟩ := I.fr
    obtain ⟨P, Z, p, _⟩ := kit_of I ry ty
    refine PySem.W.cmp_K (op := .Eq) hr.units0 hF I.ok.mod.kin J (Z.ty _ _ I.kIn p) nf hs hf ?_
    exact wpAny_mono (runSub (E := WE W) F hr rfl hb (passAt tk σ) I (.cons rx (.cons ry .nil)) sp) (fun r s' h => cmpBack h) fun _ _ z => z
  rcases q with ⟨a, dx, fs, t, e1, ha, ty, ⟨n, hn, et⟩, sp⟩ | ⟨a, dx, fs, b, dy, gs, j, e1, ha, e2, hj, _, ty, sp⟩
  · subst e1 et
    cases rx
    exact go rfl rfl ty (ci.nf hn) ⟨dx, fs, ha⟩ sp
  · subst e1
    cases rx
    exact go rfl rfl ty (ci.no j hj) ⟨dx, fs, ha⟩ sp
end
end DF

set_option Elab.async false
set_option linter.all false
set_option maxRecDepth 100000
set_option maxHeartbeats 4000000
namespace DF
open PySem L2
section
variable {prog : Program} {w : World} {A : Around} {E : Value → Shared → Prop} {s : Shared} {K : PySem.W.Frag} {x C L f : Addr} {h₀ : Heap} {m : Str → Option Value} {ox : Obj} {od : Option Obj} {b tb : Value}
theorem ne_bind (self : Value) : bindSpecial (.builtin "object.__ne__") self = pure (.builtin "object.__ne__", [self]) :=
  (Slot.of (T := "object") (name := "__ne__") (owner := "object") (n := "__ne__") (by rw [typeLookup_type, builtinLookup_eq_fast]; kernel_rfl) (by decide +kernel) (by decide +kernel) (by decide +kernel)
    (.inl (by decide +kernel)) (by rw [isSubtype_type]; kernel_rfl)).bind self
theorem ne_plain : plainId "object.__ne__" = true := by decide +kernel
/-- != of an own class that has == alone -/
theorem ne_own {Q : Value → Shared → Prop} (hu : A.in1.units < cLine) (hu0 : A.units < cLine) (F : PyProof.Rows.Fr h₀ L s.heap m) (X₀ : K.In h₀) (I : PySem.W.InstAt s.heap x ox C od) (hb : PySem.W.Looks (model prog w) s.heap (typeOf b) tb) (hn : PySem.W.notFirst K C tb = true)
    (hne : PySem.W.findIn K (.ref C) "__ne__" = some (some (.builtin "object.__ne__"))) (ho : PySem.W.subIn K (.ref C) (.type "object") = some true)
    (hs : PySem.W.findIn K (.ref C) "__eq__" = some (some (.ref f))) (hf : PySem.W.isFn K (.ref f) = true)
    (h : wpAny (model prog w) A.in1 (call (.ref f) [.ref x, b]) (fun v s' => ∃ r, v = .bool r ∧ Q (.bool (!r)) s') E s) : wpAny (model prog w) A (richCompare .NotEq (.ref x) b) Q E s := by
  have X := X₀.keeps F.keep
  have eqs : wpAny (model prog w) A.in1 (callSpecialIfBound? (.ref x) "__eq__" [b]) (fun r s' => ∃ z, r = some (.bool z) ∧ Q (.bool (!z)) s') E s :=
    PySem.W.ifBound_K X I hs hf (wpAny_mono h (fun v s' ⟨r, e, q⟩ => ⟨r, by rw [e], q⟩) fun _ _ e => e)
  have hi : PySem.W.Looks (model prog w) s.heap (isInstance (.ref x) (.type "object")) true := I.type.andThen (PySem.W.looks_subIn X ho)
  have run : wpAny (model prog w) A (call (.builtin "object.__ne__") [.ref x, b]) (fun v s' => ∃ z, v = .bool (!z) ∧ Q (.bool (!z)) s') E s := by
    refine wpAny_call (codeAny_call_builtin ne_plain PySem.F.cmpEntry_ne (@PySem.W.check_slot (model prog w) _ _ _ "object.__ne__" "object" "__ne__" (.ref x) [b] [] _ PySem.F.cmpKind_ne PySem.F.cmpSplit_ne hi (PySem.F.cmpArgs_ne _ _) ?_))
    unfold Builtin.«object.__ne__»
    refine wpAny_bind (m := PySem.slotArgs "__ne__" 1 ⟨[.ref x, b], []⟩) (wpAny_pure ?_)
    refine wpAny_bind (wpAny_cRoomFor hu ?_)
    refine wpAny_bind (wpAny_mono eqs (fun r s' hr => ?_) fun _ _ e => e)
    obtain ⟨z, rfl, q⟩ := hr
    refine wpAny_bind (wpAny_truthy_bool ?_)
    exact wpAny_pure ⟨z, rfl, q⟩
  have one : wpAny (model prog w) A (tryCompare (.ref x) "__ne__" b) (fun r s' => ∃ v, r = some v ∧ Q v s') E s := by
    unfold tryCompare
    refine wpAny_bind (m := callSpecialIfBound? (.ref x) "__ne__" [b]) ?_
    simp only [callSpecialIfBound?, bindSpecialIfBound?]
    refine wpAny_holding (wpAny_bind (wpAny_bind (wpAny_bind (I.type.here ((PySem.W.looks_findIn X hne).here ?_)))))
    refine wpAny_bind (wpAny_askSetting (wpAny_ite ?_))
    have fin : wpAny (model prog w) A (call (.builtin "object.__ne__") ([.ref x] ++ [b]) >>= fun v => pure (some v)) (fun r s' => wpAny (model prog w) A (match r with | some .notImplemented | none => pure none | some v => pure (some v)) (fun r s' => ∃ v, r = some v ∧ Q v s') E s') E s :=
      wpAny_bind (wpAny_mono run (fun v s' ⟨z, e, q⟩ => by subst e; exact wpAny_pure (wpAny_pure ⟨_, rfl, q⟩)) fun _ _ e => e)
    split
    · rw [ne_bind]
      exact wpAny_bind (wpAny_pure (wpAny_pure fin))
    · rw [ne_bind]
      exact wpAny_tryCatch (wpAny_bind (wpAny_pure (wpAny_pure fin)))
  unfold richCompare
  simp only [oneThing_ref]
  refine wpAny_holding (wpAny_bind (wpAny_cRoomFor hu0 ?_))
  refine wpAny_bind (I.type.here (wpAny_bind (hb.here ?_)))
  split
  · rename_i q
    have e : PySem.W.subIn K tb (.ref C) = some false := by
      rcases Bool.or_eq_true_iff.mp hn with e | e
      · rw [beq_iff_eq.mp e] at q; simp at q
      · exact beq_iff_eq.mp e
    refine wpAny_bind ((PySem.W.looks_subIn X e).here ?_)
    simp only [Bool.false_eq_true, if_false]
    refine wpAny_bind (wpAny_mono one (fun r s' z => ?_) fun _ _ e => e)
    obtain ⟨v, rfl, hq⟩ := z
    exact wpAny_pure hq
  · refine wpAny_bind (wpAny_pure ?_)
    simp only [Bool.false_eq_true, if_false]
    refine wpAny_bind (wpAny_mono one (fun r s' z => ?_) fun _ _ e => e)
    obtain ⟨v, rfl, hq⟩ := z
    exact wpAny_pure hq
end
section
variable {prog : Program} {w : World} {A : Around} {E : Value → Shared → Prop} {s : Shared} {K : PySem.W.Frag} {x C L f : Addr} {h₀ : Heap} {m : Str → Option Value} {ox : Obj} {od : Option Obj} {T : String}
/-- x + b where b is of a built-in kind, its type as it is looked up -/
theorem own_binT {op : Operator} {b : Value} {fo ro rc : Option Value} {Q : Value → Shared → Prop} (F : PyProof.Rows.Fr h₀ L s.heap m) (X₀ : K.In h₀) (I : PySem.W.InstAt s.heap x ox C od) (hb : PySem.W.Looks (model prog w) s.heap (typeOf b) (.type T)) (hc : PySem.W.selfFirst K C = true)
    (hs : PySem.W.findIn K (.ref C) (PySem.dunder op.info.2) = some (some (.ref f))) (hf : PySem.W.isFn K (.ref f) = true) (hr : PySem.W.findIn K (.ref C) (dunderR op.info.2) = some rc) (hp : rc = none ∨ ∃ g : Addr, rc = some (.ref g))
    (h1 : PySem.W.findIn K (.type T) (PySem.dunder op.info.2) = some fo) (h2 : PySem.W.findIn K (.type T) (dunderR op.info.2) = some ro) (hsub : PySem.W.subIn K (.type T) (.ref C) = some false)
    (h : wpAny (model prog w) A (call (.ref f) [.ref x, b]) (PySem.W.CmpBack Q) E s) : wpAny (model prog w) A (binaryOp op (.ref x) b) Q E s := by
  have X := X₀.keeps F.keep
  obtain ⟨cd, rest, hcd, hm⟩ := PySem.W.ksp_first hc
  rcases hi : op.info with ⟨sym, nm'⟩
  rw [hi] at hs hr h1 h2
  dsimp only at hs hr h1 h2
  have one := PySem.W.ksp_try X I hs hf h
  obtain ⟨hh, g, d, tt, os⟩ := s
  have y1 : PySem.W.Looks (model prog w) hh (typeOf (.ref x)) (.ref C) := I.type
  have y3 : PySem.W.Looks (model prog w) hh (fillsNumberSlot (.ref C) nm') true := PySem.W.fills_K X hcd hm hs
  have y4 := PySem.W.ksp_fillsT (M := model prog w) (nm := nm') X h1 h2
  have y5 : PySem.W.Looks (model prog w) hh (isSubtype (.type T) (.ref C)) false := PySem.W.looks_subIn X hsub
  have y6 : PySem.W.Looks (model prog w) hh (numberSlotInPython (.ref C) nm') true := PySem.W.ksp_inPy X hs hr hp
  have y7 : PySem.W.Looks (model prog w) hh (numberSlotInPython (.type T) nm') false := PySem.W.Looks.of_pure rfl
  have y8 : PySem.W.Looks (model prog w) hh (typeLookup (.type T) (dunderR nm')) ro := PySem.W.looks_findIn X h2
  generalize ((fo.isSome && !isSeqSlot fo) || (ro.isSome && !isSeqSlot ro)) = right at y4
  have hne : (Value.ref C == Value.type T) = false := Bool.eq_false_iff.mpr fun q => by cases beq_iff_eq.mp q
  simp only [binaryOp, hi]
  refine wpAny_holding (wpAny_bind ?_)
  unfold binaryOp1
  refine wpAny_bind (y1.at (wpAny_bind (hb.at (wpAny_bind (y3.at ?_)))))
  simp only [hne, Bool.false_eq_true, if_false]
  cases right with
  | false =>
    refine wpAny_bind (y4.at ?_)
    simp only [Bool.and_false, Bool.false_eq_true, if_false, Bool.false_and]
    refine wpAny_bind (wpAny_pure ?_)
    simp only [Bool.false_eq_true, if_false, if_true]
    refine wpAny_bind (m := tryMethod (.ref x) _ b) (wpAny_mono one (fun r s' hr' => ?_) fun _ _ e => e)
    obtain ⟨v, rfl, hq⟩ := hr'
    exact wpAny_pure (wpAny_pure hq)
  | true =>
    refine wpAny_bind (y4.at ?_)
    simp only [Bool.and_self, if_true]
    refine wpAny_bind (y5.at ?_)
    simp only [Bool.false_eq_true, if_false, Bool.not_false, Bool.and_self, if_true]
    refine wpAny_bind (y6.at ?_)
    simp only [if_true]
    refine wpAny_bind (y7.at ?_)
    simp only [Bool.not_false, if_true]
    refine wpAny_bind (y8.at ?_)
    refine wpAny_bind (m := tryMethod (.ref x) _ b) (wpAny_mono one (fun r s' hr' => ?_) fun _ _ e => e)
    obtain ⟨v, rfl, hq⟩ := hr'
    exact wpAny_pure (wpAny_pure hq)
end
section
variable {gu : Prop} {X : Cx} {c : Cy} {W : WX} {k n kc nC : Nat} {f C : Addr} {fd : FuncData} {ps : List Str} {fm : List D → M D}
def notB : D → M D
  | .bl b => ret (.bl (!b))
  | _ => fail
/-- != where the class has == alone: the callee tells True or False -/
def neM (nC kc : Nat) (fm : List D → M D) : D → D → M D := fun x y => bnd (ownM nC kc fm x y) notB
theorem ov_ne (hCs : ∀ k, k < nC → ClsI X.K (c.T.cls k)) (hK : c.K = X.K) (hC : c.T.cls kc = C) (ci : CmpI X c.T nC C) (hne : PySem.W.findIn X.K (.ref C) "__ne__" = some (some (.builtin "object.__ne__"))) (ho : PySem.W.subIn X.K (.ref C) (.type "object") = some true)
    (hs : PySem.W.findIn X.K (.ref C) "__eq__" = some (some (.ref f))) (hf : PySem.W.isFn X.K (.ref f) = true)
    (F : FnG gu X.prog X.w X.K X.mg X.base (L2.CX X.prog X.w) k f fd ps (spF c.K c.T 2 fm)) (hr : Rm gu (k + 1) X.A) (hb : Binds X.K fd ps []) (tk : Takes X W) : OpV X c W (compareOp .NotEq) (neM nC kc fm) := by
  refine ⟨fun σ v w H Q => rOwn X c W nC kc fm C σ v w H (fun z H' => ∃ b, z = .bl b ∧ Q (.bl (!b)) H') ∨ rOwn2 X c W nC kc fm C σ v w H (fun z H' => ∃ b, z = .bl b ∧ Q (.bl (!b)) H'), fun pins s σ H x y v u Q I rx ry q => ?_, fun σ O ρ pt H Q x y v w rs rx ry q => ?_⟩
  · have go : ∀ {a : Addr} {t : Value}, x = .ref a → v = .ref a → TyX X.K H y t → PySem.W.notFirst X.K C t = true → (∃ dx fs, H a = some (.ins C dx fs)) → spF c.K c.T 2 fm [x, y] H (fun z H' => ∃ b, z = .bl b ∧ Q (.bl (!b)) H') (WE W σ) →
        wpAny (model X.prog X.w) X.A (compareOp .NotEq v u) (EP X pins σ Q) X.xe s := by
      intro a t ex ev ty nf ⟨dx, fs, ha⟩ sp
      subst ex ev
      obtain ⟨ox, od, J⟩ := inst_at I ha
      obtain ⟨m, hF⟩ := I.fr
      obtain ⟨P, Z, p, _⟩ := kit_of I ry ty
      refine ne_own hr.in1.units0 hr.units0 hF I.ok.mod.kin J (Z.ty _ _ I.kIn p) nf hne ho hs hf ?_
      refine wpAny_mono (runSub (E := WE W) F hr.in1 rfl hb (passAt tk σ) I (.cons rx (.cons ry .nil)) sp) (fun r s' h => ?_) fun _ _ z => z
      obtain ⟨z, H', I', rz, b, e, q⟩ := h
      subst e
      cases rz
      exact ⟨b, rfl, .bl (!b), H', I', rfl, q⟩
    rcases q with ⟨a, dx, fs, t, e1, ha, ty, ⟨n, hn, et⟩, sp⟩ | ⟨a, dx, fs, b, dy, gs, j, e1, ha, e2, hj, _, ty, sp⟩
    · subst e1 et
      cases rx
      exact go rfl rfl ty (ci.nf hn) ⟨dx, fs, ha⟩ sp
    · subst e1
      cases rx
      exact go rfl rfl ty (ci.no j hj) ⟨dx, fs, ha⟩ sp
  · refine own_use hCs hK hC rs rx ry ((Wg.bnd q).imp fun d p1 H1 _ s1 q v rv => ?_)
    cases d with
    | bl b => exact ⟨b, by simpa [Cy.R, R] using rv, Wg.here q s1.pot _ (by simp [Cy.R, R])⟩
    | _ => exact q.elim
/-- + - * .. of an own class: the right side one of it, or of a built-in kind -/
theorem ov_bin {op : Operator} {rc : Option Value} (hCs : ∀ k, k < nC → ClsI X.K (c.T.cls k)) (hK : c.K = X.K) (hC : c.T.cls kc = C) (hn1 : ∀ k, k < nC → c.T.cls k = C) (ci : CmpI X c.T nC C) (sf : PySem.W.selfFirst X.K C = true) (hs : PySem.W.findIn X.K (.ref C) (PySem.dunder op.info.2) = some (some (.ref f))) (hf : PySem.W.isFn X.K (.ref f) = true)
    (hr1 : PySem.W.findIn X.K (.ref C) (dunderR op.info.2) = some rc) (hp : rc = none ∨ ∃ g : Addr, rc = some (.ref g)) (hT : ∀ n ∈ tagB, ∃ fo ro, PySem.W.findIn X.K (.type n) (PySem.dunder op.info.2) = some fo ∧ PySem.W.findIn X.K (.type n) (dunderR op.info.2) = some ro)
    (F : FnG gu X.prog X.w X.K X.mg X.base (L2.CX X.prog X.w) k f fd ps (spF c.K c.T 2 fm)) (hr : Rm gu k X.A) (hb : Binds X.K fd ps []) (tk : Takes X W) : OpV X c W (binaryOp op) (ownM nC kc fm) := by
  refine ⟨fun σ v w H Q => rOwn X c W nC kc fm C σ v w H Q ∨ rOwn2 X c W nC kc fm C σ v w H Q, fun pins s σ H x y v u Q I rx ry q => ?_, fun σ O ρ pt H Q x y v w rs rx ry q => own_use hCs hK hC rs rx ry q⟩
  have call1 : ∀ {a : Addr}, x = .ref a → spF c.K c.T 2 fm [x, y] H Q (WE W σ) → v = .ref a → wpAny (model X.prog X.w) X.A (call (.ref f) [.ref a, u]) (PySem.W.CmpBack (EP X pins σ Q)) X.xe s := fun ex sp ev => by
    subst ex ev
    exact wpAny_mono (runSub (E := WE W) F hr rfl hb (passAt tk σ) I (.cons rx (.cons ry .nil)) sp) (fun r s' h => cmpBack h) fun _ _ z => z
  obtain ⟨m, hF⟩ := I.fr
  rcases q with ⟨a, dx, fs, t, e1, ha, ty, ⟨n, hn, et⟩, sp⟩ | ⟨a, dx, fs, b, dy, gs, j, e1, ha, e2, hj, hb2, ty, sp⟩
  · subst e1 et
    cases rx
    obtain ⟨ox, od, J⟩ := inst_at I ha
    obtain ⟨P, Z, p, _⟩ := kit_of I ry ty
    obtain ⟨fo, ro, t1, t2⟩ := hT n hn
    exact own_binT hF I.ok.mod.kin J (Z.ty _ _ I.kIn p) sf hs hf hr1 hp t1 t2 (ci.nb n hn) (call1 rfl sp rfl)
  · subst e1 e2
    cases rx
    cases ry
    obtain ⟨ox, od, J⟩ := inst_at I ha
    obtain ⟨oy, oe, J2⟩ := inst_at I hb2
    refine PySem.W.binop_K hF I.ok.mod.kin J ?_ sf hs hf (call1 rfl sp rfl)
    rw [← hn1 j hj]
    exact J2.type
/-- -x of an own class -/
def unM (kc : Nat) (fm : List D → M D) : D → M D
  | .obj j fs => if j = kc then fm [.obj j fs] else fail
  | _ => fail
def unE (g : D → M D) (f : Slots → M D) : Slots → M D := fun ρ => bnd (f ρ) g
theorem de_negO {a : Expr} {pos : Pos} {fo : Slots → M D} (h : PE X a (dE c W fo)) (hC : c.T.cls kc = C) (hs : PySem.W.findIn X.K (.ref C) "__neg__" = some (some (.ref f))) (hf : PySem.W.isFn X.K (.ref f) = true)
    (F : FnG gu X.prog X.w X.K X.mg X.base (L2.CX X.prog X.w) k f fd ps (spF c.K c.T 1 fm)) (hr : Rm gu k X.A) (hb : Binds X.K fd ps []) (tk : Takes X W) : PE X (.UnaryOp .USub a pos) (dE c W (unE (unM kc fm) fo)) := by
  refine ⟨fun pins s σ H Q I ⟨O, ρ, pt, r, q⟩ => PyProof.Rows.UnaryOp_ (thn (h.run pins s σ H (fun x H1 => ∃ a dx fs, x = .ref a ∧ H1 a = some (.ins C dx fs) ∧ spF c.K c.T 1 fm [x] H1 Q (WE W σ)) I ⟨O, ρ, pt, r, (Wg.bnd q).imp fun z p1 H1 _ s1 qz v rv => ?_⟩) fun v s1 ⟨x, H1, I1, r1, a, dx, fs, e1, ha, sp⟩ => ?_)⟩
  · cases z with
    | obj j fs =>
      simp only [unM] at qz
      by_cases hj : j = kc
      · rw [if_pos hj] at qz
        subst hj
        have sp := spF_of (r.stp s1) (RL.one rv) rfl qz
        simp only [Cy.R, R] at rv
        obtain ⟨a, dx, ws, rfl, ha, _, rl⟩ := rv
        exact ⟨a, dx, _, rfl, by rw [← hC]; exact Hd.le _ _ ha, sp⟩
      · rw [if_neg hj] at qz
        exact qz.elim
    | _ => exact qz.elim
  · subst e1
    cases r1
    obtain ⟨ox, od, J⟩ := inst_at I1 ha
    obtain ⟨m, hF⟩ := I1.fr
    exact PySem.W.ksp_neg hF I1.ok.mod.kin J hs hf (runSub (E := WE W) F hr rfl hb (passAt tk σ) I1 (vs := [.ref a]) (.cons (show RelV (.ref a) (.ref a) from rfl) .nil) sp)
end
end DF

set_option Elab.async false
set_option linter.all false
set_option maxRecDepth 100000
set_option maxHeartbeats 4000000
namespace DF
open PySem L2
/-! ### built-in calls -/
def RBL (c : Cy) (O : List (Nat × Addr)) (H : Hp) : List D → List V → Prop
  | [], vs => vs = []
  | d :: ds, vs => ∃ v ws, vs = v :: ws ∧ RB c O H d v ∧ RBL c O H ds ws
/-- arguments that are looked at alone -/
def dAB (c : Cy) (W : WX) (f : Slots → M (List D)) : TA := fun σ H Q => ∃ O ρ pt, RS c O ρ σ H pt ∧ Wg c W σ H (fun d _ H' => ∀ v, RBL c O H' d v → Q v H') (f ρ pt)
section
variable {X : Cx} {c : Cy} {W : WX} {x : Str} {p pos apos : Pos} {e o : Expr} {es : List Expr} {id T : String} {fa : Slots → M (List D)} {nC : Nat}
theorem RBL.stp {O : List (Nat × Addr)} {ρ : Slots} {σ : L2.St} {H H' : Hp} {pt pt' : Pot} (r : RS c O ρ σ H pt) (st : Stp c.T.tb c.p H H' pt') : ∀ {ds : List D} {vs : List V}, RBL c O H ds vs → RBL c O H' ds vs
  | [], _, h => h
  | _ :: _, _, ⟨v, ws, e, h, hs⟩ => ⟨v, ws, e, h.stp r st, RBL.stp r st hs⟩
theorem dab_nil : PA X [] (dAB c W nilA) := pa_imp pa_nil fun σ H Q ⟨O, ρ, pt, rs, q⟩ => Wg.here q rs.pot [] rfl
theorem dab_cons {f : Slots → M D} {g : Slots → M (List D)} (h : PE X e (dB c W f)) (hs : PA X es (dAB c W g)) (hst : starEach (e :: es) X.env = (false, eval e X.env) :: starEach es X.env := by rfl) : PA X (e :: es) (dAB c W (consA f g)) := by
  refine pa_imp (pa_cons h hs hst) fun σ H Q ⟨O, ρ, pt, r, q⟩ => ?_
  refine ⟨O, ρ, pt, r, (Wg.bnd q).imp fun d p1 H1 _ s1 q v rv => ?_⟩
  have r1 := r.stp s1
  refine ⟨O, ρ, p1, r1, (Wg.bnd q).imp fun ds p2 H2 _ s2 q vs rvs => ?_⟩
  exact Wg.here q s2.pot _ ⟨v, vs, rfl, rv.stp r1 s2, rvs⟩
def CallS (X : Cx) (f : Value) (r : L2.St → List V → Hp → VK → Prop) : Prop := ∀ (pins : List (Addr × Obj)) (s : Shared) (σ : L2.St) (H : Hp) (xs : List V) (us : List Value) (Q : VK),
  Inv X pins σ H s → Vals xs us → r σ xs H Q → wpAny (model X.prog X.w) X.A (call f us) (EP X pins σ Q) X.xe s
theorem calls_of {f : Value} {r : List V → Hp → VK → Prop} (h : CallR X f r) : CallS X f fun _ => r := fun pins s σ H xs us Q => h pins s σ H xs us Q
def CallD (X : Cx) (c : Cy) (W : WX) (f : Value) (g : List D → M D) : Prop := ∃ r, CallS X f r ∧
  ∀ (σ : L2.St) (O : List (Nat × Addr)) (ρ : Slots) (pt : Pot) (H : Hp) (Q : VK) (xs : List D) (vs : List V), RS c O ρ σ H pt → RBL c O H xs vs → Wg c W σ H (fun d _ H' => ∀ v, c.R (Hd (hid c O) H') d v → Q v H') (g xs pt) → r σ vs H Q
/-- .. which makes a new list -/
def CallN (X : Cx) (c : Cy) (W : WX) (f : Value) (g : List D → M (List D)) : Prop := ∃ r, CallS X f r ∧
  ∀ (σ : L2.St) (O : List (Nat × Addr)) (ρ : Slots) (pt p1 : Pot) (H H1 : Hp) (Q : VK) (xs : List D) (vs : List V), RS c O ρ σ H pt → Stp c.T.tb c.p H H1 p1 → RBL c O H1 xs vs →
    Wg c W σ H1 (fun ds _ H' => ∀ l vs, Hd [] H l = none → H' l = some (.lst vs) → c.RL (Hd (l :: hid c O) H') ds vs → Q (.ref l) H') (g xs p1) → r σ vs H1 Q
def orC (g h : List D → M D) : List D → M D := fun x pt => match g x pt with
  | .stuck => h x pt
  | r => r
theorem CallD.or {f : Value} {g h : List D → M D} (a : CallD X c W f g) (b : CallD X c W f h) : CallD X c W f (orC g h) := by
  obtain ⟨r, r1, r2⟩ := a
  obtain ⟨r', r1', r2'⟩ := b
  refine ⟨fun σ vs H Q => r σ vs H Q ∨ r' σ vs H Q, fun pins s σ H xs us Q I rv q => q.elim (r1 pins s σ H xs us Q I rv) (r1' pins s σ H xs us Q I rv), fun σ O ρ pt H Q xs vs rs rx q => ?_⟩
  unfold orC at q
  cases e : g xs pt with
  | stuck =>
    rw [e] at q
    exact .inr (r2' σ O ρ pt H Q xs vs rs rx q)
  | ok d p =>
    rw [e] at q
    exact .inl (r2 σ O ρ pt H Q xs vs rs rx (by rw [e]; exact q))
  | exc k fs p =>
    rw [e] at q
    exact .inl (r2 σ O ρ pt H Q xs vs rs rx (by rw [e]; exact q))
def bltE {α : Type} (g : List D → M α) (fa : Slots → M (List D)) : Slots → M α := fun ρ => bnd (fa ρ) g
theorem de_blt {g : List D → M D} (hc : CallD X c W (.builtin id) g) (hm : X.mg x = none) (hv : bootBuiltins x = some (.builtin id)) (ha : PA X (e :: es) (dAB c W fa)) (hg : Gl X x := by rfl) (hn : x ≠ "__name__" := by decide) (hdb : (x == ("__debug__" : Str)) = false := by decide)
    (he : starEach (e :: es) X.env = (false, eval e X.env) :: starEach es X.env := by rfl) (hpl : (backTo pos (starEach es X.env)).any (·.1) = false := by rfl) : PE X (.Call (.Name x p) (e :: es) [] pos) (dE c W (bltE g fa)) := by
  obtain ⟨r, h1, h2⟩ := hc
  refine ⟨fun pins s σ H Q I ⟨O, ρ, pt, rs, q⟩ => wpAny_Call_Name_kw (ld_blt I hg hm hv (PyProof.Rows.callWith_builtin1 (thn (ha.run pos pins s σ H (fun vs H1 => r σ vs H1 Q) I ⟨O, ρ, pt, rs, (Wg.bnd q).imp fun xs p1 H1 _ s1 q vs rv => ?_⟩) fun us s1 ⟨vs, H1, I1, r1, q1⟩ => h1 pins s1 σ H1 vs us Q I1 r1 q1) he hpl) hn hdb)⟩
  exact h2 σ O ρ p1 H1 Q xs vs (rs.stp s1) rv q
theorem de_blt_ty {g : List D → M D} (hc : CallD X c W (.type T) g) (hm : X.mg x = none) (hv : bootBuiltins x = some (.type T)) (ha : PA X (e :: es) (dAB c W fa)) (hg : Gl X x := by rfl) (hn : x ≠ "__name__" := by decide) (hdb : (x == ("__debug__" : Str)) = false := by decide)
    (he : starEach (e :: es) X.env = (false, eval e X.env) :: starEach es X.env := by rfl) (hpl : (backTo pos (starEach es X.env)).any (·.1) = false := by rfl) : PE X (.Call (.Name x p) (e :: es) [] pos) (dE c W (bltE g fa)) := by
  obtain ⟨r, h1, h2⟩ := hc
  refine ⟨fun pins s σ H Q I ⟨O, ρ, pt, rs, q⟩ => wpAny_Call_Name_kw (ld_blt I hg hm hv (PyProof.Rows.callWith_type1 (thn (ha.run pos pins s σ H (fun vs H1 => r σ vs H1 Q) I ⟨O, ρ, pt, rs, (Wg.bnd q).imp fun xs p1 H1 _ s1 q vs rv => ?_⟩) fun us s1 ⟨vs, H1, I1, r1, q1⟩ => h1 pins s1 σ H1 vs us Q I1 r1 q1) he hpl) hn hdb)⟩
  exact h2 σ O ρ p1 H1 Q xs vs (rs.stp s1) rv q
theorem dl_blt {g : List D → M (List D)} (hc : CallN X c W (.builtin id) g) (hm : X.mg x = none) (hv : bootBuiltins x = some (.builtin id)) (ha : PA X (e :: es) (dAB c W fa)) (hg : Gl X x := by rfl) (hn : x ≠ "__name__" := by decide) (hdb : (x == ("__debug__" : Str)) = false := by decide)
    (he : starEach (e :: es) X.env = (false, eval e X.env) :: starEach es X.env := by rfl) (hpl : (backTo pos (starEach es X.env)).any (·.1) = false := by rfl) : PE X (.Call (.Name x p) (e :: es) [] pos) (dL c W (bltE g fa)) := by
  obtain ⟨r, h1, h2⟩ := hc
  refine ⟨fun pins s σ H Q I ⟨O, ρ, pt, rs, q⟩ => wpAny_Call_Name_kw (ld_blt I hg hm hv (PyProof.Rows.callWith_builtin1 (thn (ha.run pos pins s σ H (fun vs H1 => r σ vs H1 Q) I ⟨O, ρ, pt, rs, (Wg.bnd q).imp fun xs p1 H1 _ s1 q vs rv => ?_⟩) fun us s1 ⟨vs, H1, I1, r1, q1⟩ => h1 pins s1 σ H1 vs us Q I1 r1 q1) he hpl) hn hdb)⟩
  exact h2 σ O ρ pt p1 H H1 Q xs vs rs s1 rv q
theorem dl_blt_ty {g : List D → M (List D)} (hc : CallN X c W (.type T) g) (hm : X.mg x = none) (hv : bootBuiltins x = some (.type T)) (ha : PA X (e :: es) (dAB c W fa)) (hg : Gl X x := by rfl) (hn : x ≠ "__name__" := by decide) (hdb : (x == ("__debug__" : Str)) = false := by decide)
    (he : starEach (e :: es) X.env = (false, eval e X.env) :: starEach es X.env := by rfl) (hpl : (backTo pos (starEach es X.env)).any (·.1) = false := by rfl) : PE X (.Call (.Name x p) (e :: es) [] pos) (dL c W (bltE g fa)) := by
  obtain ⟨r, h1, h2⟩ := hc
  refine ⟨fun pins s σ H Q I ⟨O, ρ, pt, rs, q⟩ => wpAny_Call_Name_kw (ld_blt I hg hm hv (PyProof.Rows.callWith_type1 (thn (ha.run pos pins s σ H (fun vs H1 => r σ vs H1 Q) I ⟨O, ρ, pt, rs, (Wg.bnd q).imp fun xs p1 H1 _ s1 q vs rv => ?_⟩) fun us s1 ⟨vs, H1, I1, r1, q1⟩ => h1 pins s1 σ H1 vs us Q I1 r1 q1) he hpl) hn hdb)⟩
  exact h2 σ O ρ pt p1 H H1 Q xs vs rs s1 rv q
/-- a built-in without effects -/
def pu1 (g : List D → Option D) : List D → M D := fun xs => opt (g xs)
theorem cd_pu {f : Value} {g : List D → Option D} {r : List V → Hp → VK → Prop} (h : CallR X f r)
    (ok : ∀ (O : List (Nat × Addr)) (H : Hp) (xs : List D) (z : D) (vs : List V) (Q : VK), RBL c O H xs vs → g xs = some z → (∀ v', c.R (Hd (hid c O) H) z v' → Q v' H) → r vs H Q) : CallD X c W f (pu1 g) :=
  ⟨_, calls_of h, fun σ O ρ pt H Q xs vs rs rx q => by
    obtain ⟨z, e, q⟩ := Wg.opt q rs.pot
    exact ok O H xs z vs Q rx e q⟩
theorem RBL.one {O : List (Nat × Addr)} {H : Hp} {d : D} {vs : List V} (h : RBL c O H [d] vs) : ∃ v, vs = [v] ∧ RB c O H d v := by
  obtain ⟨v, ws, rfl, h, rfl⟩ := h
  exact ⟨v, rfl, h⟩
theorem RBL.two {O : List (Nat × Addr)} {H : Hp} {d d' : D} {vs : List V} (h : RBL c O H [d, d'] vs) : ∃ v w, vs = [v, w] ∧ RB c O H d v ∧ RB c O H d' w := by
  obtain ⟨v, ws, rfl, h, w, zs, rfl, h', rfl⟩ := h
  exact ⟨v, w, rfl, h, h'⟩
def absF : List D → Option D
  | [.int i] => some (.int (if i < 0 then -i else i))
  | _ => none
theorem cd_abs : CallD X c W (.builtin "abs") (pu1 absF) := cd_pu call_abs fun O H xs z vs Q rx e q => by
  unfold absF at e
  split at e
  · cases e
    obtain ⟨v, rfl, h⟩ := rx.one
    rw [h.int]
    exact ⟨_, rfl, q _ (by simp [Cy.R, R])⟩
  · cases e
def max2F : List D → Option D
  | [.int i, .int j] => some (.int (if j > i then j else i))
  | _ => none
theorem cd_max2 (hc : X.calm = true) : CallD X c W (.builtin "max") (pu1 max2F) := cd_pu (call_max2 hc) fun O H xs z vs Q rx e q => by
  unfold max2F at e
  split at e
  · cases e
    obtain ⟨v, w, rfl, h, h'⟩ := rx.two
    rw [h.int, h'.int]
    exact ⟨_, _, rfl, q _ (by simp [Cy.R, R])⟩
  · cases e
def min2F : List D → Option D
  | [.int i, .int j] => some (.int (if j < i then j else i))
  | _ => none
theorem cd_min2 (hc : X.calm = true) : CallD X c W (.builtin "min") (pu1 min2F) := cd_pu (call_min2 hc) fun O H xs z vs Q rx e q => by
  unfold min2F at e
  split at e
  · cases e
    obtain ⟨v, w, rfl, h, h'⟩ := rx.two
    rw [h.int, h'.int]
    exact ⟨_, _, rfl, q _ (by simp [Cy.R, R])⟩
  · cases e
def intF : List D → Option D
  | [.int i] => some (.int i)
  | [.bl b] => some (.int (if b then 1 else 0))
  | _ => none
theorem cd_int : CallD X c W (.type "int") (pu1 intF) := cd_pu call_int1 fun O H xs z vs Q rx e q => by
  unfold intF at e
  split at e
  · cases e
    obtain ⟨v, rfl, h⟩ := rx.one
    rw [h.int]
    exact .inl ⟨_, rfl, q _ (by simp [Cy.R, R])⟩
  · cases e
    obtain ⟨v, rfl, h⟩ := rx.one
    rw [h.bl]
    exact .inr ⟨_, rfl, q _ (by simp [Cy.R, R])⟩
  · cases e
def strF : List D → Option D
  | [.int i] => if i.natAbs.log2 < 1920 then some (.str (toString i)) else none
  | _ => none
theorem cd_strI : CallD X c W (.type "str") (pu1 strF) := cd_pu call_str_int fun O H xs z vs Q rx e q => by
  unfold strF at e
  split at e
  · split at e
    · rename_i hz
      cases e
      obtain ⟨v, rfl, h⟩ := rx.one
      rw [h.int]
      exact ⟨_, rfl, hz, q _ (by simp [Cy.R, R])⟩
    · cases e
  · cases e
def lenF : List D → Option D
  | [.lst ds] => some (.int ds.length)
  | [.tup ds] => some (.int ds.length)
  | [.str x] => if x.length ≤ 1000000 then some (.int x.length) else none
  | _ => none
theorem cd_len (hK : c.K = X.K := by rfl) : CallD X c W (.builtin "len") (pu1 lenF) := cd_pu call_len fun O H xs z vs Q rx e q => by
  unfold lenF at e
  split at e
  · cases e
    obtain ⟨v, rfl, h⟩ := rx.one
    obtain ⟨a, vs, rfl, ha, rl⟩ := h.lst
    exact ⟨_, _, rfl, .inl ⟨vs, .inl (.inl ha), RL.len rl⟩, q _ (by simp [Cy.R, R])⟩
  · cases e
    obtain ⟨v, rfl, h⟩ := rx.one
    obtain ⟨a, vs, rfl, ha, rl⟩ := h.tup
    exact ⟨_, _, rfl, .inr ⟨vs, by rw [← hK]; exact ha, RL.len rl⟩, q _ (by simp [Cy.R, R])⟩
  · split at e
    · rename_i hz
      cases e
      obtain ⟨v, rfl, h⟩ := rx.one
      rw [h.str]
      exact ⟨_, _, rfl, ⟨Nat.le_trans hz (by decide), rfl⟩, q _ (by simp [Cy.R, R])⟩
    · cases e
  · cases e
/-- isinstance(x, C): the answers by the kind of x -/
def isiE (nC : Nat) (ans : Sum String Nat → Option Bool) (fo : Slots → M D) : Slots → M D := fun ρ => bnd (fo ρ) fun x => opt (((knd nC x).bind ans).map .bl)
theorem de_isi {y : Str} {ce : Expr} {cv : V} {u : Value} {ans : Sum String Nat → Option Bool} {fo : Slots → M D} (hCs : ∀ k, k < nC → ClsI X.K (c.T.cls k)) (ho : PE X e (dB c W fo)) (hce : PE X ce (tC cv)) (hu : ClsV cv u) (ha : ∀ t b, ans t = some b → PySem.W.kitOne X.K (tagV c.T t) u = some b)
    (hm : X.mg y = none) (hv : bootBuiltins y = some (.builtin "isinstance")) (hK : c.K = X.K := by rfl) (hg : Gl X y := by rfl) (hn : y ≠ "__name__" := by decide) (hdb : (y == ("__debug__" : Str)) = false := by decide)
    (he : starEach [e, ce] X.env = (false, eval e X.env) :: starEach [ce] X.env := by rfl) (he2 : starEach [ce] X.env = (false, eval ce X.env) :: starEach [] X.env := by rfl) (hpl : (backTo pos (starEach [ce] X.env)).any (·.1) = false := by rfl) :
    PE X (.Call (.Name y p) [e, ce] [] pos) (dE c W (isiE nC ans fo)) := by
  refine pe_imp (pe_callB call_isi hg hm hv (pa_cons ho (pa_cons hce pa_nil he2) he) hn hdb he hpl) fun σ H Q ⟨O, ρ, pt, r, q⟩ => ⟨O, ρ, pt, r, (Wg.bnd q).imp fun z p1 H1 _ s1 q v rv => ?_⟩
  obtain ⟨d, ed, q⟩ := Wg.opt q s1.pot
  cases ek : knd nC z with
  | none => rw [ek] at ed; cases ed
  | some t =>
    rw [ek] at ed
    simp only [Option.bind_some] at ed
    cases eb : ans t with
    | none => rw [eb] at ed; cases ed
    | some b =>
      rw [eb] at ed
      cases ed
      have ty := tag_ok (nC := nC) hCs hK rv (t := tagV c.T t) (by rw [tag_knd, ek]; rfl)
      exact ⟨v, cv, _, u, b, rfl, hu, ty, ha t b eb, q _ (by simp [Cy.R, R])⟩
/-! ### tuple(..), list(..) -/
def seqOf : List D → Option (List D)
  | [.lst ds] => some ds
  | [.tup ds] => some ds
  | _ => none
def listF : List D → M (List D) := fun xs => opt (seqOf xs)
theorem seq_of {O : List (Nat × Addr)} {H : Hp} {xs ds : List D} {vs : List V} (rx : RBL c O H xs vs) (e : seqOf xs = some ds) : ∃ a ws, vs = [.ref a] ∧ c.RL (Hd (hid c O) H) ds ws ∧ (SqL c.K H a ws ∨ (SqT c.K H a ws ∧ c.R (Hd (hid c O) H) (.tup ds) (.ref a))) := by
  unfold seqOf at e
  split at e
  · cases e
    obtain ⟨v, rfl, h⟩ := rx.one
    obtain ⟨a, vs, rfl, ha, rl⟩ := h.lst
    exact ⟨a, vs, rfl, rl, .inl (.inl (.inl ha))⟩
  · cases e
    obtain ⟨v, rfl, h⟩ := rx.one
    have h' := h.tupR
    obtain ⟨a, vs, rfl, ha, rl⟩ := h.tup
    exact ⟨a, vs, rfl, rl, .inr ⟨ha, h'⟩⟩
  · cases e
theorem cn_list (hK : c.K = X.K := by rfl) : CallN X c W (.type "list") listF := ⟨_, calls_of call_list_of, fun σ O ρ pt p1 H H1 Q xs vs rs s1 rx q => by
  cases e : seqOf xs with
  | none =>
    unfold listF at q
    rw [e] at q
    exact q.elim
  | some ds =>
    unfold listF at q
    rw [e] at q
    obtain ⟨a, ws, rfl, rl, h⟩ := seq_of rx e
    rw [hK] at h
    exact ⟨a, ws, rfl, h.imp id (·.1), fun l hl => new_lst rs s1 rl hl q⟩⟩
def tupF : List D → M D := fun xs => bnd (listF xs) fun ds => ret (.tup ds)
theorem cd_tuple (hK : c.K = X.K := by rfl) : CallD X c W (.type "tuple") tupF := ⟨_, calls_of call_tuple_of, fun σ O ρ pt H Q xs vs rs rx q => by
  cases e : seqOf xs with
  | none =>
    unfold tupF listF at q
    rw [e] at q
    exact q.elim
  | some ds =>
    unfold tupF listF at q
    rw [e] at q
    obtain ⟨a, ws, rfl, rl, h⟩ := seq_of rx e
    rw [hK] at h
    refine ⟨a, ws, rfl, ?_⟩
    rcases h with h | ⟨h, h'⟩
    · exact .inl ⟨h, fun l hl => q _ (Stp.new rs.pot hl) _ (mk_tup rs hl rl)⟩
    · exact .inr ⟨h, Wg.here q rs.pot _ h'⟩⟩
end
end DF

set_option Elab.async false
set_option linter.all false
set_option maxRecDepth 100000
set_option maxHeartbeats 4000000
namespace DF
open PySem L2
/-! ### what is walked -/
/-- the item x that stands for d, in the heap H' behind H: whatever is hidden now, if what stood open at H1 stands open -/
def Yg (c : Cy) (S : List Addr) (H1 H H' : Hp) (d : D) (x : V) : Prop := Gr H H' ∧ ∀ S' : List Addr, Gr (Hd S H1) (Hd S' H) → (∀ a ∈ S', ∃ o, H a = some o ∧ mt o = true) → c.R (Hd S' H') d x
def Yl (c : Cy) (S : List Addr) (J : It) (items : List D) (H1 : Hp) : Prop := ∀ H, (∀ a o, a ∉ S → H1 a = some o → nt o = true → H a = some o) →
  (∀ i d, items[i]? = some d → J.go i H ∧ ∀ x H', J.yld i H x H' → Yg c S H1 H H' d x) ∧ ∀ i, items.length ≤ i → J.stop i H
def dI (c : Cy) (W : WX) (f : Slots → M (List D)) : TI := fun σ H Rk => ∃ O ρ pt, RS c O ρ σ H pt ∧ Wg c W σ H (fun items _ H' => ∀ J, Yl c (hid c O) J items H' → Rk J H') (f ρ pt)
section
variable {X : Cx} {c : Cy} {W : WX} {σ : L2.St} {H H1 H' : Hp} {O : List (Nat × Addr)} {ρ : Slots} {pt pt' : Pot} {e e2 iter tg : Expr} {p pos : Pos}
theorem pi_imp {t t' : TI} (h : PI X tg iter t) (i : ∀ σ H R, t' σ H R → t σ H R) : PI X tg iter t' := ⟨fun pins s σ H R I q => h.run pins s σ H R I (i σ H R q)⟩
theorem pi_or {t t' : TI} (h : PI X tg iter t) (h' : PI X tg iter t') : PI X tg iter (fun σ H R => t σ H R ∨ t' σ H R) := ⟨fun pins s σ H R I q => q.elim (h.run pins s σ H R I) (h'.run pins s σ H R I)⟩
theorem Yg.at {S : List Addr} {d : D} {x : V} (h : c.R (Hd S H1) d x) : Yg c S H1 H H d x := ⟨Gr.refl H, fun S' g _ => R.gr g h⟩
theorem RL.at {K : PySem.W.Frag} {T : Tb} {p : Addr} {ds : List D} {vs : List V} {i : Nat} {d : D} {x : V} (h : RL K T p H ds vs) (e : ds[i]? = some d) (ex : vs[i]? = some x) : R K T p H d x := by
  obtain ⟨v, ev, r⟩ := RL.getD h e
  rw [ex] at ev
  cases ev
  exact r
theorem RL.ix {K : PySem.W.Frag} {T : Tb} {p : Addr} {ds : List D} {vs : List V} {i : Nat} {d : D} (h : RL K T p H ds vs) (e : ds[i]? = some d) : ∃ v, vs[i]? = some v := let ⟨v, ev, _⟩ := RL.getD h e; ⟨v, ev⟩
/-- what stands open is read as before -/
theorem open_l {S : List Addr} {K : PySem.W.Frag} {a : Addr} {vs : List V} (k : ∀ a o, a ∉ S → H1 a = some o → nt o = true → H a = some o) (h : Hd S H1 a = some (.lst vs)) : SqL K H a vs := .inl (.inl (k a _ (Hd.sees h).1 (Hd.sees h).2.1 rfl))
theorem open_t {S : List Addr} {K : PySem.W.Frag} {a : Addr} {vs : List V} (k : ∀ a o, a ∉ S → H1 a = some o → nt o = true → H a = some o) (h : SqT K (Hd S H1) a vs) : SqT K H a vs :=
  Gr.sqt (H := Hd S H1) (fun a o e => k a o (Hd.sees e).1 (Hd.sees e).2.1 (Hd.sees e).2.2) h
/-- two readings of one list -/
theorem sql_same {a : Addr} {xs ys : List V} {K : PySem.W.Frag} (h : H a = some (.lst xs)) (h' : SqL K H a ys) (hK : ∀ o, K.lookup a = some o → H a = none) : xs = ys := by
  rcases h' with (h' | ⟨o, h'⟩) | ⟨o, _, _, h', _⟩
  · rw [h] at h'; cases h'; rfl
  · rw [h] at h'; cases h'
  · rw [hK o h'] at h; cases h
theorem yl_list {S : List Addr} {a : Addr} {ds : List D} {vs : List V} (h : Hd S H1 a = some (.lst vs)) (rl : c.RL (Hd S H1) ds vs) : Yl c S (Itl c.K a) ds H1 := fun H k => by
  have q : SqL c.K H a vs := open_l k h
  refine ⟨fun i d e => ?_, fun i hi => ⟨vs, q, by rw [← RL.len rl]; exact hi⟩⟩
  obtain ⟨v, ev⟩ := RL.ix rl e
  refine ⟨⟨vs, v, q, ev⟩, fun x H' y => ?_⟩
  obtain ⟨e1, y⟩ := y
  subst e1
  exact Yg.at (RL.at rl e (y vs q))
theorem yl_tup {S : List Addr} {a : Addr} {ds : List D} {vs : List V} (h : SqT c.K (Hd S H1) a vs) (rl : c.RL (Hd S H1) ds vs) : Yl c S (Itt c.K a) ds H1 := fun H k => by
  have q : SqT c.K H a vs := open_t k h
  refine ⟨fun i d e => ?_, fun i hi => ⟨vs, q, by rw [← RL.len rl]; exact hi⟩⟩
  obtain ⟨v, ev⟩ := RL.ix rl e
  refine ⟨⟨vs, v, q, ev⟩, fun x H' y => ?_⟩
  obtain ⟨e1, y⟩ := y
  subst e1
  exact Yg.at (RL.at rl e (y vs q))
def chars (x : Str) : List D := x.cps.toList.map fun n => .str ⟨#[n]⟩
theorem yl_str {S : List Addr} {x : Str} : Yl c S (Its x) (chars x) H1 := fun H k => by
  refine ⟨fun i d e => ?_, fun i hi => ?_⟩
  · unfold chars at e
    rw [List.getElem?_map] at e
    cases en : x.cps.toList[i]? with
    | none => rw [en] at e; cases e
    | some n =>
      rw [en] at e
      cases e
      have hi : i < x.cps.size := by simpa using (List.getElem?_eq_some_iff.mp en).1
      refine ⟨hi, fun v H' y => ?_⟩
      obtain ⟨e1, m, em, ev⟩ := y
      subst e1 ev
      have : x.cps.toList[i]? = some m := by simpa using em
      rw [en] at this
      cases this
      exact Yg.at (by simp [Cy.R, R])
  · show x.cps.size ≤ i
    simpa [chars] using hi
theorem yl_range {S : List Addr} {lo : Int} {n : Nat} : Yl c S (Itr lo n) ((List.range n).map fun (k : Nat) => .int (lo + (k : Int))) H1 := fun H k => by
  refine ⟨fun i d e => ?_, fun i hi => ?_⟩
  · rw [List.getElem?_map] at e
    cases en : (List.range n)[i]? with
    | none => rw [en] at e; cases e
    | some m =>
      rw [en] at e
      cases e
      have hi : i < n := by simpa using (List.getElem?_eq_some_iff.mp en).1
      have hm : m = i := by
        rw [List.getElem?_range hi] at en
        cases en; rfl
      subst hm
      refine ⟨hi, fun x H' y => ?_⟩
      obtain ⟨e1, ex⟩ := y
      subst e1 ex
      exact Yg.at (by simp [Cy.R, R])
  · show n ≤ i
    simpa using hi
/-- a new pair -/
theorem Yg.pair {S : List Addr} {T : Addr} {d d' : D} {x y : V} (hT : H T = none) (hx : c.R (Hd S H1) d x) (hy : c.R (Hd S H1) d' y) : Yg c S H1 H (upd H T (.tup [x, y])) (.tup [d, d']) (.ref T) := by
  refine ⟨fun a o e => by rw [upd_ne (ne_of_none e hT)]; exact e, fun S' g hS => ?_⟩
  have nT : T ∉ S' := fun q => by
    obtain ⟨o, e, _⟩ := hS T q
    rw [hT] at e; cases e
  have g2 : Gr (Hd S H1) (Hd S' (upd H T (.tup [x, y]))) := g.trans (Hd.new hT)
  simp only [Cy.R, R]
  exact ⟨T, [x, y], rfl, .inl (.inl (Hd.at_new nT)), RL.cons (R.gr g2 hx) (RL.one (R.gr g2 hy))⟩
def pairs : List D → List D → List D := fun xs ys => List.zipWith (fun x y => .tup [x, y]) xs ys
theorem pairs_at {xs ys : List D} {i : Nat} {d : D} (e : (pairs xs ys)[i]? = some d) : ∃ x y, xs[i]? = some x ∧ ys[i]? = some y ∧ d = .tup [x, y] := by
  unfold pairs at e
  rw [List.getElem?_zipWith] at e
  cases e1 : xs[i]? with
  | none => rw [e1] at e; simp at e
  | some x =>
    cases e2 : ys[i]? with
    | none => rw [e1, e2] at e; simp at e
    | some y =>
      rw [e1, e2] at e
      cases e
      exact ⟨x, y, rfl, rfl, rfl⟩
theorem yl_zip {S : List Addr} {a b : Addr} {ds es : List D} {vs ws : List V} (h : Hd S H1 a = some (.lst vs)) (rl : c.RL (Hd S H1) ds vs) (h' : Hd S H1 b = some (.lst ws)) (rl' : c.RL (Hd S H1) es ws) : Yl c S (Itz c.K a b) (pairs ds es) H1 := fun H k => by
  have q : SqL c.K H a vs := open_l k h
  have q' : SqL c.K H b ws := open_l k h'
  refine ⟨fun i d e => ?_, fun i hi => ⟨vs, ws, q, q', ?_⟩⟩
  · obtain ⟨x, y, ex, ey, rfl⟩ := pairs_at e
    obtain ⟨v, ev⟩ := RL.ix rl ex
    obtain ⟨w, ew⟩ := RL.ix rl' ey
    refine ⟨⟨vs, ws, v, w, q, q', ev, ew⟩, fun z H' yy => ?_⟩
    obtain ⟨T, x1, y1, rfl, hT, rfl, f1, f2⟩ := yy
    exact Yg.pair hT (RL.at rl ex (f1 vs q)) (RL.at rl' ey (f2 ws q'))
  · unfold pairs at hi
    rw [List.length_zipWith, RL.len rl, RL.len rl'] at hi
    omega
theorem yl_zipT {S : List Addr} {a b : Addr} {ds es : List D} {vs ws : List V} (h : SqT c.K (Hd S H1) a vs) (rl : c.RL (Hd S H1) ds vs) (h' : SqT c.K (Hd S H1) b ws) (rl' : c.RL (Hd S H1) es ws) : Yl c S (RZ.ItzT c.K a b) (pairs ds es) H1 := fun H k => by
  have q : SqT c.K H a vs := open_t k h
  have q' : SqT c.K H b ws := open_t k h'
  refine ⟨fun i d e => ?_, fun i hi => ⟨vs, ws, q, q', ?_⟩⟩
  · obtain ⟨x, y, ex, ey, rfl⟩ := pairs_at e
    obtain ⟨v, ev⟩ := RL.ix rl ex
    obtain ⟨w, ew⟩ := RL.ix rl' ey
    refine ⟨⟨vs, ws, v, w, q, q', ev, ew⟩, fun z H' yy => ?_⟩
    obtain ⟨T, x1, y1, rfl, hT, rfl, f1, f2⟩ := yy
    exact Yg.pair hT (RL.at rl ex (f1 vs q)) (RL.at rl' ey (f2 ws q'))
  · unfold pairs at hi
    rw [List.length_zipWith, RL.len rl, RL.len rl'] at hi
    omega
def enums (ds : List D) : List D := pairs ((List.range ds.length).map fun (k : Nat) => .int (k : Int)) ds
theorem yl_enum {S : List Addr} {a : Addr} {ds : List D} {vs : List V} (h : Hd S H1 a = some (.lst vs)) (rl : c.RL (Hd S H1) ds vs) : Yl c S (Ite c.K a) (enums ds) H1 := fun H k => by
  have q : SqL c.K H a vs := open_l k h
  refine ⟨fun i d e => ?_, fun i hi => ⟨vs, q, ?_⟩⟩
  · obtain ⟨x, y, ex, ey, rfl⟩ := pairs_at e
    rw [List.getElem?_map] at ex
    have hi : i < ds.length := (List.getElem?_eq_some_iff.mp ey).1
    rw [List.getElem?_range hi] at ex
    cases ex
    obtain ⟨w, ew⟩ := RL.ix rl ey
    refine ⟨⟨vs, w, q, ew⟩, fun z H' yy => ?_⟩
    obtain ⟨T, x1, rfl, hT, rfl, f1⟩ := yy
    exact Yg.pair hT (by simp [Cy.R, R]) (RL.at rl ey (f1 vs q))
  · unfold enums pairs at hi
    rw [List.length_zipWith, List.length_map, List.length_range, RL.len rl] at hi
    omega
/-- the items of a value -/
def itemsOf : D → Option (List D)
  | .lst ds => some ds
  | .tup ds => some ds
  | .str x => some (chars x)
  | _ => none
def itE (f : Slots → M D) : Slots → M (List D) := fun ρ => bnd (f ρ) fun d => opt (itemsOf d)
theorem di_val {f : Slots → M D} (h : PE X e (dE c W f)) (hK : c.K = X.K := by rfl) : PI X tg e (dI c W (itE f)) := by
  refine pi_imp (pi_or (pi_list h) (pi_or (pi_tup h) (pi_str h))) fun σ H Rk ⟨O, ρ, pt, r, q⟩ => ?_
  have q := Wg.bnd q
  cases e1 : f ρ pt with
  | ok d p1 =>
    cases d with
    | lst ds =>
      refine .inl ⟨O, ρ, pt, r, ?_⟩
      rw [e1] at q ⊢
      intro H1 s1 v rv
      have qq := Wg.here (q H1 s1) s1.pot
      simp only [Cy.R, R] at rv
      obtain ⟨a, vs, rfl, ha, rl⟩ := rv
      refine ⟨a, rfl, ⟨vs, .inl (.inl (Hd.le _ _ ha))⟩, ?_⟩
      rw [← hK]
      exact qq _ (yl_list ha rl)
    | tup ds =>
      refine .inr (.inl ⟨O, ρ, pt, r, ?_⟩)
      rw [e1] at q ⊢
      intro H1 s1 v rv
      have qq := Wg.here (q H1 s1) s1.pot
      simp only [Cy.R, R] at rv
      obtain ⟨a, vs, rfl, ha, rl⟩ := rv
      refine ⟨a, rfl, ⟨vs, by rw [← hK]; exact Hd.le.sqt ha⟩, ?_⟩
      rw [← hK]
      exact qq _ (yl_tup ha rl)
    | str x =>
      refine .inr (.inr ⟨O, ρ, pt, r, ?_⟩)
      rw [e1] at q ⊢
      intro H1 s1 v rv
      have qq := Wg.here (q H1 s1) s1.pot
      exact ⟨x, by simpa [Cy.R, R] using rv, qq _ yl_str⟩
    | _ =>
      rw [e1] at q
      first
        | exact False.elim (q _ (Stp.refl (r.stp ⟨fun a o _ h => h, r.pot⟩).pot))
        | (refine .inl ⟨O, ρ, pt, r, ?_⟩; rw [e1]; intro H1 s1; exact (q H1 s1).elim)
  | exc k fs p1 =>
    refine .inl ⟨O, ρ, pt, r, ?_⟩
    rw [e1] at q ⊢
    exact q
  | stuck =>
    rw [e1] at q
    exact q.elim
/-- range(n), range(a, b) -/
def rng1 : List D → Option (List D)
  | [.int j] => if -(2 ^ 62) ≤ j ∧ j < 2 ^ 62 then some ((List.range j.toNat).map fun (k : Nat) => .int (0 + (k : Int))) else none
  | _ => none
def rng2 : List D → Option (List D)
  | [.int i, .int j] => if -(2 ^ 62) ≤ i ∧ i < 2 ^ 62 ∧ -(2 ^ 62) ≤ j ∧ j < 2 ^ 62 then some ((List.range (j - i).toNat).map fun (k : Nat) => .int (i + (k : Int))) else none
  | _ => none
def itA (g : List D → Option (List D)) (fa : Slots → M (List D)) : Slots → M (List D) := fun ρ => bnd (fa ρ) fun ds => opt (g ds)
theorem di_range1 {fa : Slots → M (List D)} (ha : PA X [e] (dAB c W fa)) (hm : X.mg "range" = none) (hg : Gl X "range" := by rfl) (hs : starEach [e] X.env = [(false, eval e X.env)] := by rfl) : PI X tg (.Call (.Name "range" p) [e] [] pos) (dI c W (itA rng1 fa)) := by
  refine pi_imp (pi_range1 hg hm ha hs) fun σ H Rk ⟨O, ρ, pt, r, q⟩ => ⟨O, ρ, pt, r, (Wg.bnd q).imp fun ds p1 H1 _ s1 q vs rv => ?_⟩
  obtain ⟨items, ei, q⟩ := Wg.opt q s1.pot
  unfold rng1 at ei
  split at ei
  · split at ei
    · rename_i hz
      cases ei
      obtain ⟨v, rfl, h⟩ := rv.one
      rw [h.int]
      exact ⟨_, rfl, hz.1, hz.2, q _ yl_range⟩
    · cases ei
  · cases ei
theorem di_range2 {fa : Slots → M (List D)} (ha : PA X [e, e2] (dAB c W fa)) (hm : X.mg "range" = none) (hg : Gl X "range" := by rfl) (hs : starEach [e, e2] X.env = [(false, eval e X.env), (false, eval e2 X.env)] := by rfl) (hs2 : starEach [e2] X.env = [(false, eval e2 X.env)] := by rfl) :
    PI X tg (.Call (.Name "range" p) [e, e2] [] pos) (dI c W (itA rng2 fa)) := by
  refine pi_imp (pi_range2 hg hm ha hs hs2) fun σ H Rk ⟨O, ρ, pt, r, q⟩ => ⟨O, ρ, pt, r, (Wg.bnd q).imp fun ds p1 H1 _ s1 q vs rv => ?_⟩
  obtain ⟨items, ei, q⟩ := Wg.opt q s1.pot
  unfold rng2 at ei
  split at ei
  · split at ei
    · rename_i hz
      cases ei
      obtain ⟨v, w, rfl, h, h'⟩ := rv.two
      rw [h.int, h'.int]
      exact ⟨_, _, rfl, hz, q _ yl_range⟩
    · cases ei
  · cases ei
/-- zip(xs, ys): two lists, or two tuples -/
def zipA : List D → Option (List D)
  | [.lst xs, .lst ys] => some (pairs xs ys)
  | [.tup xs, .tup ys] => some (pairs xs ys)
  | _ => none
theorem rl_two {K : PySem.W.Frag} {T : Tb} {p : Addr} {H : Hp} {d d' : D} {vs : List V} (h : RL K T p H [d, d'] vs) : ∃ v w, vs = [v, w] ∧ R K T p H d v ∧ R K T p H d' w := by
  simp only [RL] at h
  obtain ⟨v, ws, rfl, h1, w, zs, rfl, h2, rfl⟩ := h
  exact ⟨v, w, rfl, h1, h2⟩
theorem rl_one {K : PySem.W.Frag} {T : Tb} {p : Addr} {H : Hp} {d : D} {vs : List V} (h : RL K T p H [d] vs) : ∃ v, vs = [v] ∧ R K T p H d v := by
  simp only [RL] at h
  obtain ⟨v, ws, rfl, h1, rfl⟩ := h
  exact ⟨v, rfl, h1⟩
theorem di_zip {fa : Slots → M (List D)} {elts : List Expr} {kk : Nat} {tpos : Pos} (ha : PA X [e, e2] (dA c W fa)) (hm : X.mg "zip" = none) (hK : c.K = X.K := by rfl) (hg : Gl X "zip" := by rfl) (hs : starEach [e, e2] X.env = (false, eval e X.env) :: starEach [e2] X.env := by rfl)
    (hpl : (backTo pos (starEach [e2] X.env)).any (·.1) = false := by rfl) : PI X (.Tuple elts kk tpos) (.Call (.Name "zip" p) [e, e2] [] pos) (dI c W (itA zipA fa)) := by
  refine pi_imp (RZ.pi_zipA hg hm ha hs hpl) fun σ H Rk ⟨O, ρ, pt, r, q⟩ => ⟨O, ρ, pt, r, (Wg.bnd q).imp fun ds p1 H1 _ s1 q vs rv => ?_⟩
  obtain ⟨items, ei, q⟩ := Wg.opt q s1.pot
  unfold zipA at ei
  split at ei
  · cases ei
    obtain ⟨v, w, rfl, h1, h2⟩ := rl_two rv
    simp only [R] at h1 h2
    obtain ⟨a, xs, rfl, ha, ra⟩ := h1
    obtain ⟨b, ys, rfl, hb, rb⟩ := h2
    refine ⟨a, b, xs, ys, rfl, .inl ⟨.inl (.inl (Hd.le _ _ ha)), .inl (.inl (Hd.le _ _ hb)), ?_⟩⟩
    rw [← hK]
    exact q _ (yl_zip ha ra hb rb)
  · cases ei
    obtain ⟨v, w, rfl, h1, h2⟩ := rl_two rv
    simp only [R] at h1 h2
    obtain ⟨a, xs, rfl, ha, ra⟩ := h1
    obtain ⟨b, ys, rfl, hb, rb⟩ := h2
    refine ⟨a, b, xs, ys, rfl, .inr ⟨by rw [← hK]; exact Hd.le.sqt ha, by rw [← hK]; exact Hd.le.sqt hb, ?_⟩⟩
    rw [← hK]
    exact q _ (yl_zipT ha ra hb rb)
  · cases ei
def enumA : List D → Option (List D)
  | [.lst xs] => some (enums xs)
  | _ => none
theorem di_enum {fa : Slots → M (List D)} {elts : List Expr} {kk : Nat} {tpos : Pos} (ha : PA X [e] (dA c W fa)) (hm : X.mg "enumerate" = none) (hK : c.K = X.K := by rfl) (hg : Gl X "enumerate" := by rfl) (hs : starEach [e] X.env = [(false, eval e X.env)] := by rfl) :
    PI X (.Tuple elts kk tpos) (.Call (.Name "enumerate" p) [e] [] pos) (dI c W (itA enumA fa)) := by
  refine pi_imp (pi_enum hg hm ha hs) fun σ H Rk ⟨O, ρ, pt, r, q⟩ => ⟨O, ρ, pt, r, (Wg.bnd q).imp fun ds p1 H1 _ s1 q vs rv => ?_⟩
  obtain ⟨items, ei, q⟩ := Wg.opt q s1.pot
  unfold enumA at ei
  split at ei
  · cases ei
    obtain ⟨v, rfl, h1⟩ := rl_one rv
    simp only [R] at h1
    obtain ⟨a, xs, rfl, ha, ra⟩ := h1
    refine ⟨a, xs, rfl, .inl (.inl (Hd.le _ _ ha)), ?_⟩
    rw [← hK]
    exact q _ (yl_enum ha ra)
  · cases ei

/-! ### targets -/
theorem wipe_at {σ : L2.St} {vs : List Nat} {j : Nat} (h : j ∈ vs) : (wipe σ vs)[j]? = if j < σ.length then some none else none := by
  by_cases hl : j < σ.length
  · rw [if_pos hl]
    have hw : j < (wipe σ vs).length := by rw [wipe_length]; exact hl
    cases e : (wipe σ vs)[j]? with
    | none => rw [List.getElem?_eq_none_iff] at e; omega
    | some o =>
      cases o with
      | none => rfl
      | some x => exact absurd h (wipe_some e).2
  · rw [if_neg hl, List.getElem?_eq_none_iff, wipe_length]
    omega
theorem wipe_set {σ : L2.St} {vs : List Nat} {i : Nat} {x : Option V} (h : i ∈ vs) : wipe (σ.set i x) vs = wipe σ vs := by
  apply List.ext_getElem?
  intro j
  by_cases hj : j ∈ vs
  · rw [wipe_at hj, wipe_at hj, List.length_set]
  · rw [wipe_out hj, wipe_out hj, List.getElem?_set_ne (fun e : i = j => hj (e ▸ h))]
/-- a target takes a value -/
def dG (c : Cy) (vs : List Nat) (tgf : D → Slots → Option Slots) : TG := fun v σ H Q => ∃ O ρ pt d ρ', RS c O ρ σ H pt ∧ c.R (Hd (hid c O) H) d v ∧ tgf d ρ = some ρ' ∧ ∀ O' σ', RS c O' ρ' σ' H pt → Mv c O H O' H → wipe σ' vs = wipe σ vs → (∀ q ∈ O, q.1 ∉ vs → q ∈ O') → Q σ' H
def tgN (i : Nat) : D → Slots → Option Slots := fun d ρ => if i < ρ.length then some (ρ.set i (some (.val d))) else none
theorem pg_imp {t t' : TG} (h : PG X tg t) (i : ∀ v σ H Q, t' v σ H Q → t v σ H Q) : PG X tg t' := ⟨fun pins s σ H v u Q I r q => h.run pins s σ H v u Q I r (i v σ H Q q)⟩
theorem dg_name {i : Nat} {x : Str} {vs : List Nat} (hN : X.N.Nodup) (hv : i ∈ vs) (hi : X.N[i]? = some x := by rfl) (hx : Loc X.env.scope x := by first | exact Or.inl rfl | exact Or.inr rfl)
    (hf : X.fn x = true ∨ X.env.scope.names.lookup x = some .local := by first | exact .inl rfl | exact .inr rfl | assumption) : PG X (.Name x pos) (dG c vs (tgN i)) := by
  refine pg_imp (pg_name (i := i) hN hi hx hf) fun v σ H Q ⟨O, ρ, pt, d, ρ', rs, rv, e, q⟩ => ?_
  unfold tgN at e
  split at e
  · rename_i hl
    cases e
    exact q _ _ (rs.put i (by rw [← rs.len]; exact hl) rv) Mv.fewer (wipe_set hv) fun q hq hn => List.mem_filter.mpr ⟨hq, decide_eq_true fun z => hn (z ▸ hv)⟩
  · cases e
def tgs : List (D → Slots → Option Slots) → List D → Slots → Option Slots
  | [], [], ρ => some ρ
  | t :: ts, d :: ds, ρ => (t d ρ).bind (tgs ts ds)
  | _, _, _ => none
def dGs (c : Cy) (vs : List Nat) (ts : List (D → Slots → Option Slots)) : TGs := fun xs σ H Q => ∃ O ρ pt ds ρ', RS c O ρ σ H pt ∧ c.RL (Hd (hid c O) H) ds xs ∧ tgs ts ds ρ = some ρ' ∧ ∀ O' σ', RS c O' ρ' σ' H pt → Mv c O H O' H → wipe σ' vs = wipe σ vs → (∀ q ∈ O, q.1 ∉ vs → q ∈ O') → Q σ' H
theorem pgs_imp {es : List Expr} {t t' : TGs} (h : PGs X es t) (i : ∀ v σ H Q, t' v σ H Q → t v σ H Q) : PGs X es t' := ⟨fun pins s σ H v u Q I r q => h.run pins s σ H v u Q I r (i v σ H Q q)⟩
theorem dgs_nil {vs : List Nat} : PGs X [] (dGs c vs []) := pgs_imp pgs_nil fun xs σ H Q ⟨O, ρ, pt, ds, ρ', rs, rl, e, q⟩ => by
  cases ds with
  | nil =>
    simp only [tgs] at e
    cases e
    exact ⟨by simpa [Cy.RL, RL] using rl, q O σ rs Mv.refl rfl fun q hq _ => hq⟩
  | cons d ds => simp [tgs] at e
theorem dgs_cons {e : Expr} {es : List Expr} {vs : List Nat} {t : D → Slots → Option Slots} {ts : List (D → Slots → Option Slots)} (h : PG X e (dG c vs t)) (hs : PGs X es (dGs c vs ts)) (ha : (assignEach (e :: es) X.env).map (·.2) = assign e X.env :: (assignEach es X.env).map (·.2) := by rfl) : PGs X (e :: es) (dGs c vs (t :: ts)) := by
  refine pgs_imp (pgs_cons h hs ha) fun xs σ H Q ⟨O, ρ, pt, ds, ρ', rs, rl, e, q⟩ => ?_
  cases ds with
  | nil => simp [tgs] at e
  | cons d ds =>
    simp only [Cy.RL, RL] at rl
    obtain ⟨v, ws, rfl, rv, rl⟩ := rl
    simp only [tgs] at e
    cases e1 : t d ρ with
    | none => rw [e1] at e; cases e
    | some ρ1 =>
      rw [e1] at e
      refine ⟨v, ws, rfl, O, ρ, pt, d, ρ1, rs, rv, e1, fun O1 σ1 rs1 mv1 w1 k1 => ?_⟩
      exact ⟨O1, ρ1, pt, ds, ρ', rs1, RL.gr mv1.gr rl, e, fun O2 σ2 rs2 mv2 w2 k2 => q O2 σ2 rs2 (mv1.trans mv2) (w2.trans w1) fun z hz hn => k2 z (k1 z hz hn) hn⟩
def tgT (ts : List (D → Slots → Option Slots)) : D → Slots → Option Slots := fun d ρ => match d with
  | .tup ds => tgs ts ds ρ
  | _ => none
theorem tgs_len : ∀ {ts : List (D → Slots → Option Slots)} {ds : List D} {ρ ρ' : Slots}, tgs ts ds ρ = some ρ' → ds.length = ts.length
  | [], [], _, _, _ => rfl
  | [], _ :: _, _, _, e => by simp [tgs] at e
  | _ :: _, [], _, _, e => by simp [tgs] at e
  | t :: ts, d :: ds, ρ, ρ', e => by
    simp only [tgs] at e
    cases e1 : t d ρ with
    | none => rw [e1] at e; cases e
    | some ρ1 =>
      rw [e1] at e
      simp only [List.length_cons]
      rw [tgs_len (ts := ts) e]
theorem dg_tup {es : List Expr} {kk : Nat} {vs : List Nat} {ts : List (D → Slots → Option Slots)} (hc : X.calm = true) (h : PGs X es (dGs c vs ts)) (hn : (assignEach es X.env).length = ts.length := by rfl) (hst : (assignEach es X.env).findIdx? (·.1) = none := by rfl) (hK : c.K = X.K := by rfl) :
    PG X (.Tuple es kk pos) (dG c vs (tgT ts)) := by
  refine pg_imp (pg_tup hc h hn hst) fun v σ H Q ⟨O, ρ, pt, d, ρ', rs, rv, e, q⟩ => ?_
  cases d with
  | tup ds =>
    simp only [Cy.R, R] at rv
    obtain ⟨a, xs, rfl, ha, rl⟩ := rv
    have le := tgs_len (ts := ts) e
    exact ⟨a, xs, rfl, by rw [← hK]; exact Hd.le.sqt ha, by rw [← RL.len rl]; exact le, O, ρ, pt, ds, ρ', rs, rl, e, q⟩
  | _ => simp [tgT] at e

/-! ### for -/
def forL (tgf : D → Slots → Option Slots) (g : Slots → M Out) : List D → Slots → M Out
  | [], ρ => ret (.nx ρ)
  | d :: ds, ρ => bnd (opt (tgf d ρ)) fun ρ1 => bnd (g ρ1) fun o => match o with
    | .nx ρ2 => forL tgf g ds ρ2
    | .ct ρ2 => forL tgf g ds ρ2
    | .bk ρ2 => ret (.nx ρ2)
    | .rt d => ret (.rt d)
def forS (fi : Slots → M (List D)) (tgf : D → Slots → Option Slots) (g : Slots → M Out) : Slots → M Out := fun ρ => bnd (fi ρ) fun items => forL tgf g items ρ
theorem ds_for {vs : List Nat} {body : List Stmt} {fi : Slots → M (List D)} {tgf : D → Slots → Option Slots} {g : Slots → M Out} (hp : PassesOwn (model X.prog X.w) X.A X.env X.xe) (hc : X.calm = true) (hi : PI X tg iter (dI c W fi)) (hg : PG X tg (dG c vs tgf)) (hb : PSs X body (dS c W g))
    (hs : ∀ x, foldedSetIterable iter X.env x = pure x := by intro _; rfl) : PS X (.For tg iter body [] pos) (dS c W (forS fi tgf g)) := by
  refine ps_imp (ps_for hp hc hi hg hb hs) fun E σ H ⟨O, ρ, pt, r, h⟩ => ⟨O, ρ, pt, r, (WO.bnd r h).imp fun items p1 H1 _ s1 q J yl => ?_⟩
  refine ⟨fun i m σ' H' => m = items.length - i ∧ i ≤ items.length ∧ ∃ O' ρ' pt', RS c O' ρ' σ' H' pt' ∧ Mv c O H1 O' H' ∧ WO c W E O' H' (forL tgf g (items.drop i) ρ' pt'), ⟨_, rfl, Nat.zero_le _, O, ρ, p1, r.stp s1, Mv.refl, q⟩, ?_⟩
  rintro i m σ' H' ⟨rfl, hi, O', ρ', pt', rs, mv, q⟩
  obtain ⟨y1, y2⟩ := yl H' fun a o h e m => (mv a o h e m).2
  by_cases hl : i < items.length
  · refine .inr ?_
    have ed : items[i]? = some items[i] := List.getElem?_eq_getElem hl
    have edr : items.drop i = items[i] :: items.drop (i + 1) := List.drop_eq_getElem_cons hl
    rw [edr] at q
    simp only [forL] at q
    obtain ⟨go, yy⟩ := y1 i _ ed
    refine ⟨go, fun σ2 H2 => ∃ O2 ρ2 pt2, RS c O2 ρ2 σ2 H2 pt2 ∧ Mv c O H1 O2 H2 ∧ WO c W E O2 H2 (forL tgf g (items.drop (i + 1)) ρ2 pt2), fun σ2 H2 ⟨O2, ρ2, pt2, a1, a2, a3⟩ => ⟨items.length - (i + 1), by omega, rfl, hl, O2, ρ2, pt2, a1, a2, a3⟩, fun x H2 y => ?_⟩
    obtain ⟨gr, rx⟩ := yy x H2 y
    have st : Stp c.T.tb c.p H' H2 pt' := Stp.gr_ rs.pot gr
    have rs2 := rs.stp st
    have rx := rx (hid c O') mv.gr fun a h => rs.hidden h
    have q := WO.from (st.mv rs.hp) q
    cases et : tgf items[i] ρ' with
    | none =>
      unfold DF.bnd at q
      rw [et] at q
      exact q.elim
    | some ρ1 =>
      rw [et] at q
      have q : WO c W E O' H2 (bnd (g ρ1) (fun o => match o with | .nx ρ2 => forL tgf g (items.drop (i + 1)) ρ2 | .ct ρ2 => forL tgf g (items.drop (i + 1)) ρ2 | .bk ρ2 => ret (.nx ρ2) | .rt d => ret (.rt d)) pt') := q
      refine ⟨O', ρ', pt', items[i], ρ1, rs2, rx, et, fun O1 σ1 rs1 mv1 _ _ => ⟨O1, ρ1, pt', rs1, ?_⟩⟩
      have q := WO.from mv1 q
      have mv2 : Mv c O H1 O1 H2 := (mv.trans (st.mv rs.hp)).trans mv1
      unfold DF.bnd at q
      cases eg : g ρ1 pt' with
      | ok o p2 =>
        rw [eg] at q
        cases o with
        | nx ρ2 => exact fun O2 σ2 H3 a1 a2 => ⟨O2, ρ2, p2, a1, mv2.trans a2, WO.from a2 q⟩
        | ct ρ2 => exact fun O2 σ2 H3 a1 a2 => ⟨O2, ρ2, p2, a1, mv2.trans a2, WO.from a2 q⟩
        | bk ρ2 => exact fun O2 σ2 H3 a1 a2 => q O2 σ2 H3 a1 a2
        | rt d => exact q
      | exc _ _ _ =>
        rw [eg] at q
        exact q
      | stuck =>
        rw [eg] at q
        exact q
  · have ei : i = items.length := by omega
    subst ei
    rw [List.drop_length] at q
    exact .inl ⟨y2 _ (Nat.le_refl _), q O' σ' H' rs Mv.refl⟩
end
end DF

set_option Elab.async false
set_option linter.all false
set_option maxRecDepth 100000
set_option maxHeartbeats 4000000
namespace DF
open PySem L2
/-! ### list comprehensions -/
def wipeD (ρ : Slots) : List Nat → Slots
  | [] => ρ
  | v :: vs => (wipeD ρ vs).set v none
def noOwn (ρ : Slots) (vs : List Nat) : Bool := vs.all fun i => match ρ[i]? with
  | some (some s) => !isOwn s
  | _ => true
theorem wipeD_len (ρ : Slots) : ∀ vs, (wipeD ρ vs).length = ρ.length
  | [] => rfl
  | v :: vs => by
    show ((wipeD ρ vs).set v none).length = _
    rw [List.length_set, wipeD_len ρ vs]
theorem wipeD_out {ρ : Slots} {j : Nat} : ∀ {vs : List Nat}, j ∉ vs → (wipeD ρ vs)[j]? = ρ[j]?
  | [], _ => rfl
  | v :: vs, h => by
    show ((wipeD ρ vs).set v none)[j]? = _
    rw [List.getElem?_set_ne (fun e : v = j => h (e ▸ List.mem_cons_self)), wipeD_out fun q => h (List.mem_cons_of_mem _ q)]
theorem wipeD_in {ρ : Slots} {j : Nat} {s : SV} : ∀ {vs : List Nat}, j ∈ vs → (wipeD ρ vs)[j]? ≠ some (some s)
  | [], h => nomatch h
  | v :: vs, h => by
    show ((wipeD ρ vs).set v none)[j]? ≠ _
    by_cases e : v = j
    · subst e
      by_cases hl : v < (wipeD ρ vs).length
      · rw [List.getElem?_set_self hl]
        exact fun q => nomatch q
      · rw [List.getElem?_eq_none (by simpa using hl)]
        exact fun q => nomatch q
    · rw [List.getElem?_set_ne e]
      exact wipeD_in ((List.mem_cons.mp h).resolve_left fun q => e q.symm)
section
variable {X : Cx} {c : Cy} {W : WX} {σ : L2.St} {H H1 H' : Hp} {O : List (Nat × Addr)} {ρ : Slots} {pt pt' : Pot} {e e2 iter tg elt : Expr} {p pos : Pos}
theorem own_out (r : RS c O ρ σ H pt) {vs : List Nat} (h : noOwn ρ vs = true) : ∀ q ∈ O, q.1 ∉ vs := fun q hq hv => by
  obtain ⟨s, e, o⟩ := r.ow q hq
  have := List.all_eq_true.mp h q.1 hv
  rw [e] at this
  simp only [o] at this
  cases this
/-- the block of a comprehension: its names forgotten, the new list out of sight -/
theorem RS.blk (r : RS c O ρ σ H pt) {vs : List Nat} (h : noOwn ρ vs = true) {l : Addr} (hl : H l = none) (o : HO) (mo : mt o = true := by rfl) : RS { c with S := l :: c.S } O (wipeD ρ vs) (wipe σ vs) (upd H l o) pt := by
  have st : Stp c.T.tb c.p H (upd H l o) pt := Stp.new r.pot hl
  have g : Gr (Hd (hid c O) H) (Hd (hid { c with S := l :: c.S } O) (upd H l o)) := fun a u e => by
    obtain ⟨h1, h2, h3⟩ := Hd.sees e
    have na : a ≠ l := ne_of_none h2 hl
    have nm : a ∉ hid { c with S := l :: c.S } O := fun q => (List.mem_cons.mp (show a ∈ l :: (c.S ++ O.map (·.2)) from q)).elim na h1
    exact Hd.out nm (by rw [upd_ne na]; exact h2) h3
  have lo : ∀ q ∈ O, q.2 ≠ l := fun q hq e => by
    obtain ⟨_, _, _, u, h3, _⟩ := r.new q hq
    rw [e, hl] at h3; cases h3
  refine ⟨st.pot, fun a u n e m => st.keep a u n (r.ext a u n e m) m, List.mem_cons_of_mem _ r.hp, fun a ha => ?_, fun q hq => ?_, r.nd, r.nf, by rw [wipeD_len, wipe_length]; exact r.len, fun q hq => ?_, fun j s hj => ?_⟩
  · rcases List.mem_cons.mp ha with e | ha
    · exact ⟨o, by rw [e, upd_same], mo⟩
    · obtain ⟨u, e, mu⟩ := r.hS a ha
      exact ⟨u, by rw [upd_ne (ne_of_none e hl)]; exact e, mu⟩
  · obtain ⟨h1, h2, h3, u, h4, mu⟩ := r.new q hq
    exact ⟨h1, h2, fun z => (List.mem_cons.mp z).elim (lo q hq) h3, u, by rw [upd_ne (lo q hq)]; exact h4, mu⟩
  · obtain ⟨s, e, ho⟩ := r.ow q hq
    exact ⟨s, by rw [wipeD_out (own_out r h q hq)]; exact e, ho⟩
  · by_cases hv : j ∈ vs
    · exact absurd hj (wipeD_in hv)
    · rw [wipeD_out hv] at hj
      rw [wipe_out hv]
      have q := r.sl j s hj
      have st' : ∀ {a : Addr} {u : HO}, (j, a) ∈ O → H a = some u → upd H l o a = some u := fun m e => by rw [upd_ne (ne_of_none e hl)]; exact e
      cases s with
      | val d =>
        obtain ⟨v, e, r⟩ := q
        exact ⟨v, e, R.gr g r⟩
      | own ds =>
        obtain ⟨a, vs, m, e, q, r⟩ := q
        exact ⟨a, vs, m, e, st' m q, RL.gr g r⟩
      | ownd ds =>
        obtain ⟨a, vs, m, e, q, r⟩ := q
        exact ⟨a, vs, m, e, st' m q, RK.gr g r⟩
      | slf k fs =>
        obtain ⟨a, dx, vs, m, em, e, q, l, r⟩ := q
        exact ⟨a, dx, vs, m, em, e, st' m q, l, RL.gr g r⟩
      | exv e fs => exact ⟨q.1, Xv.gr g q.2⟩
      | lam => exact ⟨q.1, g _ _ q.2⟩
      | raw v => exact q
theorem wipe_wipe (σ : L2.St) (vs : List Nat) : wipe (wipe σ vs) vs = wipe σ vs := by
  apply List.ext_getElem?
  intro j
  by_cases hj : j ∈ vs
  · rw [wipe_at hj, wipe_at hj, wipe_length]
  · rw [wipe_out hj]
/-- a hidden thing changes -/
theorem RS.poke (r : RS c O ρ σ H pt) {l : Addr} {o : HO} (hl : l ∈ c.S) (lp : l ≠ c.p) (h0 : Hd [] c.H0 l = none) (mo : mt o = true := by rfl) : RS c O ρ σ (upd H l o) pt := by
  have lin : l ∈ hid c O := List.mem_append_left _ hl
  have g : Gr (Hd (hid c O) H) (Hd (hid c O) (upd H l o)) := fun a u ea => by
    obtain ⟨h1, h2, h3⟩ := Hd.sees ea
    exact Hd.out h1 (by rw [upd_ne (fun z : a = l => h1 (z ▸ lin))]; exact h2) h3
  obtain ⟨u0, e0, m0⟩ := r.hidden lin
  have lo : ∀ q ∈ O, q.2 ≠ l := fun q hq e => (r.new q hq).2.2.1 (e ▸ hl)
  refine ⟨r.pot.upd (Ne.symm lp) e0 m0, fun a u n e nn => ?_, r.hp, fun a ha => ?_, fun q hq => ?_, r.nd, r.nf, r.len, r.ow, fun j s hj => ?_⟩
  · rw [upd_ne (Hd.ne e nn h0)]
    exact r.ext a u n e nn
  · by_cases z : a = l
    · exact ⟨o, by rw [z, upd_same], mo⟩
    · obtain ⟨u, e, mu⟩ := r.hS a ha
      exact ⟨u, by rw [upd_ne z]; exact e, mu⟩
  · obtain ⟨h1, h2, h3, u, h4, mu⟩ := r.new q hq
    exact ⟨h1, h2, h3, u, by rw [upd_ne (lo q hq)]; exact h4, mu⟩
  · have q := r.sl j s hj
    have st' : ∀ {a : Addr} {u : HO}, (j, a) ∈ O → H a = some u → upd H l o a = some u := fun m e => by rw [upd_ne (lo _ m)]; exact e
    cases s with
    | val d =>
      obtain ⟨v, e, r⟩ := q
      exact ⟨v, e, R.gr g r⟩
    | own ds =>
      obtain ⟨a, vs, m, e, q, r⟩ := q
      exact ⟨a, vs, m, e, st' m q, RL.gr g r⟩
    | ownd ds =>
      obtain ⟨a, vs, m, e, q, r⟩ := q
      exact ⟨a, vs, m, e, st' m q, RK.gr g r⟩
    | slf k fs =>
      obtain ⟨a, dx, vs, m, em, e, q, l, r⟩ := q
      exact ⟨a, dx, vs, m, em, e, st' m q, l, RL.gr g r⟩
    | exv e fs => exact ⟨q.1, Xv.gr g q.2⟩
    | lam => exact ⟨q.1, g _ _ q.2⟩
    | raw v => exact q
def compL (tgf : D → Slots → Option Slots) (t : Slots → M Bool) (f : Slots → M D) (ρ : Slots) : List D → List D → M (List D)
  | [], acc => ret acc
  | d :: ds, acc => bnd (opt (tgf d ρ)) fun ρ1 => bnd (noX (t ρ1)) fun b => if b then bnd (noX (f ρ1)) fun y => (if acc.length < 100000 then compL tgf t f ρ ds (acc ++ [y]) else fail) else compL tgf t f ρ ds acc
def compE (fi : Slots → M (List D)) (vs : List Nat) (tgf : D → Slots → Option Slots) (t : Slots → M Bool) (f : Slots → M D) : Slots → M (List D) := fun ρ => bnd (fi ρ) fun items => if noOwn ρ vs then compL tgf t f (wipeD ρ vs) items [] else fail
abbrev W0 : WX := fun _ _ _ _ => False
def yesT : Slots → M Bool := fun _ => ret true
theorem pts_ex {ifs : List Expr} {ι : Type} {t : ι → TT} (h : ∀ i, PTs X ifs (t i)) : PTs X ifs (fun σ H Q => ∃ i, t i σ H Q) := ⟨fun pins s σ H Q I ⟨i, q⟩ => (h i).run pins s σ H Q I q⟩
theorem pe_ex {ι : Type} {t : ι → TE} (h : ∀ i, PE X e (t i)) : PE X e (fun σ H Q => ∃ i, t i σ H Q) := ⟨fun pins s σ H Q I ⟨i, q⟩ => (h i).run pins s σ H Q I q⟩
theorem pg_ex {ι : Type} {t : ι → TG} (h : ∀ i, PG X e (t i)) : PG X e (fun v σ H Q => ∃ i, t i v σ H Q) := ⟨fun pins s σ H v u Q I r ⟨i, q⟩ => (h i).run pins s σ H v u Q I r q⟩
theorem dts_nil : PTs X [] (dT c W yesT) := ⟨fun pins s σ H Q I ⟨O, ρ, pt, r, q⟩ => pts_nil.run pins s σ H Q I (Wg.here q r.pot)⟩
theorem dts_one {a : Expr} {t : Slots → M Bool} (h : PT X a (dT c W t)) : PTs X [a] (dT c W t) := pts_one h
/-- an outcome without exceptions, for a part that may raise none -/
theorem Wg.nox {α : Type} {W W' : WX} {P : α → Pot → Hp → Prop} {m : M α} {pt : Pot} (h : Wg c W σ H P (noX m pt)) : Wg c W' σ H P (m pt) := by
  unfold noX at h
  cases e : m pt with
  | ok a q => rw [e] at h; exact h
  | exc _ _ _ => rw [e] at h; exact h.elim
  | stuck => rw [e] at h; exact h.elim
theorem comp_use {vs : List Nat} {fi : Slots → M (List D)} {tgf : D → Slots → Option Slots} {t : Slots → M Bool} {f : Slots → M D} {Q : VK} (h : dL c W (compE fi vs tgf t f) σ H Q) :
    tLc (dI c W fi) (fun v σ H Q => ∃ l : Addr, dG { c with S := l :: c.S } vs tgf v σ H Q) (fun σ H Q => ∃ l : Addr, dT { c with S := l :: c.S } W0 t σ H Q) (fun σ H Q => ∃ l : Addr, dE { c with S := l :: c.S } W0 f σ H Q) vs σ H Q := by
  obtain ⟨O, ρ, pt, r, h⟩ := h
  refine ⟨O, ρ, pt, r, ?_⟩
  unfold compE DF.bnd at h
  cases e : fi ρ pt with
  | exc _ _ _ => rw [e] at h; exact h
  | stuck => rw [e] at h; exact h
  | ok items p1 =>
    rw [e] at h
    intro H1 s1 J yl l hl
    simp only at h
    by_cases hn : noOwn ρ vs = true
    · rw [if_pos hn] at h
      have hl0 : Hd [] H l = none := by
        cases e2 : Hd [] H l with
        | none => rfl
        | some o =>
          obtain ⟨_, e2, n2⟩ := Hd.sees e2
          by_cases el : l = c.p
          · rw [el, s1.pot.at_] at hl; cases hl
          · rw [s1.keep l o el e2 n2] at hl; cases hl
      have r1 := r.stp s1
      have lh : l ∉ hid c O := r1.fresh hl
      have rb := r1.blk hn hl (.lst [])
      let c' : Cy := { c with S := l :: c.S }
      have hidE : ∀ a, a ∈ hid c' O ↔ a ∈ l :: hid c O := fun a => Iff.rfl
      refine ⟨fun i m H2 => m = items.length - i ∧ i ≤ items.length ∧ ∃ acc vacc p2, RS c' O (wipeD ρ vs) (wipe σ vs) H2 p2 ∧ Stp c.T.tb c.p H1 H2 p2 ∧ H2 l = some (.lst vacc) ∧ c.RL (Hd (hid c' O) H2) acc vacc ∧
        Wg c W σ H (fun ds _ H' => ∀ l vs, Hd [] H l = none → H' l = some (.lst vs) → c.RL (Hd (l :: hid c O) H') ds vs → Q (.ref l) H') (compL tgf t f (wipeD ρ vs) (items.drop i) acc p2),
        ⟨_, rfl, Nat.zero_le _, [], [], p1, rb, Stp.new s1.pot hl, upd_same, RL.nil, h⟩, ?_⟩
      rintro i m H2 ⟨rfl, hi, acc, vacc, p2, rs, st, hlv, rl, q⟩
      obtain ⟨y1, y2⟩ := yl H2 fun a o ha ea m => st.keep a o (fun z => ha (z ▸ r.pm)) ea m
      by_cases hlt : i < items.length
      · refine .inr ?_
        have ed : items[i]? = some items[i] := List.getElem?_eq_getElem hlt
        have edr : items.drop i = items[i] :: items.drop (i + 1) := List.drop_eq_getElem_cons hlt
        rw [edr] at q
        simp only [compL] at q
        obtain ⟨go, yy⟩ := y1 i _ ed
        refine ⟨go, fun H3 => ∃ acc vacc p3, RS c' O (wipeD ρ vs) (wipe σ vs) H3 p3 ∧ Stp c.T.tb c.p H1 H3 p3 ∧ H3 l = some (.lst vacc) ∧ c.RL (Hd (hid c' O) H3) acc vacc ∧
          Wg c W σ H (fun ds _ H' => ∀ l vs, Hd [] H l = none → H' l = some (.lst vs) → c.RL (Hd (l :: hid c O) H') ds vs → Q (.ref l) H') (compL tgf t f (wipeD ρ vs) (items.drop (i + 1)) acc p3),
          fun H3 ⟨acc, vacc, p3, a1, a2, a3, a4, a5⟩ => ⟨items.length - (i + 1), by omega, rfl, hlt, acc, vacc, p3, a1, a2, a3, a4, a5⟩, fun x H3 y => ?_⟩
        obtain ⟨gr, rx⟩ := yy x H3 y
        have st3 : Stp c.T.tb c.p H2 H3 p2 := Stp.gr_ rs.pot gr
        have rs3 : RS c' O (wipeD ρ vs) (wipe σ vs) H3 p2 := rs.stp st3
        have gro : Gr (Hd (hid c O) H1) (Hd (hid c' O) H2) := fun a o ea => by
          obtain ⟨h1, h2, h3⟩ := Hd.sees ea
          have na : a ≠ l := ne_of_none h2 hl
          exact Hd.out (fun z => (List.mem_cons.mp ((hidE a).mp z)).elim na h1) (st.keep a o (fun z => h1 (z ▸ r.pm)) h2 h3) h3
        have rx := rx (hid c' O) gro fun a ha => rs.hidden ha
        cases et : tgf items[i] (wipeD ρ vs) with
        | none =>
          unfold DF.bnd at q
          rw [et] at q
          exact q.elim
        | some ρ1 =>
          rw [et] at q
          have q : Wg c W σ H (fun ds _ H' => ∀ l vs, Hd [] H l = none → H' l = some (.lst vs) → c.RL (Hd (l :: hid c O) H') ds vs → Q (.ref l) H') (bnd (noX (t ρ1)) (fun b => if b then bnd (noX (f ρ1)) fun y => (if acc.length < 100000 then compL tgf t f (wipeD ρ vs) (items.drop (i + 1)) (acc ++ [y]) else fail) else compL tgf t f (wipeD ρ vs) (items.drop (i + 1)) acc) p2) := q
          refine ⟨l, O, wipeD ρ vs, p2, items[i], ρ1, rs3, rx, et, fun O1 σ1 rs1 mv1 w1 k1 => ⟨w1.trans (wipe_wipe σ vs), l, O1, ρ1, p2, rs1, ?_⟩⟩
          unfold DF.bnd noX at q
          cases eb : t ρ1 p2 with
          | exc _ _ _ => rw [eb] at q; exact q.elim
          | stuck => rw [eb] at q; exact q.elim
          | ok b p3 =>
            rw [eb] at q
            intro H4 st4
            have stA : Stp c.T.tb c.p H1 H4 p3 := (st.trans st3).trans st4
            cases b with
            | false =>
              refine ⟨acc, vacc, p3, rs3.stp st4, stA, ?_, ?_, q⟩
              · exact st4.keep _ _ (fun z => lh (z ▸ r.pm)) (gr _ _ hlv)
              · exact RL.gr (st4.gr rs.pm) (RL.gr (st3.gr rs.pm) rl)
            | true =>
              refine ⟨l, O1, ρ1, p3, rs1.stp st4, ?_⟩
              simp only [if_true] at q
              cases ef : f ρ1 p3 with
              | exc _ _ _ => rw [ef] at q; exact q.elim
              | stuck => rw [ef] at q; exact q.elim
              | ok yd p4 =>
                rw [ef] at q
                intro H5 st5 yv ry
                simp only at q
                by_cases ha : acc.length < 100000
                · rw [if_pos ha] at q
                  have st45 : Stp c.T.tb c.p H3 H5 p4 := st4.trans st5
                  have rs5 : RS c' O (wipeD ρ vs) (wipe σ vs) H5 p4 := rs3.stp st45
                  have hl5 : H5 l = some (.lst vacc) := st45.keep _ _ (fun z => lh (z ▸ r.pm)) (gr _ _ hlv)
                  have rl5 : c.RL (Hd (hid c' O) H5) acc vacc := RL.gr (st45.gr rs.pm) (RL.gr (st3.gr rs.pm) rl)
                  have sub : ∀ a ∈ hid c' O, a ∈ hid c' O1 := fun a ha => by
                    rcases List.mem_append.mp ha with ha | ha
                    · exact List.mem_append_left _ ha
                    · obtain ⟨z, hz, ez⟩ := List.mem_map.mp ha
                      exact List.mem_append_right _ (List.mem_map.mpr ⟨z, k1 z hz (own_out r hn z hz), ez⟩)
                  have ry5 : c.R (Hd (hid c' O) H5) yd yv := R.gr (Hd.sub sub) ry
                  have lin : l ∈ hid c' O := List.mem_cons_self
                  have grU : Gr (Hd (hid c' O) H5) (Hd (hid c' O) (upd H5 l (.lst (vacc ++ [yv])))) := fun a o ea => by
                    obtain ⟨h1, h2, h3⟩ := Hd.sees ea
                    exact Hd.out h1 (by rw [upd_ne (fun z : a = l => h1 (z ▸ lin))]; exact h2) h3
                  have lp : c.p ≠ l := fun z => lh (z ▸ r.pm)
                  have l0 : Hd [] c.H0 l = none := by
                    cases e0 : Hd [] c.H0 l with
                    | none => rfl
                    | some o =>
                      obtain ⟨_, e0, n0⟩ := Hd.sees e0
                      exact absurd rfl (Hd.ne (r.ext l o (Ne.symm lp) e0 n0) n0 hl0)
                  refine ⟨vacc, hl5, Nat.lt_of_lt_of_le (by rw [← RL.len rl]; exact ha) (by decide), acc ++ [yd], vacc ++ [yv], p4, rs5.poke List.mem_cons_self (Ne.symm lp) l0, ?_, upd_same, RL.app (RL.gr grU rl5) (RL.one (R.gr grU ry5)), q⟩
                  exact ⟨fun a o n ea m => by
                    rw [upd_ne (ne_of_none ea hl)]
                    exact (st.trans (st3.trans st45)).keep a o n ea m, st45.pot.upd lp hl5 rfl⟩
                · rw [if_neg ha] at q
                  exact q.elim
      · have ei : i = items.length := by omega
        subst ei
        rw [List.drop_length] at q
        refine .inl ⟨y2 _ (Nat.le_refl _), ?_⟩
        exact q H2 (s1.trans st) l vacc hl0 hlv rl
    · rw [if_neg hn] at h
      exact h.elim
end
end DF

set_option Elab.async false
set_option linter.all false
set_option maxRecDepth 100000
set_option maxHeartbeats 4000000
namespace DF
open PySem L2
section
variable {X : Cx} {c : Cy} {W : WX} {σ : L2.St} {H H1 H' : Hp} {O : List (Nat × Addr)} {ρ : Slots} {pt pt' : Pot} {e e2 iter tg elt a b o : Expr} {p pos apos cpos : Pos}
theorem ds_asg_of {i : Nat} {st : Stmt} {f : Slots → M D} (h : PS X st (tAsg (dE c W f) (gName i))) : PS X st (dS c W (asgS i f)) := by
  refine ps_imp h fun E σ H ⟨O, ρ, pt, r, h⟩ => ⟨O, ρ, pt, r, (WO.bnd r h).imp fun d p1 H1 _ s1 q v rv => ?_⟩
  by_cases hl : i < ρ.length
  · rw [if_pos hl] at q
    exact q _ _ _ ((r.stp s1).put i (by rw [← r.len]; exact hl) rv) Mv.fewer
  · rw [if_neg hl] at q
    exact q.elim
theorem ds_asgL_of {i : Nat} {st : Stmt} {f : Slots → M (List D)} (h : PS X st (tAsg (dL c W f) (gName i))) : PS X st (dS c W (asgL i f)) := by
  refine ps_imp h fun E σ H ⟨O, ρ, pt, r, h⟩ => ⟨O, ρ, pt, r, ?_⟩
  unfold asgL DF.bnd at h
  cases e : f ρ pt with
  | ok ds p1 =>
    rw [e] at h
    intro H1 s1 l vs hl h1 rl
    simp only at h
    by_cases hz : i < ρ.length
    · rw [if_pos hz] at h
      obtain ⟨rs, mv⟩ := r.putOwn s1 i (by rw [← r.len]; exact hz) hl h1 rl
      exact h _ _ _ rs mv
    · rw [if_neg hz] at h
      exact h.elim
  | exc _ _ _ =>
    rw [e] at h
    exact fun cls dd H' st x => h cls dd σ H' (Fin.of_stp r st) x
  | stuck =>
    rw [e] at h
    exact h
theorem tAsg_imp {st : Stmt} {t t' : TE} {i : Nat} (h : PS X st (tAsg t (gName i))) (k : ∀ σ H Q, t' σ H Q → t σ H Q) : PS X st (tAsg t' (gName i)) := ps_imp h fun E σ H q => k σ H _ q
/-- a new list, kept -/
theorem box_use {f : Slots → M (List D)} {Q : VK} (h : dE c W (boxE f) σ H Q) : dL c W f σ H Q := by
  obtain ⟨O, ρ, pt, r, q⟩ := h
  refine ⟨O, ρ, pt, r, (Wg.bnd q).imp fun ds p1 H1 _ s1 q l vs hl h1 rl => ?_⟩
  refine Wg.here q s1.pot _ ?_
  simp only [Cy.R, R]
  refine ⟨l, vs, rfl, ?_, RL.gr (Hd.sub fun a h => List.mem_cons_of_mem _ h) rl⟩
  exact Hd.out (r.freshF hl) h1
/-! ### comprehensions -/
theorem dl_lc {ifs : List Expr} {scope : Scope} {own : List (Str × Nat)} {fi : Slots → M (List D)} {tgf : D → Slots → Option Slots} {t : Slots → M Bool} {f : Slots → M D} (hc : X.calm = true) (hN : X.N.Nodup) (hi : PI X tg iter (dI c W fi)) (ok : BlkOk X.N X.env.scope scope own)
    (hg : ∀ (l : Addr) (s : Shared) (H : Hp) (C : Addr) (cl : List (Str × Addr)) (fp : List Addr), PG (X.blk s H scope (compEnvC scope cl C X.env) fp) tg (dG { c with S := l :: c.S } (own.map (·.2)) tgf))
    (ht : ∀ (l : Addr) (s : Shared) (H : Hp) (C : Addr) (cl : List (Str × Addr)) (fp : List Addr), PTs (X.blk s H scope (compEnvC scope cl C X.env) fp) ifs (dT { c with S := l :: c.S } W0 t))
    (he : ∀ (l : Addr) (s : Shared) (H : Hp) (C : Addr) (cl : List (Str × Addr)) (fp : List Addr), PE (X.blk s H scope (compEnvC scope cl C X.env) fp) elt (dE { c with S := l :: c.S } W0 f))
    (hs : ∀ x, foldedSetIterable iter X.env x = pure x := by intro _; rfl) : PE X (.ListComp elt [⟨tg, iter, ifs, 0⟩] scope pos) (dL c W (compE fi (own.map (·.2)) tgf t f)) :=
  pe_imp (pe_lc hc hN hi ok (fun s H C cl fp => pg_ex fun l => hg l s H C cl fp) (fun s H C cl fp => pts_ex fun l => ht l s H C cl fp) (fun s H C cl fp => pe_ex fun l => he l s H C cl fp) hs) fun σ H Q h => comp_use h
theorem ps_lc {i : Nat} {y : Str} {py spos : Pos} {ifs : List Expr} {scope : Scope} {own : List (Str × Nat)} {fi : Slots → M (List D)} {tgf : D → Slots → Option Slots} {t : Slots → M Bool} {f : Slots → M D} (hc : X.calm = true) (hN : X.N.Nodup) (hy : X.N[i]? = some y) (hyl : X.env.scope.names.lookup y = some .local)
    (hsw : swapsWith (.ListComp elt [⟨tg, iter, ifs, 0⟩] scope pos) (some (.Name y py)) spos.line X.env = pure true) (hi : PI X tg iter (dI c W fi)) (ok : BlkOk X.N X.env.scope scope own)
    (hg : ∀ (l : Addr) (s : Shared) (H : Hp) (C : Addr) (cl : List (Str × Addr)) (fp : List Addr), PG (X.blk s H scope (compEnvC scope cl C X.env) fp) tg (dG { c with S := l :: c.S } (own.map (·.2)) tgf))
    (ht : ∀ (l : Addr) (s : Shared) (H : Hp) (C : Addr) (cl : List (Str × Addr)) (fp : List Addr), PTs (X.blk s H scope (compEnvC scope cl C X.env) fp) ifs (dT { c with S := l :: c.S } W0 t))
    (he : ∀ (l : Addr) (s : Shared) (H : Hp) (C : Addr) (cl : List (Str × Addr)) (fp : List Addr), PE (X.blk s H scope (compEnvC scope cl C X.env) fp) elt (dE { c with S := l :: c.S } W0 f))
    (hs : ∀ x, foldedSetIterable iter X.env x = pure x := by intro _; rfl) : PS X (.Assign [.Name y py] (.ListComp elt [⟨tg, iter, ifs, 0⟩] scope pos) spos) (tAsg (dL c W (compE fi (own.map (·.2)) tgf t f)) (gName i)) :=
  tAsg_imp (ps_setLc hc hN hy hyl hsw hi ok (fun s H C cl fp => pg_ex fun l => hg l s H C cl fp) (fun s H C cl fp => pts_ex fun l => ht l s H C cl fp) (fun s H C cl fp => pe_ex fun l => he l s H C cl fp) hs) fun σ H Q h => comp_use h
theorem ds_box {st : Stmt} {i : Nat} {f : Slots → M (List D)} (h : PS X st (tAsg (dL c W f) (gName i))) : PS X st (dS c W (asgS i (boxE f))) := ds_asg_of (tAsg_imp h fun σ H Q q => box_use q)

/-! ### subscripts -/
def ixD : D → D → Option D
  | .lst ds, .int i => atI ds i
  | .tup ds, .int i => atI ds i
  | .str x, .int i => if x.length ≤ 1000000 then (atI x.cps.toList i).map fun n => .str ⟨#[n]⟩ else none
  | _, _ => none
def ixM : D → D → M D := fun x y pt => match x, y with
  | .pot, .int 0 => .ok (.int pt.1) pt
  | .pot, .int 1 => .ok (.int pt.2) pt
  | x, y => opt (ixD x y) pt
theorem ixr_or {r r' : R2} (h : IxR X r) (h' : IxR X r') : IxR X (fun x y H Q => r x y H Q ∨ r' x y H Q) := by
  intro va sl pins s σ H x y v u Q I rx ry q hs
  rcases q with q | q
  · exact h va sl pins s σ H x y v u Q I rx ry q hs
  · exact h' va sl pins s σ H x y v u Q I rx ry q hs
theorem atI_rl {K : PySem.W.Frag} {T : Tb} {p : Addr} {ds : List D} {vs : List V} {i : Int} {d : D} (h : RL K T p H ds vs) (e : atI ds i = some d) : ∃ v, atI vs i = some v ∧ R K T p H d v := by
  unfold atI at e ⊢
  rw [← RL.len h]
  cases en : ixN ds.length i with
  | none => rw [en] at e; cases e
  | some j =>
    rw [en] at e
    simp only [Option.bind_some] at e ⊢
    exact RL.getD h e
theorem pot_read (r : RS c O ρ σ H pt) {v : V} (h : RB c O H .pot v) : v = .ref c.p := by
  rcases h with h | ⟨_, _, _, _, e, _⟩ | ⟨_, _, _, _, e, _⟩
  · simpa [Cy.R, R] using h
  · cases e
  · cases e
theorem ixM_ok {x y : D} {v w : V} {Q : VK} (hK : c.K = X.K) (rs : RS c O ρ σ H pt) (rx : RB c O H x v) (ry : RB c O H y w) (q : Wg c W σ H (fun d _ H' => ∀ v, c.R (Hd (hid c O) H') d v → Q v H') (ixM x y pt)) :
    rIxL X.K v w H Q ∨ rIxT X.K v w H Q ∨ rIxS v w H Q := by
  have gen : Wg c W σ H (fun d _ H' => ∀ v, c.R (Hd (hid c O) H') d v → Q v H') (opt (ixD x y) pt) → rIxL X.K v w H Q ∨ rIxT X.K v w H Q ∨ rIxS v w H Q := fun q0 => by
    obtain ⟨d, e, qd⟩ := Wg.opt q0 rs.pot
    clear q0 q
    unfold ixD at e
    split at e
    · obtain ⟨a, vs, rfl, ha, rl⟩ := rx.lst
      rw [ry.int]
      obtain ⟨v, ev, rv⟩ := atI_rl rl e
      exact .inl ⟨a, vs, _, v, rfl, rfl, .inl (.inl ha), ev, qd v rv⟩
    · obtain ⟨a, vs, rfl, ha, rl⟩ := rx.tup
      rw [ry.int]
      obtain ⟨v, ev, rv⟩ := atI_rl rl e
      exact .inr (.inl ⟨a, vs, _, v, rfl, rfl, by rw [← hK]; exact ha, ev, qd v rv⟩)
    · split at e
      · rename_i i hz
        rw [rx.str, ry.int]
        cases ea : atI (Str.cps ‹Str›).toList ‹Int› with
        | none => rw [ea] at e; cases e
        | some n =>
          rw [ea] at e
          cases e
          exact .inr (.inr ⟨_, _, n, rfl, rfl, Nat.le_trans hz (by decide), ea, qd _ (by simp [Cy.R, R])⟩)
      · cases e
    · cases e
  unfold ixM at q
  split at q
  · rw [pot_read rs rx, ry.int]
    exact .inl ⟨c.p, _, _, _, rfl, rfl, .inl (.inl rs.pot.at_), rfl, Wg.here q rs.pot _ (by simp [Cy.R, R])⟩
  · rw [pot_read rs rx, ry.int]
    exact .inl ⟨c.p, _, _, _, rfl, rfl, .inl (.inl rs.pot.at_), rfl, Wg.here q rs.pot _ (by simp [Cy.R, R])⟩
  · exact gen q
theorem de_ix {fa fb : Slots → M D} (ha : PE X a (dB c W fa)) (hb : PE X b (dB c W fb)) (hs : PlainIx b := by intro _ _; rfl) (hK : c.K = X.K := by rfl) : PE X (.Subscript a b pos) (dE c W (binE ixM fa fb)) := by
  refine pe_imp (pe_ix (ixr_or ix_list (ixr_or ix_tup ix_str)) ha hb hs) fun σ H Q ⟨O, ρ, pt, rs, q⟩ => ?_
  refine ⟨O, ρ, pt, rs, (Wg.bnd q).imp fun x p1 H1 _ s1 q v rv => ?_⟩
  have rs1 := rs.stp s1
  refine ⟨O, ρ, p1, rs1, (Wg.bnd q).imp fun y p2 H2 _ s2 q w rw => ?_⟩
  exact ixM_ok hK (rs1.stp s2) (rv.stp rs1 s2) rw q
/-! ### slices -/
def cutD (ds : List D) (lo hi : Option Int) : List D := (ds.drop (HT.sIx ds.length 0 lo)).take (HT.sIx ds.length ds.length hi - HT.sIx ds.length 0 lo)
theorem cut_rl {K : PySem.W.Frag} {T : Tb} {p : Addr} {ds : List D} {vs : List V} {lo hi : Option Int} (h : RL K T p H ds vs) : RL K T p H (cutD ds lo hi) (cutV vs lo hi) := by
  unfold cutD cutV
  rw [RL.len h]
  exact RL.take _ (RL.drop _ h)
def dO (c : Cy) (W : WX) (f : Slots → M (Option Int)) : TO := fun σ H Q => ∃ O ρ pt, RS c O ρ σ H pt ∧ Wg c W σ H (fun d _ H' => Q d H') (f ρ pt)
def noO : Slots → M (Option Int) := fun _ => ret none
def soO (f : Slots → M D) : Slots → M (Option Int) := fun ρ => bnd (f ρ) fun d => match d with
  | .int i => ret (some i)
  | _ => fail
theorem do_none : PO X none (dO c W noO) := ⟨fun pins s σ H Q I ⟨O, ρ, pt, r, q⟩ => po_none.run pins s σ H Q I (Wg.here q r.pot)⟩
theorem do_some {f : Slots → M D} (h : PE X e (dB c W f)) : PO X (some e) (dO c W (soO f)) := ⟨fun pins s σ H Q I ⟨O, ρ, pt, r, q⟩ => (po_some h).run pins s σ H Q I ⟨O, ρ, pt, r, (Wg.bnd q).imp fun d p1 H1 _ s1 q v rv => by
  cases d with
  | int i => exact ⟨i, rv.int, Wg.here q s1.pot⟩
  | _ => exact q.elim⟩⟩
theorem sl_use {r : V → Option Int → Option Int → Hp → VK → Prop} {fa : Slots → M D} {fl fh : Slots → M (Option Int)} {Q : VK} {P : D → Option Int → Option Int → M D}
    (ok : ∀ (O : List (Nat × Addr)) (ρ : Slots) (pt : Pot) (H : Hp) (Q : VK) (x : D) (lo hi : Option Int) (v : V), RS c O ρ σ H pt → RB c O H x v → Wg c W σ H (fun d _ H' => ∀ v, c.R (Hd (hid c O) H') d v → Q v H') (P x lo hi pt) → r v lo hi H Q)
    (h : dE c W (fun ρ => bnd (fa ρ) fun x => bnd (fl ρ) fun lo => bnd (fh ρ) fun hi => P x lo hi) σ H Q) : tSl r (dB c W fa) (dO c W fl) (dO c W fh) σ H Q := by
  obtain ⟨O, ρ, pt, rs, q⟩ := h
  refine ⟨O, ρ, pt, rs, (Wg.bnd q).imp fun x p1 H1 _ s1 q v rv => ?_⟩
  have rs1 := rs.stp s1
  refine ⟨O, ρ, p1, rs1, (Wg.bnd q).imp fun lo p2 H2 _ s2 q => ?_⟩
  have rs2 := rs1.stp s2
  refine ⟨O, ρ, p2, rs2, (Wg.bnd q).imp fun hi p3 H3 _ s3 q => ?_⟩
  exact ok O ρ p3 H3 Q x lo hi v (rs2.stp s3) ((rv.stp rs1 s2).stp rs2 s3) q
def slM : D → Option Int → Option Int → M D := fun x lo hi => match x with
  | .lst ds => ret (.lst (cutD ds lo hi))
  | .tup ds => if HT.sIx ds.length 0 lo = 0 ∧ HT.sIx ds.length ds.length hi = ds.length then fail else ret (.tup (cutD ds lo hi))
  | .str z => if z.length ≤ 1000000 then ret (.str (cutS z lo hi)) else fail
  | _ => fail
def slE (fa : Slots → M D) (fl fh : Slots → M (Option Int)) : Slots → M D := fun ρ => bnd (fa ρ) fun x => bnd (fl ρ) fun lo => bnd (fh ρ) fun hi => slM x lo hi
theorem de_slice {lo hi : Option Expr} {p2 : Pos} {fa : Slots → M D} {fl fh : Slots → M (Option Int)} (ha : PE X a (dB c W fa)) (hl : PO X lo (dO c W fl)) (hh : PO X hi (dO c W fh)) (hK : c.K = X.K := by rfl) : PE X (.Subscript a (.Slice lo hi none p2) pos) (dE c W (slE fa fl fh)) := by
  refine pe_imp (pe_slice (sl_list.or (sl_tup.or sl_str)) ha hl hh) fun σ H Q h => sl_use (P := slM) (fun O ρ pt H Q x lo hi v rs rx q => ?_) h
  cases x with
  | lst ds =>
    simp only [slM] at q
    obtain ⟨a, vs, rfl, ha, rl⟩ := rx.lst
    exact .inl ⟨a, vs, rfl, .inl (.inl ha), fun l hl => q _ (Stp.new rs.pot hl) _ (mk_lst rs hl (cut_rl rl))⟩
  | tup ds =>
    simp only [slM] at q
    obtain ⟨a, vs, rfl, ha, rl⟩ := rx.tup
    split at q
    · exact q.elim
    · rename_i hz
      exact .inr (.inl ⟨a, vs, rfl, by rw [← hK]; exact ha, by rw [← RL.len rl]; exact hz, fun l hl => q _ (Stp.new rs.pot hl) _ (mk_tup rs hl (cut_rl rl))⟩)
  | str z =>
    simp only [slM] at q
    split at q
    · rename_i hz
      rw [rx.str]
      exact .inr (.inr ⟨z, rfl, Nat.le_trans hz (by decide), Wg.here q rs.pot _ (by simp [Cy.R, R])⟩)
    · exact q.elim
  | _ => exact q.elim
/-! ### lists that grow -/
def ownOf : Option (Option SV) → Option (List D)
  | some (some (.own ds)) => some ds
  | _ => none
theorem ownOf_eq {x : Option (Option SV)} {ds : List D} (h : ownOf x = some ds) : x = some (some (.own ds)) := by
  unfold ownOf at h
  split at h
  · cases h; rfl
  · cases h
def growM (i : Nat) (ρ : Slots) (ds es : List D) : M Out := if ds.length + es.length ≤ 100000 then ret (.nx (ρ.set i (some (.own (ds ++ es))))) else fail
def appS (i : Nat) (f : Slots → M D) : Slots → M Out := fun ρ => bnd (opt (ownOf ρ[i]?)) fun ds => bnd (f ρ) fun d => growM i ρ ds [d]
def lstOf : D → Option (List D)
  | .lst ds => some ds
  | _ => none
def extS (i : Nat) (f : Slots → M D) : Slots → M Out := fun ρ => bnd (opt (ownOf ρ[i]?)) fun ds => bnd (f ρ) fun d => bnd (opt (lstOf d)) fun es => growM i ρ ds es
theorem grow_ok {E : Ends} {i : Nat} {ds es : List D} {a : Addr} {vs us : List V} (r : RS c O ρ σ H pt) (eo : ρ[i]? = some (some (.own ds))) (m : (i, a) ∈ O) (ev : σ[i]? = some (some (.ref a))) (ha : H a = some (.lst vs)) (rl : c.RL (Hd (hid c O) H) ds vs) (rn : c.RL (Hd (hid c O) H) es us) (h : WO c W E O H (growM i ρ ds es pt)) :
    vs.length + us.length ≤ 100000 ∧ E.nx σ (upd H a (.lst (vs ++ us))) := by
  unfold growM at h
  split at h
  · rename_i hz
    have l1 := RL.len rl
    have l2 := RL.len rn
    refine ⟨by omega, ?_⟩
    have hi : i < ρ.length := (List.getElem?_eq_some_iff.mp eo).1
    obtain ⟨rs, mv⟩ := r.mut (s' := .own (ds ++ es)) m (o := .lst (vs ++ us)) (fun gr => ⟨a, vs ++ us, m, ev, upd_same, RL.app (RL.gr gr rl) (RL.gr gr rn)⟩) hi
    exact h _ _ _ rs mv
  · exact h.elim
theorem ds_app {i : Nat} {x : Str} {f : Slots → M D} {spos : Pos} (h : PE X e (dE c W f)) (hN : X.N[i]? = some x := by rfl) (hv : Vis X.env.scope x := by first | exact Or.inl rfl | exact Or.inr (Or.inl rfl)) (hd : (x == ("__debug__" : Str)) = false := by decide) (hcd : (x == ("__classdict__" : Str)) = false := by decide)
    (hst : starEach [e] X.env = (false, eval e X.env) :: starEach [] X.env := by rfl) (hline : (apos.endLine == cpos.line) = true := by rfl) (hs : swapsWith (.Call (.Attribute (.Name x p) "append" apos) [e] [] cpos) none spos.line X.env = pure false := by rfl)
    (hfew : ((backTo cpos (starEach [e] X.env)).all (fun x => !x.1) && (backToKw cpos (keywordEach [] X.env)).all (fun x => x.1.isSome) && decide ([e].length + ([] : List Keyword).length + (if ([] : List Keyword).isEmpty then 0 else 1) < 30)) = true := by rfl)
    (hbase : attributeBase (.Name x p) "append" X.env (eval (.Name x p) X.env) = eval (.Name x p) X.env := by rfl) (hplain : (backTo cpos (starEach [] X.env)).any (·.1) = false := by rfl) :
    PS X (.Expr (.Call (.Attribute (.Name x p) "append" apos) [e] [] cpos) spos) (dS c W (appS i f)) := by
  refine ps_imp (ps_expr (pe_bm PySem.F.plainAttrs_list PySem.F.slot_list_append PySem.F.type_list_append mt_append (pe_var (i := i) hN hv hd hcd) (pa_cons h pa_nil hst) hbase hfew hline hst hplain) hs) fun E σ H ⟨O, ρ, pt, r, h⟩ => ?_
  obtain ⟨ds, eo, h⟩ := Wg.opt (WO.bnd r h) r.pot
  replace eo := ownOf_eq eo
  obtain ⟨a, vs, m, ev, ha, rl⟩ := r.sl i _ eo
  refine ⟨_, ev, .inl ⟨rfl, vs, .inl (.inl ha)⟩, O, ρ, pt, r, (WO.bnd r h).imp fun d p1 H1 _ s1 q v rv => ?_⟩
  have r1 := r.stp s1
  obtain ⟨a', vs, m', ev', ha, rl⟩ := r1.sl i _ eo
  rw [ev] at ev'
  cases ev'
  obtain ⟨hz, q⟩ := grow_ok r1 eo m' ev ha rl (RL.one rv) q
  exact ⟨a, vs, v, rfl, rfl, ha, Nat.lt_of_lt_of_le (Nat.lt_of_lt_of_le (Nat.lt_succ_self _) hz) (by decide), q⟩
theorem ds_ext {i : Nat} {x : Str} {f : Slots → M D} {spos : Pos} (h : PE X e (dE c W f)) (hN : X.N[i]? = some x := by rfl) (hv : Vis X.env.scope x := by first | exact Or.inl rfl | exact Or.inr (Or.inl rfl)) (hd : (x == ("__debug__" : Str)) = false := by decide) (hcd : (x == ("__classdict__" : Str)) = false := by decide)
    (hst : starEach [e] X.env = (false, eval e X.env) :: starEach [] X.env := by rfl) (hline : (apos.endLine == cpos.line) = true := by rfl) (hs : swapsWith (.Call (.Attribute (.Name x p) "extend" apos) [e] [] cpos) none spos.line X.env = pure false := by rfl)
    (hfew : ((backTo cpos (starEach [e] X.env)).all (fun x => !x.1) && (backToKw cpos (keywordEach [] X.env)).all (fun x => x.1.isSome) && decide ([e].length + ([] : List Keyword).length + (if ([] : List Keyword).isEmpty then 0 else 1) < 30)) = true := by rfl)
    (hbase : attributeBase (.Name x p) "extend" X.env (eval (.Name x p) X.env) = eval (.Name x p) X.env := by rfl) (hplain : (backTo cpos (starEach [] X.env)).any (·.1) = false := by rfl) :
    PS X (.Expr (.Call (.Attribute (.Name x p) "extend" apos) [e] [] cpos) spos) (dS c W (extS i f)) := by
  refine ps_imp (ps_expr (pe_bm PySem.F.plainAttrs_list PySem.F.slot_list_extend PySem.F.type_list_extend mt_extend (pe_var (i := i) hN hv hd hcd) (pa_cons h pa_nil hst) hbase hfew hline hst hplain) hs) fun E σ H ⟨O, ρ, pt, r, h⟩ => ?_
  obtain ⟨ds, eo, h⟩ := Wg.opt (WO.bnd r h) r.pot
  replace eo := ownOf_eq eo
  obtain ⟨a, vs, m, ev, ha, rl⟩ := r.sl i _ eo
  refine ⟨_, ev, .inl ⟨rfl, vs, .inl (.inl ha)⟩, O, ρ, pt, r, (WO.bnd r h).imp fun d p1 H1 _ s1 q v rv => ?_⟩
  have r1 := r.stp s1
  obtain ⟨a', vs, m', ev', ha, rl⟩ := r1.sl i _ eo
  rw [ev] at ev'
  cases ev'
  obtain ⟨es, ee, q⟩ := Wg.opt (WO.bnd r1 q) r1.pot
  cases d with
  | lst gs =>
    cases ee
    simp only [Cy.R, R] at rv
    obtain ⟨b, us, rfl, hb, rn⟩ := rv
    obtain ⟨hz, q⟩ := grow_ok r1 eo m' ev ha rl rn q
    exact ⟨a, b, vs, us, rfl, rfl, ha, (Hd.sees hb).2.1, Nat.le_trans hz (by decide), q⟩
  | _ => cases ee
end
end DF

set_option Elab.async false
set_option linter.all false
set_option maxRecDepth 100000
set_option maxHeartbeats 4000000
namespace DF
open PySem L2
section
variable {gu : Prop} {X : Cx} {c : Cy} {W : WX} {σ : L2.St} {H H1 H' : Hp} {O : List (Nat × Addr)} {ρ : Slots} {pt pt' : Pot} {e e2 iter tg elt a b o : Expr} {p pos apos cpos : Pos} {k n kc nC : Nat} {f C : Addr} {fd : FuncData} {ps : List Str} {fm : List D → M D}
/-! ### texts -/
def strsOf : List D → Option (List Str)
  | [] => some []
  | .str x :: ds => (strsOf ds).map (x :: ·)
  | _ => none
theorem strs_rl {K : PySem.W.Frag} {T : Tb} {p : Addr} : ∀ {ds : List D} {ys : List Str} {vs : List V}, strsOf ds = some ys → RL K T p H ds vs → vs = ys.map V.str
  | [], ys, vs, e, h => by
    cases e
    simpa [RL] using h
  | d :: ds, ys, vs, e, h => by
    simp only [RL] at h
    obtain ⟨v, ws, rfl, r, rl⟩ := h
    cases d with
    | str x =>
      simp only [strsOf] at e
      cases e1 : strsOf ds with
      | none => rw [e1] at e; cases e
      | some zs =>
        rw [e1] at e
        cases e
        rw [strs_rl e1 rl]
        simp only [R] at r
        rw [r]
        rfl
    | _ => simp [strsOf] at e
def strOf1 : D → Option Str
  | .str x => some x
  | _ => none
theorem strOf1_eq {d : D} {x : Str} (h : strOf1 d = some x) : d = .str x := by
  unfold strOf1 at h
  split at h
  · cases h; rfl
  · cases h
def joinF (a : Str) (y : D) : Option D := (seqOf [y]).bind fun ds => (strsOf ds).bind fun ys => if (ys.map (·.length)).sum + ys.length * a.length ≤ 1000000 then some (.str (Txt.join a ys)) else none
def joinE (fa fb : Slots → M D) : Slots → M D := fun ρ => bnd (fa ρ) fun x => bnd (opt (strOf1 x)) fun a => bnd (fb ρ) fun y => opt (joinF a y)
theorem de_join {fa fb : Slots → M D} (ha : PE X o (dB c W fa)) (hb : PE X e (dB c W fb)) (hK : c.K = X.K := by rfl) (hs : starEach [e] X.env = [(false, eval e X.env)] := by rfl) (hbase : attributeBase o "join" X.env (eval o X.env) = eval o X.env := by rfl) (hline : (apos.endLine == pos.line) = true := by rfl) :
    PE X (.Call (.Attribute o "join" apos) [e] [] pos) (dE c W (joinE fa fb)) := by
  refine pe_imp (pe_join ha hb hs hbase hline) fun σ H Q ⟨O, ρ, pt, rs, q⟩ => ⟨O, ρ, pt, rs, ?_⟩
  refine (Wg.bnd q).imp fun x p1 H1 ex s1 q v rv => ?_
  have rs1 := rs.stp s1
  obtain ⟨z, ez, q⟩ := Wg.opt (Wg.bnd q) s1.pot
  rw [strOf1_eq ez] at rv
  rw [rv.str]
  refine ⟨⟨z, rfl⟩, O, ρ, p1, rs1, (Wg.bnd q).imp fun y p2 H2 _ s2 q w rw => ?_⟩
  obtain ⟨d, ed, q⟩ := Wg.opt q s2.pot
  unfold joinF at ed
  cases es : seqOf [y] with
  | none => rw [es] at ed; cases ed
  | some ds =>
    rw [es] at ed
    simp only [Option.bind_some] at ed
    cases et : strsOf ds with
    | none => rw [et] at ed; cases ed
    | some ys =>
      rw [et] at ed
      simp only [Option.bind_some] at ed
      split at ed
      · rename_i hz
        cases ed
        obtain ⟨a, ws, e1, rl, h⟩ := seq_of (c := c) (O := O) (H := H2) (xs := [y]) (vs := [w]) ⟨w, [], rfl, rw, rfl⟩ es
        have ew := strs_rl et rl
        subst ew
        cases e1
        rw [hK] at h
        exact ⟨z, a, ys, rfl, rfl, h.imp id (·.1), Nat.le_trans hz (by decide), q _ (by simp [Cy.R, R])⟩
      · cases ed
/-! ### f-strings -/
def fmtF : D → Option D
  | .str y => if y.length ≤ 1000000 then some (.str y) else none
  | .int i => if i.natAbs.log2 < 1920 then some (.str (toString i)) else none
  | _ => none
def fmtRF : D → Option D
  | .str y => if (reprText y).length ≤ 1000000 then some (.str (reprText y)) else none
  | .int i => if i.natAbs.log2 < 1920 then some (.str (toString i)) else none
  | _ => none
def oneE (g : D → Option D) (f : Slots → M D) : Slots → M D := fun ρ => bnd (f ρ) fun d => opt (g d)
theorem de_fmt {g : Slots → M D} (h : PE X e (dE c W g)) : PE X (.FormattedValue e (-1) none pos) (dE c W (oneE fmtF g)) := by
  refine pe_imp (pe_fmt h) fun σ H Q ⟨O, ρ, pt, rs, q⟩ => ⟨O, ρ, pt, rs, (Wg.bnd q).imp fun d p1 H1 _ s1 q v rv => ?_⟩
  obtain ⟨z, ez, q⟩ := Wg.opt q s1.pot
  unfold fmtF at ez
  split at ez
  · split at ez
    · rename_i hz
      cases ez
      simp only [Cy.R, R] at rv
      exact .inl ⟨_, rv, Nat.le_trans hz (by decide), q _ (by simp [Cy.R, R])⟩
    · cases ez
  · split at ez
    · rename_i hz
      cases ez
      simp only [Cy.R, R] at rv
      exact .inr ⟨_, rv, hz, q _ (by simp [Cy.R, R])⟩
    · cases ez
  · cases ez
theorem de_fmtR {g : Slots → M D} (h : PE X e (dE c W g)) : PE X (.FormattedValue e 114 none pos) (dE c W (oneE fmtRF g)) := by
  refine pe_imp (pe_fmtR h) fun σ H Q ⟨O, ρ, pt, rs, q⟩ => ⟨O, ρ, pt, rs, (Wg.bnd q).imp fun d p1 H1 _ s1 q v rv => ?_⟩
  obtain ⟨z, ez, q⟩ := Wg.opt q s1.pot
  unfold fmtRF at ez
  split at ez
  · split at ez
    · rename_i hz
      cases ez
      simp only [Cy.R, R] at rv
      exact .inl ⟨_, rv, Nat.le_trans hz (by decide), q _ (by simp [Cy.R, R])⟩
    · cases ez
  · split at ez
    · rename_i hz
      cases ez
      simp only [Cy.R, R] at rv
      exact .inr ⟨_, rv, hz, q _ (by simp [Cy.R, R])⟩
    · cases ez
  · cases ez
def glueE : List (Slots → M D) → Str → Slots → M D
  | [], acc, _ => ret (.str acc)
  | f :: fs, acc, ρ => bnd (f ρ) fun d => bnd (opt (strOf1 d)) fun y => if (acc ++ y).length ≤ 1000000 then glueE fs (acc ++ y) ρ else fail
theorem glue_use : ∀ {fs : List (Slots → M D)} {acc : Str} {H : Hp} {Q : VK}, dE c W (glueE fs acc) σ H Q → tJs (fs.map (dE c W)) acc σ H fun out H1 => Q (.str out) H1
  | [], acc, H, Q, ⟨O, ρ, pt, rs, q⟩ => Wg.here q rs.pot _ (by simp [Cy.R, R])
  | f :: fs, acc, H, Q, ⟨O, ρ, pt, rs, q⟩ => by
    refine ⟨O, ρ, pt, rs, (Wg.bnd q).imp fun d p1 H1 _ s1 q v rv => ?_⟩
    obtain ⟨y, ey, q⟩ := Wg.opt (Wg.bnd q) s1.pot
    rw [strOf1_eq ey] at rv
    simp only [Cy.R, R] at rv
    split at q
    · rename_i hz
      exact ⟨y, rv, Nat.le_trans hz (by decide), glue_use ⟨O, ρ, p1, rs.stp s1, q⟩⟩
    · exact q.elim
def joinedE (fs : List (Slots → M D)) : Slots → M D := glueE fs Str.empty
theorem de_joined {v1 v2 : Expr} {rest : List Expr} {fs : List (Slots → M D)} (h : PJ X (v1 :: v2 :: rest) (fs.map (dE c W))) : PE X (.JoinedStr (v1 :: v2 :: rest) pos) (dE c W (joinedE fs)) := pe_imp (pe_joined h) fun σ H Q q => glue_use q
theorem de_joined1 {g : Slots → M D} (h : PE X e (dE c W g)) : PE X (.JoinedStr [e] pos) (dE c W g) := pe_joined1 h
/-! ### all, any -/
def blsOf : List D → Option (List Bool)
  | [] => some []
  | .bl x :: ds => (blsOf ds).map (x :: ·)
  | _ => none
theorem bls_rl {K : PySem.W.Frag} {T : Tb} {p : Addr} : ∀ {ds : List D} {ys : List Bool} {vs : List V}, blsOf ds = some ys → RL K T p H ds vs → vs = ys.map V.bl
  | [], ys, vs, e, h => by
    cases e
    simpa [RL] using h
  | d :: ds, ys, vs, e, h => by
    simp only [RL] at h
    obtain ⟨v, ws, rfl, r, rl⟩ := h
    cases d with
    | bl x =>
      simp only [blsOf] at e
      cases e1 : blsOf ds with
      | none => rw [e1] at e; cases e
      | some zs =>
        rw [e1] at e
        cases e
        rw [bls_rl e1 rl]
        simp only [R] at r
        rw [r]
        rfl
    | _ => simp [blsOf] at e
def lst1 : List D → Option (List D)
  | [.lst ds] => some ds
  | _ => none
theorem lst1_rl {xs ds : List D} {vs : List V} (rx : RBL c O H xs vs) (e : lst1 xs = some ds) : ∃ a ws, vs = [.ref a] ∧ c.RL (Hd (hid c O) H) ds ws ∧ SqL c.K H a ws := by
  unfold lst1 at e
  split at e
  · cases e
    obtain ⟨v, rfl, h⟩ := rx.one
    obtain ⟨a, vs, rfl, ha, rl⟩ := h.lst
    exact ⟨a, vs, rfl, rl, .inl (.inl ha)⟩
  · cases e
def allF (xs : List D) : Option D := (lst1 xs).bind fun ds => (blsOf ds).map fun bs => .bl (bs.all id)
def anyF (xs : List D) : Option D := (lst1 xs).bind fun ds => (blsOf ds).map fun bs => .bl (bs.any id)
theorem cd_all (hc : X.calm = true) (hK : c.K = X.K := by rfl) : CallD X c W (.builtin "all") (pu1 allF) := cd_pu (cr_all hc) fun O H xs z vs Q rx e q => by
  unfold allF at e
  cases e1 : lst1 xs with
  | none => rw [e1] at e; cases e
  | some ds =>
    rw [e1] at e
    simp only [Option.bind_some] at e
    cases e2 : blsOf ds with
    | none => rw [e2] at e; cases e
    | some bs =>
      rw [e2] at e
      cases e
      obtain ⟨a, ws, rfl, rl, h⟩ := lst1_rl rx e1
      rw [bls_rl e2 rl, hK] at h
      exact ⟨a, bs, rfl, h, q _ (by simp [Cy.R, R])⟩
theorem cd_any (hc : X.calm = true) (hK : c.K = X.K := by rfl) : CallD X c W (.builtin "any") (pu1 anyF) := cd_pu (cr_any hc) fun O H xs z vs Q rx e q => by
  unfold anyF at e
  cases e1 : lst1 xs with
  | none => rw [e1] at e; cases e
  | some ds =>
    rw [e1] at e
    simp only [Option.bind_some] at e
    cases e2 : blsOf ds with
    | none => rw [e2] at e; cases e
    | some bs =>
      rw [e2] at e
      cases e
      obtain ⟨a, ws, rfl, rl, h⟩ := lst1_rl rx e1
      rw [bls_rl e2 rl, hK] at h
      exact ⟨a, bs, rfl, h, q _ (by simp [Cy.R, R])⟩
/-! ### repr and str -/
def reprF : List D → Option D
  | [.str y] => if (reprText y).length ≤ 1000000 then some (.str (reprText y)) else none
  | [.int i] => if i.natAbs.log2 < 1920 then some (.str (toString i)) else none
  | [.bl b] => some (.str (if b then "True" else "False"))
  | [.non] => some (.str "None")
  | _ => none
def rRepr : List V → Hp → VK → Prop := fun vs H Q => (∃ y : Str, vs = [.str y] ∧ (reprText y).length ≤ 1000000 ∧ Q (.str (reprText y)) H) ∨ (∃ i : Int, vs = [.int i] ∧ i.natAbs.log2 < 1920 ∧ Q (.str (toString i)) H) ∨
  (∃ b : Bool, vs = [.bl b] ∧ Q (.str (if b then "True" else "False")) H) ∨ (vs = [.non] ∧ Q (.str "None") H)
theorem cr_repr : CallR X (.builtin "repr") rRepr := by
  intro pins s σ H vs us Q I r h
  rcases h with ⟨y, rfl, hz, q⟩ | ⟨i, rfl, hz, q⟩ | ⟨b, rfl, q⟩ | ⟨rfl, q⟩
  · obtain ⟨u, rfl, ru⟩ := r.one
    obtain ⟨t, rfl⟩ := ru
    exact P.repr_of_str ⟨.str _, H, I.tok _, ⟨_, rfl⟩, q⟩ (Nat.le_trans hz (by decide))
  · obtain ⟨u, rfl, ru⟩ := r.one
    obtain ⟨t, rfl⟩ := ru
    exact P.repr_of_int hz ⟨.str _, H, I.tok _, ⟨_, rfl⟩, q⟩
  · obtain ⟨u, rfl, ru⟩ := r.one
    cases ru
    refine P.repr_of_bool ⟨.str _, H, I.tok _, ⟨_, rfl⟩, q⟩
  · obtain ⟨u, rfl, ru⟩ := r.one
    cases ru
    exact P.repr_of_none ⟨.str _, H, I.tok _, ⟨_, rfl⟩, q⟩
theorem cd_repr : CallD X c W (.builtin "repr") (pu1 reprF) := cd_pu cr_repr fun O H xs z vs Q rx e q => by
  unfold reprF at e
  split at e
  · split at e
    · rename_i hz
      cases e
      obtain ⟨v, rfl, h⟩ := rx.one
      rw [h.str]
      exact .inl ⟨_, rfl, hz, q _ (by simp [Cy.R, R])⟩
    · cases e
  · split at e
    · rename_i hz
      cases e
      obtain ⟨v, rfl, h⟩ := rx.one
      rw [h.int]
      exact .inr (.inl ⟨_, rfl, hz, q _ (by simp [Cy.R, R])⟩)
    · cases e
  · cases e
    obtain ⟨v, rfl, h⟩ := rx.one
    rw [h.bl]
    exact .inr (.inr (.inl ⟨_, rfl, q _ (by simp [Cy.R, R])⟩))
  · cases e
    obtain ⟨v, rfl, h⟩ := rx.one
    rw [h.non]
    exact .inr (.inr (.inr ⟨rfl, q _ (by simp [Cy.R, R])⟩))
  · cases e
/-- repr or str by an own method -/
def txM (kc : Nat) (fm : List D → M D) : List D → M D
  | [.obj j fs] => if j = kc then bnd (fm [.obj j fs]) fun d => bnd (opt (strOf1 d)) fun y => ret (.str y) else fail
  | _ => fail
def rTx (X : Cx) (c : Cy) (W : WX) (fm : List D → M D) (C : Addr) : L2.St → List V → Hp → VK → Prop := fun σ vs H Q => ∃ a dx fs, vs = [.ref a] ∧ H a = some (.ins C dx fs) ∧ spF c.K c.T 1 fm [.ref a] H (fun z H' => ∃ y, z = .str y ∧ Q z H') (WE W σ)
theorem tx_use (hC : c.T.cls kc = C) {xs : List D} {vs : List V} {Q : VK} (rs : RS c O ρ σ H pt) (rx : RBL c O H xs vs) (q : Wg c W σ H (fun d _ H' => ∀ v, c.R (Hd (hid c O) H') d v → Q v H') (txM kc fm xs pt)) : rTx X c W fm C σ vs H Q := by
  unfold txM at q
  split at q
  · rename_i j gs
    split at q
    · rename_i hj
      subst hj
      obtain ⟨v, rfl, h⟩ := rx.one
      have h' : c.R (Hd (hid c O) H) (.obj j gs) v := by
        rcases h with h | ⟨_, _, _, _, e, _⟩ | ⟨_, _, _, _, e, _⟩
        · exact h
        · cases e
        · cases e
      have sp := spF_of (Q := fun z H' => ∃ y, z = .str y ∧ Q z H') rs (RL.one h') rfl ((Wg.bnd q).imp fun d p1 H1 _ s1 q v rv => by
        obtain ⟨y, ey, q⟩ := Wg.opt (Wg.bnd q) s1.pot
        rw [strOf1_eq ey] at rv
        simp only [Cy.R, R] at rv
        subst rv
        exact ⟨y, rfl, Wg.here q s1.pot _ (by simp [Cy.R, R])⟩)
      simp only [Cy.R, R] at h'
      obtain ⟨a, dx, ws, rfl, ha, _, rl⟩ := h'
      exact ⟨a, dx, _, rfl, by rw [← hC]; exact Hd.le _ _ ha, sp⟩
    · exact q.elim
  · exact q.elim
theorem strBack {pins : List (Addr × Obj)} {Q : VK} {v : Value} {s : Shared} (h : EP X pins σ (fun z H' => ∃ y, z = .str y ∧ Q z H') v s) : PySem.W.StrBack (EP X pins σ Q) v s := by
  obtain ⟨z, H', I', rz, y, rfl, q⟩ := h
  obtain ⟨t, rfl⟩ := rz
  exact ⟨.str y, H', I', ⟨t, rfl⟩, q⟩
theorem cd_reprO (hC : c.T.cls kc = C) (hs : PySem.W.findIn X.K (.ref C) "__repr__" = some (some (.ref f))) (hf : PySem.W.isFn X.K (.ref f) = true)
    (F : FnG gu X.prog X.w X.K X.mg X.base (L2.CX X.prog X.w) k f fd ps (spF c.K c.T 1 fm)) (hr : Rm gu (k + 1) X.A) (hb : Binds X.K fd ps []) (tk : Takes X W) : CallD X c W (.builtin "repr") (txM kc fm) := by
  refine ⟨rTx X c W fm C, fun pins s σ H xs us Q I r q => ?_, fun σ O ρ pt H Q xs vs rs rx q => tx_use hC rs rx q⟩
  obtain ⟨a, dx, fs, rfl, ha, sp⟩ := q
  obtain ⟨u, rfl, ru⟩ := r.one
  cases ru
  obtain ⟨ox, od, J⟩ := inst_at I ha
  obtain ⟨m, hF⟩ := I.fr
  refine PySem.W.repr_K hr.in1.units0 hF I.ok.mod.kin J hs hf ?_
  exact wpAny_mono (runSub (E := WE W) F hr.in1 rfl hb (passAt tk σ) I (vs := [.ref a]) (.cons (show RelV (.ref a) (.ref a) from rfl) .nil) sp) (fun r s' h => strBack h) fun _ _ z => z
theorem cd_strO (hC : c.T.cls kc = C) (hs : PySem.W.findIn X.K (.ref C) "__str__" = some (some (.ref f))) (hf : PySem.W.isFn X.K (.ref f) = true)
    (F : FnG gu X.prog X.w X.K X.mg X.base (L2.CX X.prog X.w) k f fd ps (spF c.K c.T 1 fm)) (hr : Rm gu (k + 2) X.A) (hb : Binds X.K fd ps []) (tk : Takes X W) : CallD X c W (.type "str") (txM kc fm) := by
  refine ⟨rTx X c W fm C, fun pins s σ H xs us Q I r q => ?_, fun σ O ρ pt H Q xs vs rs rx q => tx_use hC rs rx q⟩
  obtain ⟨a, dx, fs, rfl, ha, sp⟩ := q
  obtain ⟨u, rfl, ru⟩ := r.one
  cases ru
  obtain ⟨ox, od, J⟩ := inst_at I ha
  refine PySem.W.kso_call hr.in1.in1.units0 I.kIn J hs hf ?_
  exact wpAny_mono (runSub (E := WE W) F hr.in1.in1 rfl hb (passAt tk σ) I (vs := [.ref a]) (.cons (show RelV (.ref a) (.ref a) from rfl) .nil) sp) (fun r s' h => strBack h) fun _ _ z => z
/-! ### several names at once -/
theorem pg_or {t t' : TG} (h : PG X tg t) (h' : PG X tg t') : PG X tg (fun v σ H Q => t v σ H Q ∨ t' v σ H Q) := ⟨fun pins s σ H v u Q I r q => q.elim (h.run pins s σ H v u Q I r) (h'.run pins s σ H v u Q I r)⟩
def tgL (ts : List (D → Slots → Option Slots)) : D → Slots → Option Slots := fun d ρ => match d with
  | .tup ds => tgs ts ds ρ
  | .lst ds => tgs ts ds ρ
  | _ => none
theorem dg_seq {es : List Expr} {kk : Nat} {vs : List Nat} {ts : List (D → Slots → Option Slots)} (hc : X.calm = true) (h : PGs X es (dGs c vs ts)) (hn : (assignEach es X.env).length = ts.length := by rfl) (hst : (assignEach es X.env).findIdx? (·.1) = none := by rfl) (hK : c.K = X.K := by rfl) :
    PG X (.Tuple es kk pos) (dG c vs (tgL ts)) := by
  refine pg_imp (pg_or (pg_tup hc h hn hst) (pg_lst hc h hn hst)) fun v σ H Q ⟨O, ρ, pt, d, ρ', rs, rv, e, q⟩ => ?_
  cases d with
  | tup ds =>
    simp only [Cy.R, R] at rv
    obtain ⟨a, xs, rfl, ha, rl⟩ := rv
    have le := tgs_len (ts := ts) e
    exact .inl ⟨a, xs, rfl, by rw [← hK]; exact Hd.le.sqt ha, by rw [← RL.len rl]; exact le, O, ρ, pt, ds, ρ', rs, rl, e, q⟩
  | lst ds =>
    simp only [Cy.R, R] at rv
    obtain ⟨a, xs, rfl, ha, rl⟩ := rv
    have le := tgs_len (ts := ts) e
    exact .inr ⟨a, xs, rfl, .inl (.inl (Hd.le _ _ ha)), by rw [← RL.len rl]; exact le, O, ρ, pt, ds, ρ', rs, rl, e, q⟩
  | _ => simp [tgL] at e
def unpS (tgf : D → Slots → Option Slots) (f : Slots → M D) : Slots → M Out := fun ρ => bnd (f ρ) fun d => bnd (opt (tgf d ρ)) fun ρ' => ret (.nx ρ')
theorem ds_unp {vs : List Nat} {tgf : D → Slots → Option Slots} {g : Slots → M D} (h : PE X e (dE c W g)) (hg : PG X tg (dG c vs tgf)) (hs : swapsWithSole [tg] e pos.line X.env = pure false := by rfl) (hw : swappedStores [tg] e X.env = pure none := by rfl)
    (h1 : (assignEach [tg] X.env).map (·.2) = [assign tg X.env] := by rfl) : PS X (.Assign [tg] e pos) (dS c W (unpS tgf g)) := by
  refine ps_imp (ps_asg h hg hs hw h1) fun E σ H ⟨O, ρ, pt, r, h⟩ => ⟨O, ρ, pt, r, (WO.bnd r h).imp fun d p1 H1 _ s1 q v rv => ?_⟩
  have r1 := r.stp s1
  obtain ⟨ρ', e, q⟩ := Wg.opt (WO.bnd r1 q) r1.pot
  exact ⟨O, ρ, p1, d, ρ', r1, rv, e, fun O' σ' rs' mv _ _ => q O' σ' H1 rs' mv⟩
def parS (i j : Nat) (fa : Slots → M (List D)) : Slots → M Out := fun ρ => bnd (fa ρ) fun ds => bnd (opt (tgs [tgN i, tgN j] ds ρ)) fun ρ' => ret (.nx ρ')
def par3S (i j l : Nat) (fa : Slots → M (List D)) : Slots → M Out := fun ρ => bnd (fa ρ) fun ds => bnd (opt (tgs [tgN i, tgN j, tgN l] ds ρ)) fun ρ' => ret (.nx ρ')
theorem tgs1 {t : D → Slots → Option Slots} {ts : List (D → Slots → Option Slots)} {ds : List D} {ρ' : Slots} (e : tgs (t :: ts) ds ρ = some ρ') : ∃ d es ρ1, ds = d :: es ∧ t d ρ = some ρ1 ∧ tgs ts es ρ1 = some ρ' := by
  cases ds with
  | nil => simp [tgs] at e
  | cons d ds =>
    simp only [tgs] at e
    cases e1 : t d ρ with
    | none => rw [e1] at e; cases e
    | some ρ1 =>
      rw [e1] at e
      exact ⟨d, ds, ρ1, rfl, e1, e⟩
theorem tgs0 {ds : List D} {ρ' : Slots} (e : tgs [] ds ρ = some ρ') : ds = [] ∧ ρ = ρ' := by
  cases ds with
  | nil => simp only [tgs] at e; cases e; exact ⟨rfl, rfl⟩
  | cons d ds => simp [tgs] at e
theorem tgN1 {i : Nat} {d : D} {v : V} {ρ1 : Slots} (r : RS c O ρ σ H pt) (rv : c.R (Hd (hid c O) H) d v) (e : tgN i d ρ = some ρ1) : ∃ O1, RS c O1 ρ1 (σ.set i (some v)) H pt ∧ Mv c O H O1 H := by
  unfold tgN at e
  split at e
  · rename_i hl
    cases e
    exact ⟨_, r.put i (by rw [← r.len]; exact hl) rv, Mv.fewer⟩
  · cases e
theorem ds_par {i j : Nat} {x y : Str} {fa : Slots → M (List D)} {px py pt0 : Pos} {kt k2 pt2} (hc : X.calm = true) (hN : X.N.Nodup) (ha : PA X [a, b] (dA c W fa)) (hi : X.N[i]? = some x := by rfl) (hj : X.N[j]? = some y := by rfl) (hij : i ≠ j := by decide)
    (hx : X.env.scope.names.lookup x = some .local := by rfl) (hy : X.env.scope.names.lookup y = some .local := by rfl)
    (hw : swappedStores [.Tuple [.Name x px, .Name y py] kt pt0] (.Tuple [a, b] k2 pt2) X.env = pure (some [x, y]) := by rfl)
    (hs : swapsWithSole [.Tuple [.Name x px, .Name y py] kt pt0] (.Tuple [a, b] k2 pt2) pos.line X.env = pure false := by rfl) :
    PS X (.Assign [.Tuple [.Name x px, .Name y py] kt pt0] (.Tuple [a, b] k2 pt2) pos) (dS c W (parS i j fa)) := by
  refine ps_imp (ps_par hc hN hi hj hij hx hy ha hw hs) fun E σ H ⟨O, ρ, pt, r, h⟩ => ⟨O, ρ, pt, r, (WO.bnd r h).imp fun ds p1 H1 _ s1 q vs rl => ?_⟩
  have r1 := r.stp s1
  obtain ⟨ρ', e, q⟩ := Wg.opt (WO.bnd r1 q) r1.pot
  obtain ⟨d1, es, ρ1, rfl, e1, e⟩ := tgs1 e
  obtain ⟨d2, es, ρ2, rfl, e2, e⟩ := tgs1 e
  obtain ⟨rfl, rfl⟩ := tgs0 e
  simp only [Cy.RL, RL] at rl
  obtain ⟨v1, _, rfl, rv1, v2, _, rfl, rv2, rfl⟩ := rl
  obtain ⟨O1, q1, m1⟩ := tgN1 r1 rv1 e1
  obtain ⟨O2, q2, m2⟩ := tgN1 q1 (R.gr m1.gr rv2) e2
  exact ⟨v1, v2, rfl, q _ _ _ q2 (m1.trans m2)⟩
theorem ds_par3 {i j l : Nat} {x y z : Str} {a3 : Expr} {fa : Slots → M (List D)} {px py pz pt0 : Pos} {kt k2 pt2} (hc : X.calm = true) (hN : X.N.Nodup) (ha : PA X [a, b, a3] (dA c W fa)) (hi : X.N[i]? = some x := by rfl) (hj : X.N[j]? = some y := by rfl) (hl : X.N[l]? = some z := by rfl) (hij : i ≠ j := by decide) (hil : i ≠ l := by decide) (hjl : j ≠ l := by decide)
    (hx : X.env.scope.names.lookup x = some .local := by rfl) (hy : X.env.scope.names.lookup y = some .local := by rfl) (hz : X.env.scope.names.lookup z = some .local := by rfl)
    (hw : swappedStores [.Tuple [.Name x px, .Name y py, .Name z pz] kt pt0] (.Tuple [a, b, a3] k2 pt2) X.env = pure (some [x, y, z]) := by rfl)
    (hs : swapsWithSole [.Tuple [.Name x px, .Name y py, .Name z pz] kt pt0] (.Tuple [a, b, a3] k2 pt2) pos.line X.env = pure false := by rfl) :
    PS X (.Assign [.Tuple [.Name x px, .Name y py, .Name z pz] kt pt0] (.Tuple [a, b, a3] k2 pt2) pos) (dS c W (par3S i j l fa)) := by
  refine ps_imp (ps_par3 hc hN hi hj hl hij hil hjl hx hy hz ha hw hs) fun E σ H ⟨O, ρ, pt, r, h⟩ => ⟨O, ρ, pt, r, (WO.bnd r h).imp fun ds p1 H1 _ s1 q vs rl => ?_⟩
  have r1 := r.stp s1
  obtain ⟨ρ', e, q⟩ := Wg.opt (WO.bnd r1 q) r1.pot
  obtain ⟨d1, es, ρ1, rfl, e1, e⟩ := tgs1 e
  obtain ⟨d2, es, ρ2, rfl, e2, e⟩ := tgs1 e
  obtain ⟨d3, es, ρ3, rfl, e3, e⟩ := tgs1 e
  obtain ⟨rfl, rfl⟩ := tgs0 e
  simp only [Cy.RL, RL] at rl
  obtain ⟨v1, _, rfl, rv1, v2, _, rfl, rv2, v3, _, rfl, rv3, rfl⟩ := rl
  obtain ⟨O1, q1, m1⟩ := tgN1 r1 rv1 e1
  obtain ⟨O2, q2, m2⟩ := tgN1 q1 (R.gr m1.gr rv2) e2
  obtain ⟨O3, q3, m3⟩ := tgN1 q2 (R.gr (m1.trans m2).gr rv3) e3
  exact ⟨v1, v2, v3, rfl, q _ _ _ q3 ((m1.trans m2).trans m3)⟩
end
end DF

set_option Elab.async false
set_option linter.all false
set_option maxRecDepth 100000
set_option maxHeartbeats 4000000
namespace DF
open PySem L2
/-! ### the pot: a list of two ints that the law draws from -/
section
variable {X : Cx} {c : Cy} {W : WX} {σ : L2.St} {H H1 H' : Hp} {O : List (Nat × Addr)} {ρ : Slots} {pt pt' : Pot} {e a b o : Expr} {p p2 p3 pos apos cpos : Pos}
def isPot : Option (Option SV) → Bool
  | some (some (.val .pot)) => true
  | _ => false
theorem isPot_eq {x : Option (Option SV)} (h : isPot x = true) : x = some (some (.val .pot)) := by
  unfold isPot at h
  split at h
  · rfl
  · cases h
def setP (pt : Pot) (ρ : Slots) : M Out := fun _ => .ok (.nx ρ) pt
def intOf : D → Option Int
  | .int i => some i
  | _ => none
theorem intOf_eq {d : D} {i : Int} (h : intOf d = some i) : d = .int i := by
  unfold intOf at h
  split at h
  · cases h; rfl
  · cases h
def potS (i : Nat) (f : Slots → M D) : Slots → M Out := fun ρ => bnd (f ρ) fun d => bnd (opt (intOf d)) fun q => if isPot ρ[i]? then (fun pt => setP (pt.1, q) ρ pt) else fail
theorem pot_stp {q pt : Pot} (h : Pots c.T.tb c.p H pt) : Stp c.T.tb c.p H (upd H c.p (potO q)) q := ⟨fun a o n h _ => by rw [upd_ne n]; exact h, h.put⟩
theorem ds_pot {i j : Nat} {x : Str} {f : Slots → M D} (h : PE X e (dE c W f)) (hN : X.N[i]? = some x := by rfl) (hv : Vis X.env.scope x := by first | exact Or.inl rfl | exact Or.inr (Or.inl rfl)) (hd : (x == ("__debug__" : Str)) = false := by decide) (hcd : (x == ("__classdict__" : Str)) = false := by decide)
    (ha : ∀ v, assign (.Subscript (.Name x p) (.Constant (.int 1) j p2) p3) X.env v = (do
      let ov ← holding [v] (eval (.Name x p) X.env)
      let iv ← holding [v, ov] (eval (.Constant (.int 1) j p2) X.env)
      standAt p3
      holding [v, ov, iv] (setItem ov iv v)
      release [v, ov, iv] []) := by intro _; rfl)
    (hs : swapsWithSole [.Subscript (.Name x p) (.Constant (.int 1) j p2) p3] e pos.line X.env = pure false := by rfl) (hw : swappedStores [.Subscript (.Name x p) (.Constant (.int 1) j p2) p3] e X.env = pure none := by rfl)
    (h1 : (assignEach [.Subscript (.Name x p) (.Constant (.int 1) j p2) p3] X.env).map (·.2) = [assign (.Subscript (.Name x p) (.Constant (.int 1) j p2) p3) X.env] := by rfl) :
    PS X (.Assign [.Subscript (.Name x p) (.Constant (.int 1) j p2) p3] e pos) (dS c W (potS i f)) := by
  refine ps_imp (ps_asg h (pg_sub (pe_var (i := i) hN hv hd hcd) pe_int set_list ha) hs hw h1) fun E σ H ⟨O, ρ, pt, r, h⟩ => ⟨O, ρ, pt, r, (WO.bnd r h).imp fun d p1 H1 _ s1 q v rv => ?_⟩
  have r1 := r.stp s1
  obtain ⟨z, ez, q⟩ := Wg.opt (WO.bnd r1 q) r1.pot
  rw [intOf_eq ez] at rv
  simp only [Cy.R, R] at rv
  subst rv
  split at q
  · rename_i hp
    obtain ⟨v, ev, rv⟩ := r1.sl i _ (isPot_eq hp)
    simp only [Cy.R, R] at rv
    subst rv
    refine ⟨_, ev, c.p, _, 1, 1, rfl, rfl, s1.pot.at_, rfl, ?_⟩
    exact q _ _ _ (r1.stp (pot_stp r1.pot (q := (p1.1, z)))) ((pot_stp (c := c) r1.pot (q := (p1.1, z))).mv r.hp)
  · exact q.elim
def two : D → Option (Int × Int)
  | .tup [.int a, .int b] => some (a, b)
  | _ => none
theorem two_eq {d : D} {q : Int × Int} (h : two d = some q) : d = .tup [.int q.1, .int q.2] := by
  unfold two at h
  split at h
  · cases h; rfl
  · cases h
def potS2 (i j : Nat) (f : Slots → M D) : Slots → M Out := fun ρ => bnd (f ρ) fun d => bnd (opt (two d)) fun q => if isPot ρ[i]? && decide (j < ρ.length) then (fun pt => setP (q.1, pt.2) (ρ.set j (some (.val (.int q.2)))) pt) else fail
theorem ds_pot2 {i j k kk : Nat} {x y : Str} {f : Slots → M D} {py pt0 : Pos} (hc : X.calm = true) (hN : X.N.Nodup) (h : PE X e (dE c W f)) (hi : X.N[i]? = some x := by rfl) (hv : Vis X.env.scope x := by first | exact Or.inl rfl | exact Or.inr (Or.inl rfl)) (hd : (x == ("__debug__" : Str)) = false := by decide) (hcd : (x == ("__classdict__" : Str)) = false := by decide)
    (hj : X.N[j]? = some y := by rfl) (hy : Loc X.env.scope y := by first | exact Or.inl rfl | exact Or.inr rfl) (hf : X.fn y = true ∨ X.env.scope.names.lookup y = some .local := by first | exact .inl rfl | exact .inr rfl | assumption)
    (ha : ∀ v, assign (.Subscript (.Name x p) (.Constant (.int 0) k p2) p3) X.env v = (do
      let ov ← holding [v] (eval (.Name x p) X.env)
      let iv ← holding [v, ov] (eval (.Constant (.int 0) k p2) X.env)
      standAt p3
      holding [v, ov, iv] (setItem ov iv v)
      release [v, ov, iv] []) := by intro _; rfl)
    (hs : swapsWithSole [.Tuple [.Subscript (.Name x p) (.Constant (.int 0) k p2) p3, .Name y py] kk pt0] e pos.line X.env = pure false := by rfl) (hw : swappedStores [.Tuple [.Subscript (.Name x p) (.Constant (.int 0) k p2) p3, .Name y py] kk pt0] e X.env = pure none := by rfl)
    (h1 : (assignEach [.Tuple [.Subscript (.Name x p) (.Constant (.int 0) k p2) p3, .Name y py] kk pt0] X.env).map (·.2) = [assign (.Tuple [.Subscript (.Name x p) (.Constant (.int 0) k p2) p3, .Name y py] kk pt0) X.env] := by rfl)
    (h2 : (assignEach [.Subscript (.Name x p) (.Constant (.int 0) k p2) p3, .Name y py] X.env).map (·.2) = assign (.Subscript (.Name x p) (.Constant (.int 0) k p2) p3) X.env :: (assignEach [.Name y py] X.env).map (·.2) := by rfl)
    (h3 : (assignEach [.Name y py] X.env).map (·.2) = assign (.Name y py) X.env :: (assignEach [] X.env).map (·.2) := by rfl)
    (h4 : (assignEach [.Subscript (.Name x p) (.Constant (.int 0) k p2) p3, .Name y py] X.env).length = 2 := by rfl) (h5 : (assignEach [.Subscript (.Name x p) (.Constant (.int 0) k p2) p3, .Name y py] X.env).findIdx? (·.1) = none := by rfl) (hK : c.K = X.K := by rfl) :
    PS X (.Assign [.Tuple [.Subscript (.Name x p) (.Constant (.int 0) k p2) p3, .Name y py] kk pt0] e pos) (dS c W (potS2 i j f)) := by
  refine ps_imp (ps_asg h (pg_tup hc (pgs_cons (pg_sub (pe_var (i := i) hi hv hd hcd) pe_int set_list ha) (pgs_cons (pg_name (i := j) hN hj hy hf) pgs_nil h3) h2) h4 h5) hs hw h1) fun E σ H ⟨O, ρ, pt, r, h⟩ => ⟨O, ρ, pt, r, (WO.bnd r h).imp fun d p1 H1 _ s1 q v rv => ?_⟩
  have r1 := r.stp s1
  obtain ⟨z, ez, q⟩ := Wg.opt (WO.bnd r1 q) r1.pot
  rw [two_eq ez] at rv
  simp only [Cy.R, R, RL] at rv
  obtain ⟨ad, vs, rfl, sq, v1, _, rfl, rfl, v2, _, rfl, rfl, rfl⟩ := rv
  split at q
  · rename_i hp
    rw [Bool.and_eq_true] at hp
    obtain ⟨hp, hl⟩ := hp
    replace hl := of_decide_eq_true hl
    obtain ⟨v, ev, rv⟩ := r1.sl i _ (isPot_eq hp)
    simp only [Cy.R, R] at rv
    subst rv
    refine ⟨ad, _, rfl, by rw [← hK]; exact Hd.le.sqt sq, rfl, _, _, rfl, _, ev, c.p, _, 0, 0, rfl, rfl, s1.pot.at_, rfl, _, _, rfl, rfl, ?_⟩
    have r2 := r1.stp (pot_stp r1.pot (q := (z.1, p1.2)))
    have r3 := r2.put j (d := .int z.2) (v := .int z.2) (by rw [← r.len]; exact hl) (by simp [Cy.R, R])
    exact q _ _ _ r3 (((pot_stp (c := c) r1.pot (q := (z.1, p1.2))).mv r.hp).trans Mv.fewer)
  · exact q.elim
def dmF : List D → M D
  | [.int i, .int j] => if 0 < j ∧ j < 1073741824 then ret (.tup [.int (i / j), .int (i % j)]) else fail
  | _ => fail
theorem cd_divmod : CallD X c W (.builtin "divmod") dmF := ⟨_, calls_of call_divmod, fun σ O ρ pt H Q xs vs rs rx q => by
  unfold dmF at q
  split at q
  · split at q
    · rename_i hz
      obtain ⟨v, w, rfl, h, h'⟩ := rx.two
      rw [h.int, h'.int]
      refine ⟨_, _, rfl, hz, fun l hl => q _ (Stp.new rs.pot hl) _ (mk_tup rs hl ?_)⟩
      simp [Cy.R, Cy.RL, RL, R]
    · exact q.elim
  · exact q.elim⟩
end
end DF

set_option Elab.async false
set_option linter.all false
set_option maxRecDepth 100000
set_option maxHeartbeats 4000000
namespace DF
open PySem L2
/-! ### the text's facts, read off the heap behind the top -/
def fdAt (K : PySem.W.Frag) (a : Addr) : FuncData := match K.lookup a with
  | some ⟨_, _, .func fd, _⟩ => fd
  | _ => PySem.W.fnOf "" "" ⟨[], [], none, [], [], none, []⟩ [] ⟨.function, [], false, false, []⟩ .none .none .none .none none .none .none
theorem fdAt_eq {K : PySem.W.Frag} {x qual : Str} {pa : Arguments} {bd : List Stmt} {sc : Scope} {dvs : List V} {kws : List (Str × V)} {f : Addr} {fd : FuncData} (F : FunD K x qual pa bd sc dvs kws f fd) : fdAt K f = fd := by
  obtain ⟨oc, od, dV, kV, doc, pm, an, cdv, ct, osl, rfl, lk, _⟩ := F.ex
  unfold fdAt
  rw [lk]
abbrev Fct := PySem.W.Frag → Bool
def obsZ (oks : List Fct) (fn : List He5.DefA) (K : PySem.W.Frag) : He.AlD := ((oks.all fun f => f K) && fn.all fun d => d.ok K, fn.map fun d => He5.fnA K (d.at_ K))
def SaysZ (oks : List Fct) (fn : List He5.DefA) (K : PySem.W.Frag) : Prop := obsZ oks fn K = He5.valA fn
def obsZG (n : Nat) (oks : List Fct) (fn : List He5.DefA) (g : Addr → Option Obj) : He.AlD := obsZ oks fn (He.frG g (He5.asA g n))
def hookZ (n : Nat) (oks : List Fct) (fn : List He5.DefA) : PySem.W.Hook where
  α := He.AlD
  obs := fun s => obsZG n oks fn s.heap.get?
  val := fun _ => He5.valA fn
  says := fun _ h => ∃ K : PySem.W.Frag, K.In h ∧ SaysZ oks fn K
  of := fun _ _ e => ⟨_, He.frG_in, e⟩
  keeps := fun _ _ _ ⟨K, hK, c⟩ k => ⟨K, PySem.W.Frag.In.keeps hK k, c⟩
theorem obsZG_eq {n : Nat} {oks : List Fct} {fn : List He5.DefA} {g : Addr → Option Obj} {s : Shared} (h : ∀ a, g a = s.heap.get? a) : obsZG n oks fn g = (hookZ n oks fn).obs s := by
  have e : g = s.heap.get? := funext h
  rw [e] <;> rfl
section
variable {oks : List Fct} {fn : List He5.DefA} {K : PySem.W.Frag} {h : Heap} {mg : Str → Option Value}
theorem SaysZ.fact (c : SaysZ oks fn K) (i : Nat) {f : Fct} (h : oks[i]? = some f := by rfl) : f K = true := by
  have c1 := (He.ba (show ((oks.all fun f => f K) && fn.all fun d => d.ok K) = true from congrArg (fun z : He.AlD => z.1) c)).1
  exact List.all_eq_true.mp c1 f (List.mem_of_getElem? h)
theorem SaysZ.def_ (c : SaysZ oks fn K) (i : Nat) {d : He5.DefA} (h : fn[i]? = some d := by rfl) : FunD K d.name d.qual d.params d.body d.scope (d.dvs K) (d.kws K) (d.at_ K) (fdAt K (d.at_ K)) := by
  have c2 := (He.ba (show ((oks.all fun f => f K) && fn.all fun d => d.ok K) = true from congrArg (fun z : He.AlD => z.1) c)).2
  have e : fn.map (fun d => He5.fnA K (d.at_ K)) = fn.map He5.DefA.val := congrArg (fun z : He.AlD => z.2) c
  have e2 : (fn.map fun d => He5.fnA K (d.at_ K))[i]? = (fn.map He5.DefA.val)[i]? := by rw [e]
  rw [List.getElem?_map, List.getElem?_map, h] at e2
  obtain ⟨fd, F⟩ := He5.DefA.funD (Option.some.inj e2) (List.all_eq_true.mp c2 d (List.mem_of_getElem? h))
  rw [fdAt_eq F]
  exact F
/-- the text of a law: its facts, and the names of its module -/
structure Tx (oks : List Fct) (fn : List He5.DefA) (K : PySem.W.Frag) (mg : Str → Option Value) : Prop where
  c : SaysZ oks fn K
  g : ∃ h : Heap, K.In h ∧ h.Ns mainGlobals mg
/-! ### kinds of facts -/
def fGlo (x : Str) : Fct := fun K => (He.Fa.glo x).ok K
def fFree (x : Str) : Fct := fun K => (He.Fa.free x).ok K
def fCls (x : Str) : Fct := fun K => (He.Fa.cls x).ok K
def fNoat (x f : Str) : Fct := fun K => (He.Fa.noat x f).ok K
def fMeth (x m : Str) : Fct := fun K => (He.Fa.meth x m).ok K
def fMk (x : Str) : Fct := fun K => (He.Fa.mkr x).ok K
def fClsI (x : Str) : Fct := fun K => (He.Fa.cls x).ok K && (He.eqO (PySem.W.findIn K (.ref (He.ga K x)) "__class__") (some (some (.builtin "object.__class__"))) && (He.eqO (PySem.W.specialIn K (.builtin "object.__class__") "__get__") (some (some (.builtin "getset_descriptor.__get__"))) &&
  (decide (PySem.W.takesIn K (.builtin "object.__class__") = some true) && decide (PySem.W.mroIn K (He.ga K x) (.type "object") = some true))))
def fProp (x y : Str) : Fct := fun K => He.eqO (PySem.W.findIn K (.ref (He.ga K x)) y) (some (some (.ref (He.ma K (He.ga K x) y)))) && (He.eqO (PySem.W.specialIn K (.ref (He.ma K (He.ga K x) y)) "__get__") (some (some (.builtin "property.__get__"))) &&
  (decide (PySem.W.takesIn K (.ref (He.ma K (He.ga K x) y)) = some true) && (match PySem.W.recIn K (He.ma K (He.ga K x) y) "property" with
    | some (.ref _ :: _) => true
    | _ => false)))
def fCmp (x : Str) (cs : List Str) : Fct := fun K => (tagB.all fun n => decide (PySem.W.subIn K (.type n) (.ref (He.ga K x)) = some false)) && cs.all fun y => PySem.W.notFirst K (He.ga K x) (.ref (He.ga K y))
def fNe (x : Str) : Fct := fun K => He.eqO (PySem.W.findIn K (.ref (He.ga K x)) "__ne__") (some (some (.builtin "object.__ne__"))) && decide (PySem.W.subIn K (.ref (He.ga K x)) (.type "object") = some true)
def fBin (x : Str) (op : Operator) : Fct := fun K => PySem.W.selfFirst K (He.ga K x) && (He.eqO (PySem.W.findIn K (.ref (He.ga K x)) (dunderR op.info.2)) (some none) &&
  tagB.all fun n => (PySem.W.findIn K (.type n) (PySem.dunder op.info.2)).isSome && (PySem.W.findIn K (.type n) (dunderR op.info.2)).isSome)
def ansOf (ts : List String) (cs : List Bool) : Sum String Nat → Option Bool
  | .inl n => if n ∈ tagB then some (decide (n ∈ ts)) else none
  | .inr k => cs[k]?
def fIsi (u : PySem.W.Frag → Value) (ts : List String) (cs : List Str) (bs : List Bool) : Fct := fun K => (tagB.all fun n => decide (PySem.W.kitOne K (.type n) (u K) = some (decide (n ∈ ts)))) && (List.zip cs bs).all fun q => decide (PySem.W.kitOne K (.ref (He.ga K q.1)) (u K) = some q.2)
section
variable {x y f m : Str}
theorem Tx.glo (t : Tx oks fn K mg) (i : Nat) (h : oks[i]? = some (fGlo x) := by rfl) : mg x = some (.ref (He.ga K x)) := let ⟨_, X, G⟩ := t.g; He.glo_ok X G (t.c.fact i h)
theorem Tx.free (t : Tx oks fn K mg) (i : Nat) (h : oks[i]? = some (fFree x) := by rfl) : mg x = none := let ⟨_, X, G⟩ := t.g; He.free_ok X G (t.c.fact i h)
theorem Tx.cls (t : Tx oks fn K mg) (i : Nat) (h : oks[i]? = some (fCls x) := by rfl) : Cls K (He.ga K x) := He.cls_ok (t.c.fact i h)
theorem Tx.noat (t : Tx oks fn K mg) (i : Nat) (h : oks[i]? = some (fNoat x f) := by rfl) : NoAttr K (He.ga K x) f := He.noat_ok (t.c.fact i h)
theorem Tx.meth (t : Tx oks fn K mg) (i : Nat) (h : oks[i]? = some (fMeth x m) := by rfl) : Meth K (He.ga K x) m (He.ma K (He.ga K x) m) := He.meth_ok (t.c.fact i h)
theorem Tx.mk_ (t : Tx oks fn K mg) (i : Nat) (h : oks[i]? = some (fMk x) := by rfl) : Mk K (He.ga K x) (He.ma K (He.ga K x) "__init__") := He.mkr_ok (t.c.fact i h)
theorem Tx.clsI (t : Tx oks fn K mg) (i : Nat) (h : oks[i]? = some (fClsI x) := by rfl) : ClsI K (He.ga K x) := by
  have q := t.c.fact i h
  obtain ⟨q1, q⟩ := He.ba q
  obtain ⟨q2, q⟩ := He.ba q
  obtain ⟨q3, q⟩ := He.ba q
  obtain ⟨q4, q5⟩ := He.ba q
  exact ⟨He.cls_ok q1, He.eqO_ok q2, He.eqO_ok q3, of_decide_eq_true q4, of_decide_eq_true q5⟩
theorem Tx.prop (t : Tx oks fn K mg) (i : Nat) (h : oks[i]? = some (fProp x y) := by rfl) : PropOf K (He.ga K x) y (He.ma K (He.ga K x) y) (He5.wf K (He.ga K x) "property" y) := by
  have q := t.c.fact i h
  obtain ⟨q1, q⟩ := He.ba q
  obtain ⟨q2, q⟩ := He.ba q
  obtain ⟨q3, q4⟩ := He.ba q
  refine ⟨He.eqO_ok q1, He.eqO_ok q2, of_decide_eq_true q3, ?_⟩
  unfold He5.wf
  split at q4
  · rename_i f r e
    exact ⟨r, by rw [e]⟩
  · cases q4
theorem Tx.ne (t : Tx oks fn K mg) (i : Nat) (h : oks[i]? = some (fNe x) := by rfl) : PySem.W.findIn K (.ref (He.ga K x)) "__ne__" = some (some (.builtin "object.__ne__")) ∧ PySem.W.subIn K (.ref (He.ga K x)) (.type "object") = some true := by
  obtain ⟨q1, q2⟩ := He.ba (t.c.fact i h)
  exact ⟨He.eqO_ok q1, of_decide_eq_true q2⟩
theorem Tx.bin {op : Operator} (t : Tx oks fn K mg) (i : Nat) (h : oks[i]? = some (fBin x op) := by rfl) : PySem.W.selfFirst K (He.ga K x) = true ∧ PySem.W.findIn K (.ref (He.ga K x)) (dunderR op.info.2) = some none ∧
    ∀ n ∈ tagB, ∃ fo ro, PySem.W.findIn K (.type n) (PySem.dunder op.info.2) = some fo ∧ PySem.W.findIn K (.type n) (dunderR op.info.2) = some ro := by
  obtain ⟨q1, q⟩ := He.ba (t.c.fact i h)
  obtain ⟨q2, q⟩ := He.ba q
  refine ⟨q1, He.eqO_ok q2, fun n hn => ?_⟩
  obtain ⟨z1, z2⟩ := He.ba (List.all_eq_true.mp q n hn)
  obtain ⟨a, ea⟩ := Option.isSome_iff_exists.mp z1
  obtain ⟨b, eb⟩ := Option.isSome_iff_exists.mp z2
  exact ⟨a, b, ea, eb⟩
/-- the classes of the text by their numbers -/
abbrev Tab_ := PySem.W.Frag → Addr × Str
def tbOf (cs : List (Str × List Str)) (tf : List Tab_) (K : PySem.W.Frag) : Tb := { tb := tf.map fun f => f K, cls := fun k => He.ga K (cs.getD k ("", [])).1, names := fun k => (cs.getD k ("", [])).2, fn := fun _ => 0 }
theorem Tx.cmpI {X : Cx} {cs : List (Str × List Str)} {tf : List Tab_} (t : Tx oks fn X.K mg) (i : Nat) (h : oks[i]? = some (fCmp x (cs.map (·.1))) := by rfl) : CmpI X (tbOf cs tf X.K) cs.length (He.ga X.K x) := by
  obtain ⟨q1, q2⟩ := He.ba (t.c.fact i h)
  refine ⟨fun n hn => of_decide_eq_true (List.all_eq_true.mp q1 n hn), fun k hk => ?_⟩
  have e : (cs.getD k ("", [])) = cs[k] := by rw [List.getD_eq_getElem?_getD, List.getElem?_eq_getElem hk]; rfl
  show PySem.W.notFirst X.K (He.ga X.K x) (.ref (He.ga X.K (cs.getD k ("", [])).1)) = true
  rw [e]
  exact List.all_eq_true.mp q2 _ (List.mem_map.mpr ⟨_, List.getElem_mem hk, rfl⟩)
theorem Tx.isi {cs : List (Str × List Str)} {tf : List Tab_} {u : PySem.W.Frag → Value} {ts : List String} {bs : List Bool} (t : Tx oks fn K mg) (i : Nat) (hl : bs.length = cs.length) (h : oks[i]? = some (fIsi u ts (cs.map (·.1)) bs) := by rfl) :
    ∀ (s : Sum String Nat) b, ansOf ts bs s = some b → PySem.W.kitOne K (tagV (tbOf cs tf K) s) (u K) = some b := by
  obtain ⟨q1, q2⟩ := He.ba (t.c.fact i h)
  intro s b e
  cases s with
  | inl n =>
    simp only [ansOf] at e
    split at e
    · rename_i hn
      cases e
      exact of_decide_eq_true (List.all_eq_true.mp q1 n hn)
    · cases e
  | inr k =>
    simp only [ansOf] at e
    have hk : k < bs.length := (List.getElem?_eq_some_iff.mp e).1
    have hc : k < cs.length := by omega
    have e1 : (cs.getD k ("", [])) = cs[k] := by rw [List.getD_eq_getElem?_getD, List.getElem?_eq_getElem hc]; rfl
    show PySem.W.kitOne K (.ref (He.ga K (cs.getD k ("", [])).1)) (u K) = some b
    rw [e1]
    have mem : (cs[k].1, b) ∈ List.zip (cs.map (·.1)) bs := by
      refine List.mem_of_getElem? (i := k) ?_
      rw [List.getElem?_zip_eq_some]
      exact ⟨by rw [List.getElem?_map, List.getElem?_eq_getElem hc]; rfl, e⟩
    exact of_decide_eq_true (List.all_eq_true.mp q2 _ mem)
end
end
/-! ### built-in names -/
theorem bo_abs : bootBuiltins "abs" = some (.builtin "abs") := by decide +kernel
theorem bo_len : bootBuiltins "len" = some (.builtin "len") := by decide +kernel
theorem bo_max : bootBuiltins "max" = some (.builtin "max") := by decide +kernel
theorem bo_min : bootBuiltins "min" = some (.builtin "min") := by decide +kernel
theorem bo_repr : bootBuiltins "repr" = some (.builtin "repr") := by decide +kernel
theorem bo_all : bootBuiltins "all" = some (.builtin "all") := by decide +kernel
theorem bo_any : bootBuiltins "any" = some (.builtin "any") := by decide +kernel
theorem bo_sum : bootBuiltins "sum" = some (.builtin "sum") := by decide +kernel
theorem bo_divmod : bootBuiltins "divmod" = some (.builtin "divmod") := by decide +kernel
theorem bo_isinstance : bootBuiltins "isinstance" = some (.builtin "isinstance") := by decide +kernel
theorem bo_int : bootBuiltins "int" = some (.type "int") := by decide +kernel
theorem bo_bool : bootBuiltins "bool" = some (.type "bool") := by decide +kernel
theorem bo_str : bootBuiltins "str" = some (.type "str") := by decide +kernel
theorem bo_list : bootBuiltins "list" = some (.type "list") := by decide +kernel
theorem bo_tuple : bootBuiltins "tuple" = some (.type "tuple") := by decide +kernel
theorem bo_dict : bootBuiltins "dict" = some (.type "dict") := by decide +kernel
section
variable {gu : Prop} {X : Cx} {c : Cy} {W : WX} {k kc nC : Nat} {f C : Addr} {fd : FuncData} {ps : List Str} {fm : List D → M D} {x m : Str} {p : Pos} {T : String}
theorem pe_bty (hm : X.mg x = none) (hv : bootBuiltins x = some (.type T)) (hg : Gl X x := by rfl) (hn : x ≠ "__name__" := by decide) (hdb : (x == ("__debug__" : Str)) = false := by decide) : PE X (.Name x p) (tC (.ty T)) :=
  ⟨fun pins s σ H Q I h => ld_blt I hg hm hv ⟨.ty T, H, I, rfl, h⟩ hn hdb⟩
theorem pe_gcl {C : Addr} (hm : X.mg x = some (.ref C)) (hg : Gl X x := by rfl) (hd : (x == ("__debug__" : Str)) = false := by decide) : PE X (.Name x p) (tC (.ref C)) := pe_glob hg hm rfl hd
theorem ov_binS {op : Operator} (hd : PySem.dunder op.info.2 = m) (hCs : ∀ k, k < nC → ClsI X.K (c.T.cls k)) (hK : c.K = X.K) (hC : c.T.cls kc = C) (hn1 : ∀ k, k < nC → c.T.cls k = C) (ci : CmpI X c.T nC C) (hm : Meth X.K C m f)
    (hB : PySem.W.selfFirst X.K C = true ∧ PySem.W.findIn X.K (.ref C) (dunderR op.info.2) = some none ∧ ∀ n ∈ tagB, ∃ fo ro, PySem.W.findIn X.K (.type n) (PySem.dunder op.info.2) = some fo ∧ PySem.W.findIn X.K (.type n) (dunderR op.info.2) = some ro)
    (F : FnG gu X.prog X.w X.K X.mg X.base (L2.CX X.prog X.w) k f fd ps (spF c.K c.T 2 fm)) (hr : Rm gu k X.A) (hb : Binds X.K fd ps []) (tk : Takes X W) : OpV X c W (binaryOp op) (ownM nC kc fm) :=
  ov_bin hCs hK hC hn1 ci hB.1 (by rw [hd]; exact hm.at_) hm.fn hB.2.1 (.inl rfl) hB.2.2 F hr hb tk
theorem du_add : PySem.dunder Operator.Add.info.2 = "__add__" := by decide +kernel
theorem du_sub : PySem.dunder Operator.Sub.info.2 = "__sub__" := by decide +kernel
theorem du_mul : PySem.dunder Operator.Mult.info.2 = "__mul__" := by decide +kernel
theorem cst_nil : Cst c [] [] := fun H => RL.nil
theorem cst_cons {d : D} {v : V} {dd : List D} {dvs : List V} (h : ∀ H, c.R H d v) (hs : Cst c dd dvs) : Cst c (d :: dd) (v :: dvs) := fun H => by
  simp only [Cy.RL, RL]
  exact ⟨v, dvs, rfl, h H, hs H⟩
theorem cst_int {i : Int} {dd : List D} {dvs : List V} (hs : Cst c dd dvs) : Cst c (.int i :: dd) (.int i :: dvs) := cst_cons (fun H => by simp [Cy.R, R]) hs
theorem cst_non {dd : List D} {dvs : List V} (hs : Cst c dd dvs) : Cst c (.non :: dd) (.non :: dvs) := cst_cons (fun H => by simp [Cy.R, R]) hs
theorem cst_str {x : Str} {dd : List D} {dvs : List V} (hs : Cst c dd dvs) : Cst c (.str x :: dd) (.str x :: dvs) := cst_cons (fun H => by simp [Cy.R, R]) hs
theorem cst_bl {x : Bool} {dd : List D} {dvs : List V} (hs : Cst c dd dvs) : Cst c (.bl x :: dd) (.bl x :: dvs) := cst_cons (fun H => by simp [Cy.R, R]) hs
end
/-! ### operators that look at the kinds -/
abbrev addU : D → D → M D := orM (pu iAdd) (orM (pu sAdd) (orM (boxM lCat) tCat))
section
variable {gu : Prop} {X : Cx} {c : Cy} {W : WX}
theorem od_addU (hK : c.K = X.K := by rfl) : OpD X c W (binaryOp .Add) addU := od_iAdd.or (od_sAdd.or (od_lCat.d.or (od_tCat hK)))
end
end DF

set_option Elab.async false
set_option linter.all false
set_option maxRecDepth 100000
set_option maxHeartbeats 4000000
namespace DF
open PySem L2
section
variable {X : Cx} {x : Str} {T : String} {r : List V → Hp → VK → Prop} {t : TA} {e : Expr} {es : List Expr} {p pos : Pos}
theorem pe_cty (hc : CallR X (.type T) r) (hm : X.mg x = none) (hv : bootBuiltins x = some (.type T)) (ha : PA X (e :: es) t) (hg : Gl X x := by rfl) (hn : x ≠ "__name__" := by decide) (hdb : (x == ("__debug__" : Str)) = false := by decide)
    (he : starEach (e :: es) X.env = (false, eval e X.env) :: starEach es X.env := by rfl) (hpl : (backTo pos (starEach es X.env)).any (·.1) = false := by rfl) : PE X (.Call (.Name x p) (e :: es) [] pos) (tCB r t) :=
  ⟨fun pins s σ H Q I h => wpAny_Call_Name_kw (ld_blt I hg hm hv (PyProof.Rows.callWith_type1 (thn (ha.run pos pins s σ H _ I h) fun us s1 ⟨vs, H1, I1, r1, q1⟩ => hc pins s1 σ H1 vs us Q I1 r1 q1) he hpl) hn hdb)⟩
end
/-! ### the law's pot: what is asked of it -/
def PotOk (pt : Pot) : Prop := 0 ≤ pt.1 ∧ 0 < pt.2 ∧ pt.2 ≤ 2147483629
def spPot (K : PySem.W.Frag) : Sp := fun vs H Q _ => ∃ (a : Addr) (ns : List Int) (k : Int), vs = [.ref a, .int k] ∧ SqL K H a (ns.map V.int) ∧ 0 ≤ k ∧ k < 100 ∧ ∀ pt : Pot, PotOk pt → ∀ l, H l = none → Q (.ref l) (upd H l (potO pt))
theorem small_mul {i j : Int} (hi : 0 ≤ i) (hj : 0 ≤ j) (h1 : i < 4294967296) (h2 : j < 4294967296) : CMulW i j := by
  have a : i.natAbs < 2 ^ 32 := by omega
  have b : j.natAbs < 2 ^ 32 := by omega
  exact wide_mul a b (by decide) (by decide) (by decide)
def absI (i : Int) : Int := if i < 0 then -i else i
theorem absI_nn (i : Int) : 0 ≤ absI i := by unfold absI; split <;> omega
theorem pot_ok (c k : Int) (h0 : 0 ≤ k) (h1 : k < 100) : PotOk (if absI c - 10 ^ (18 : Int).toNat > 0 then absI c - 10 ^ (18 : Int).toNat else 0, (absI c % 2147483563 * 40009 + 61297 * k + 17) % 2147483629 + 1) := by
  refine ⟨?_, ?_, ?_⟩
  · show 0 ≤ (if absI c - 10 ^ (18 : Int).toNat > 0 then absI c - 10 ^ (18 : Int).toNat else 0)
    split <;> omega
  · show 0 < (absI c % 2147483563 * 40009 + 61297 * k + 17) % 2147483629 + 1
    omega
  · show (absI c % 2147483563 * 40009 + 61297 * k + 17) % 2147483629 + 1 ≤ 2147483629
    omega
theorem cell_at {ns : List Int} {k : Int} (h0 : 0 ≤ k) (h : k < (ns.map V.int).length) : ∃ c, atI (ns.map V.int) k = some (.int c) := by
  have hn : k.toNat < ns.length := by
    rw [List.length_map] at h
    omega
  refine ⟨ns[k.toNat], ?_⟩
  unfold atI ixN
  rw [if_pos h0, if_pos h, Option.bind_some, List.getElem?_map, List.getElem?_eq_getElem hn]
  rfl
theorem cell_read {K : PySem.W.Frag} {H : Hp} {a : Addr} {ns : List Int} {k : Int} {σ : L2.St} {Q : VK} (hS : SqL K H a (ns.map V.int)) (h0 : 0 ≤ k) (h1 : k < 100) (e0 : σ[0]? = some (some (.ref a))) (e1 : σ[1]? = some (some (.int k))) (fin : ∀ c : Int, Q (.int c) H) :
    tIf (tTest (tOp (rI0 fun i j => .bl (decide (i < j))) (tVar 1) (tCB (fun xs H Q => ∃ x n, xs = [x] ∧ LenV K x H n ∧ Q (.int n) H) (tCons (tVar 0) tNil)))) (tOp (rIxL K) (tVar 0) (tVar 1)) (tOp (rI CMulW fun i j => .int (i * j)) (tC (.int 7)) (tVar 1)) σ H Q := by
  refine ⟨_, e1, _, e0, _, _, rfl, .inl ⟨_, hS, rfl⟩, _, _, rfl, rfl, _, rfl, ?_⟩
  by_cases hk : k < (ns.map V.int).length
  · rw [decide_eq_true hk]
    obtain ⟨c, hc⟩ := cell_at h0 hk
    exact ⟨_, e0, _, e1, a, _, k, _, rfl, rfl, hS, hc, fin c⟩
  · rw [decide_eq_false hk]
    exact ⟨_, e1, _, _, rfl, rfl, small_mul (by decide) h0 (by decide) (by omega), fin _⟩
/-! ### the law -/
theorem rd_nt {H H' : Hp} {a : Addr} {u : HO} (g : ∀ a o, H a = some o → nt o = true → H' a = some o) (n : nt u = true) (h : Rd H a u) : Rd H' a u := h.elim (fun h => .inl (g _ _ h n)) fun ⟨o, h⟩ => .inr ⟨o, g _ _ h rfl⟩
theorem sql_nt {K : PySem.W.Frag} {H H' : Hp} {a : Addr} {xs : List V} (g : ∀ a o, H a = some o → nt o = true → H' a = some o) (h : SqL K H a xs) : SqL K H' a xs := h.elim (fun h => .inl (rd_nt g rfl h)) .inr
def spLaw (K : PySem.W.Frag) (T : Tb) : Sp := fun vs H Q _ => ∃ (a : Addr) (ns : List Int), vs = [.ref a] ∧ SqL K H a (ns.map V.int) ∧ ns.length ≤ 63 ∧ LamX.Tabs T.tb H ∧ ∀ H', Q (.bl true) H'
theorem tab_upd {tb : List (Addr × Str)} {H : Hp} {a : Addr} {o u : HO} (h : LamX.Tabs tb H) (e : H a = some u) (m : mt u = true) : LamX.Tabs tb (L2.upd H a o) := fun q hq => by
  obtain ⟨ps, h1, h2, h3⟩ := h q hq
  refine ⟨ps, ?_, h2, fun pos cv hc => ?_⟩
  · rw [upd_ne (fun z => by rw [z, e] at h1; cases h1; cases m)]
    exact h1
  · obtain ⟨c, e1, e2⟩ := h3 pos cv hc
    refine ⟨c, e1, ?_⟩
    rw [upd_ne (fun z => by
      rw [z, e] at e2
      have e3 : u = LamX.CodeO a q.2 := Option.some.inj e2
      rw [e3] at m
      cases m)]
    exact e2
/-- a def that tells True of every pot -/
def AllPots (m : List D → M D) : Prop := ∀ pt, PotOk pt → ∃ pt', m [.pot] pt = .ok (.bl true) pt'
theorem right_sp {K : PySem.W.Frag} {T : Tb} {m : List D → M D} (hm : AllPots m) {H : Hp} {l : Addr} {pt : Pot} (hp : PotOk pt) (hl : H l = some (potO pt)) (hT : LamX.Tabs T.tb H) {Q : VK} {E : XK}
    (q : ∀ H', (∀ a o, a ≠ l → H a = some o → nt o = true → H' a = some o) → LamX.Tabs T.tb H' → Q (.bl true) H') : spF K T 1 m [.ref l] H Q E := by
  obtain ⟨pt', e⟩ := hm pt hp
  refine ⟨l, [l], [.pot], pt, List.mem_singleton.mpr rfl, fun a ha => ?_, rfl, ?_, ⟨hl, hT⟩, ?_⟩
  · rw [List.mem_singleton.mp ha]
    exact ⟨_, hl, rfl⟩
  · simp [RL, R]
  · rw [e]
    intro v H' st rv
    simp only [Cy.R, R] at rv
    subst rv
    exact q H' (fun a o n e m => st.keep a o n e m) st.pot.tab
theorem law_lc {K : PySem.W.Frag} {T : Tb} {m : List D → M D} (hm : AllPots m) {n : Nat} (hn : n < 100) {a : Addr} {ns : List Int} {H : Hp} {Q : VK} {σ : L2.St} (hS : SqL K H a (ns.map V.int)) (hT : LamX.Tabs T.tb H) (es : σ = [some (.ref a), none])
    (q : ∀ D H', H' D = some (.lst ((List.replicate n true).map V.bl)) → Q (.ref D) H') :
    ∀ D, H D = none → ∃ W : Nat → Nat → Hp → Prop, (∃ m, W 0 m (upd H D (.lst []))) ∧ ∀ i mm H, W i mm H →
      ((Itr 0 n).stop i H ∧ Q (.ref D) H) ∨ ((Itr 0 n).go i H ∧ ∃ Nx : Hp → Prop, (∀ H', Nx H' → ∃ m', m' < mm ∧ W (i + 1) m' H') ∧ ∀ x H', (Itr 0 n).yld i H x H' → gName 1 x (wipe σ [1]) H' fun σ2 H2 => wipe σ2 [1] = wipe σ [1] ∧ tYes σ2 H2 fun b H3 =>
        if b = true then tCallA (spF K T 1 m) [] (WE W0) (tCons (tCallA (spPot K) [] (WE W0) (tCons (tVar 0) (tCons (tVar 1) tNil))) tNil) σ2 H3 fun y H4 => ∃ acc, H4 D = some (.lst acc) ∧ acc.length < sizeLine ∧ Nx (upd H4 D (.lst (acc ++ [y]))) else Nx H3) := by
  subst es
  intro D hD
  refine lc_range (lo := 0) (g := gName 1) (tt := tYes) (te := tCallA (spF K T 1 m) [] (WE W0) (tCons (tCallA (spPot K) [] (WE W0) (tCons (tVar 0) (tCons (tVar 1) tNil))) tNil)) (vs := [1]) (σ := [some (.ref a), none]) (Pv := fun i H' => i ≤ n ∧ ((∀ b o, H b = some o → nt o = true → H' b = some o) ∧ LamX.Tabs T.tb H') ∧ H' D = some (.lst ((List.replicate i true).map V.bl))) ⟨Nat.zero_le _, ⟨fun b o e _ => by rw [upd_ne (ne_of_none e hD)]; exact e, hT.ext fun b o e => by rw [upd_ne (ne_of_none e hD)]; exact e⟩, upd_same⟩ (fun i H' hi ⟨_, g, hd⟩ => ?_) fun H' ⟨_, g, hd⟩ => q D H' hd
  refine ⟨rfl, ?_⟩
  show tCallA (spF K T 1 m) [] (WE W0) (tCons (tCallA (spPot K) [] (WE W0) (tCons (tVar 0) (tCons (tVar 1) tNil))) tNil) [some (.ref a), some (.int (0 + (i : Int)))] H' _
  obtain ⟨g, gT⟩ := g
  refine ⟨_, rfl, _, rfl, a, ns, _, rfl, sql_nt g hS, by omega, by omega, fun pt hp l hl => ?_⟩
  have gl : ∀ b o, H' b = some o → upd H' l (potO pt) b = some o := fun b o e => by rw [upd_ne (ne_of_none e hl)]; exact e
  refine right_sp hm hp upd_same (gT.ext gl) fun H2 kp kT => ?_
  have hDl : D ≠ l := ne_of_none hd hl
  have hd2 : H2 D = some (.lst ((List.replicate i true).map V.bl)) := kp D _ hDl (by rw [upd_ne hDl]; exact hd) rfl
  refine ⟨_, hd2, ?_, hi, ⟨fun b o e n => ?_, fun q hq => ?_⟩, ?_⟩
  · rw [List.length_map, List.length_replicate]
    exact Nat.lt_of_lt_of_le (Nat.lt_trans hi hn) (by decide)
  · have bD : b ≠ D := ne_of_none e hD
    have bl : b ≠ l := ne_of_none (g b o e n) hl
    rw [upd_ne bD]
    exact kp b o bl (by rw [upd_ne bl]; exact g b o e n) n
  · exact tab_upd kT hd2 rfl q hq
  · rw [upd_same, List.replicate_succ', List.map_append]
    rfl
theorem all_reps (n : Nat) : (List.replicate n true).all id = true := by
  rw [List.all_eq_true]
  intro x hx
  rw [List.eq_of_mem_replicate hx]
  rfl
theorem cap_ok {m : Int} (h : m ≤ 90) : -(2 ^ 62) ≤ (if m > 1 then m else 1) ∧ (if m > 1 then m else 1) < (2 ^ 62 : Int) ∧ (if m > 1 then m else 1).toNat < 100 := by
  split <;> refine ⟨?_, ?_, ?_⟩ <;> omega
theorem cx_no {P : Program} {w : World} (H : Hp) (s : Shared) (e : Value) (s' : Shared) (h : L2.CX P w [] H s (fun _ _ _ => False) e s') : False := by
  obtain ⟨_, _, _, _, _, _, _, _, _, _, _, _, z⟩ := h
  exact z
/-- the end of a law whose defs may let exceptions out -/
theorem walkZ {lw : PySem.W.OpenLaw} {k : Nat} {qq : Program} {loose : List Str} {XP : (Str → Option Value) → Heap → Prop} {YP : World → Heap → Prop} {dd : DefRec} {x : Str} (h63 : lw.most = some 63) (hdf : dd.params.defaults = []) (hrm : Room k callerA)
    (F : ∀ (w : World) (mg : Str → Option Value) (fa : Addr) (hh : Heap), YP w hh → hh.Ns mainGlobals mg → mg dd.name = some (.ref fa) → ∃ (K : PySem.W.Frag) (fd : FuncData) (cs : List (Addr × Addr)) (T : Tb), K.In hh ∧ (∀ p ∈ cs, hh.get? p.2 = some { cls := .none, data := .fields #[] }) ∧ (∀ p ∈ cs, K.lookup p.2 = none) ∧ (∀ p ∈ cs, PySem.W.CodeHd hh p.1 p.2) ∧
        (∀ q ∈ T.tb, ∃ p ∈ cs, p.2 = q.1) ∧ (∀ (s : Shared) (u : Value), BindsTo s fd ⟨[u], []⟩ [(x, u)]) ∧
        ∀ bb : Heap, K.In bb → bb.Ns mainGlobals mg → (∀ p ∈ cs, LamX.TabB bb mg p.1 p.2) → FnOk lw.prog w K mg bb (L2.CX lw.prog w) k fa fd [x] (spLaw K T)) : PySem.W.WalkO qq loose XP YP lw.row.toRowW dd [] (fun f vs => PySem.call f vs) := by
  refine LamX.walk_ofTsE (x := x) (CX := fun w => L2.CX lw.prog w) h63 (by decide) hdf hrm (fun w mg fa h Y G hm => ?_) fun w H s e s' => cx_no H s e s'
  obtain ⟨K, fd, cs, T, KX, h1, h2, h3, h4, hb, hF⟩ := F w mg fa h Y G hm
  refine ⟨K, KX, fd, cs, spLaw K T, h1, h2, h3, hb, fun H a ns hl _ hH hS => ⟨a, ns, rfl, hS, hl, fun q hq => ?_, fun _ => rfl⟩, hF⟩
  obtain ⟨p, hp, e⟩ := h4 q hq
  exact LamX.TabS.nil (e ▸ hH p hp)
end DF

set_option Elab.async false
set_option linter.all false
set_option maxRecDepth 100000
set_option maxHeartbeats 4000000
/-! DFG: the mirrors worked out by simp. -/
namespace DF
open PySem L2
section
variable {α β : Type} {ρ : Slots} {pt : Pot}
def bndR (r : Res α) (k : α → M β) : Res β := match r with
  | .ok a q => k a q
  | .exc c fs q => .exc c fs q
  | .stuck => .stuck
@[simp] theorem e_bnd (m : M α) (k : α → M β) : bnd m k pt = bndR (m pt) k := by unfold bnd bndR; rfl
@[simp] theorem e_bndok (a : α) (q : Pot) (k : α → M β) : bndR (.ok a q) k = k a q := rfl
@[simp] theorem e_bndst (k : α → M β) : bndR .stuck k = .stuck := rfl
@[simp] theorem e_bndex (c : Nat) (fs : List D) (q : Pot) (k : α → M β) : bndR (.exc c fs q) k = .exc c fs q := rfl
@[simp] theorem e_ret (a : α) : ret a pt = .ok a pt := rfl
@[simp] theorem e_fail : (fail : M α) pt = .stuck := rfl
@[simp] theorem e_some (a : α) : opt (some a) pt = .ok a pt := rfl
@[simp] theorem e_none : opt (none : Option α) pt = .stuck := rfl
@[simp] theorem e_ite {c : Prop} [Decidable c] (a b : M α) : (if c then a else b) pt = if c then a pt else b pt := by split <;> rfl
/-! slots -/
@[simp] theorem e_val (d : D) : valOf (some (some (.val d))) = some d := rfl
@[simp] theorem e_bval (d : D) : bvalOf (some (some (.val d))) = some d := rfl
@[simp] theorem e_bown (ds : List D) : bvalOf (some (some (.own ds))) = some (.lst ds) := rfl
@[simp] theorem e_var (i : Nat) : varE i ρ pt = opt (valOf ρ[i]?) pt := rfl
@[simp] theorem e_bvar (i : Nat) : bvarE i ρ pt = opt (bvalOf ρ[i]?) pt := rfl
@[simp] theorem e_c (d : D) : cE d ρ pt = .ok d pt := rfl
@[simp] theorem e_nilA : nilA ρ pt = .ok [] pt := rfl
@[simp] theorem e_consA (f : Slots → M D) (g : Slots → M (List D)) : consA f g ρ pt = bndR (f ρ pt) fun d => bnd (g ρ) fun ds => ret (d :: ds) := e_bnd _ _
@[simp] theorem e_tupE (g : Slots → M (List D)) : tupE g ρ pt = bndR (g ρ pt) fun ds => if ds.length ≤ 100000 then ret (.tup ds) else fail := e_bnd _ _
@[simp] theorem e_lenA (g : Slots → M (List D)) : lenA g ρ pt = bndR (g ρ pt) fun ds => if ds.length ≤ 100000 then ret ds else fail := e_bnd _ _
@[simp] theorem e_boxE (g : Slots → M (List D)) : boxE g ρ pt = bndR (g ρ pt) fun ds => ret (.lst ds) := e_bnd _ _
@[simp] theorem e_binE (g : D → D → M D) (fa fb : Slots → M D) : binE g fa fb ρ pt = bndR (fa ρ pt) fun x => bnd (fb ρ) fun y => g x y := e_bnd _ _
@[simp] theorem e_asB (b : Bool) : asB (.bl b) pt = .ok b pt := rfl
@[simp] theorem e_testE (f : Slots → M D) : testE f ρ pt = bndR (f ρ pt) asB := e_bnd _ _
@[simp] theorem e_andT (f g : Slots → M Bool) : andT f g ρ pt = bndR (f ρ pt) fun b => if b then g ρ else ret false := e_bnd _ _
@[simp] theorem e_orT (f g : Slots → M Bool) : orT f g ρ pt = bndR (f ρ pt) fun b => if b then ret true else g ρ := e_bnd _ _
@[simp] theorem e_notT (f : Slots → M Bool) : notT f ρ pt = bndR (f ρ pt) fun b => ret (!b) := e_bnd _ _
@[simp] theorem e_andE (f g : Slots → M D) : andE f g ρ pt = bndR (bndR (f ρ pt) asB) fun b => if b then g ρ else ret (.bl false) := by unfold andE; rw [e_bnd, e_bnd]
@[simp] theorem e_orE (f g : Slots → M D) : orE f g ρ pt = bndR (bndR (f ρ pt) asB) fun b => if b then ret (.bl true) else g ρ := by unfold orE; rw [e_bnd, e_bnd]
@[simp] theorem e_notE (f : Slots → M D) : notE f ρ pt = bndR (bndR (f ρ pt) asB) fun b => ret (.bl (!b)) := by unfold notE; rw [e_bnd, e_bnd]
@[simp] theorem e_ifE (t : Slots → M Bool) (f g : Slots → M D) : ifE t f g ρ pt = bndR (t ρ pt) fun b => if b then f ρ else g ρ := e_bnd _ _
def negK : D → M D
  | .int i => ret (.int (-i))
  | _ => fail
@[simp] theorem e_negE (f : Slots → M D) : negE f ρ pt = bndR (f ρ pt) negK := by
  unfold negE bnd bndR
  cases f ρ pt with
  | ok o q => cases o <;> rfl
  | _ => rfl
@[simp] theorem e_negK (i : Int) : negK (.int i) pt = .ok (.int (-i)) pt := rfl
/-! statements -/
@[simp] theorem e_nilS : nilS ρ pt = .ok (.nx ρ) pt := rfl
def seqK (g : Slots → M Out) : Out → M Out
  | .nx ρ' => g ρ'
  | o => ret o
@[simp] theorem e_seqS (f g : Slots → M Out) : seqS f g ρ pt = bndR (f ρ pt) (seqK g) := by
  unfold seqS bnd bndR
  cases f ρ pt with
  | ok o q => cases o <;> rfl
  | _ => rfl
@[simp] theorem e_seqK (g : Slots → M Out) : seqK g (.nx ρ) pt = g ρ pt := rfl
@[simp] theorem e_seqR (g : Slots → M Out) (d : D) : seqK g (.rt d) pt = .ok (.rt d) pt := rfl
@[simp] theorem e_retS (f : Slots → M D) : retS f ρ pt = bndR (f ρ pt) fun d => ret (.rt d) := e_bnd _ _
@[simp] theorem e_retNS : retNS ρ pt = .ok (.rt .non) pt := rfl
@[simp] theorem e_ifS (t : Slots → M Bool) (f g : Slots → M Out) : ifS t f g ρ pt = bndR (t ρ pt) fun b => if b then f ρ else g ρ := e_bnd _ _
@[simp] theorem e_asgS (i : Nat) (f : Slots → M D) : asgS i f ρ pt = bndR (f ρ pt) fun d => if i < ρ.length then ret (.nx (ρ.set i (some (.val d)))) else fail := e_bnd _ _
@[simp] theorem e_asgL (i : Nat) (f : Slots → M (List D)) : asgL i f ρ pt = bndR (f ρ pt) fun d => if i < ρ.length then ret (.nx (ρ.set i (some (.own d)))) else fail := e_bnd _ _
def finK : Out → M D
  | .rt d => ret d
  | .nx _ => ret .non
  | _ => fail
@[simp] theorem e_finr (d : D) : finK (.rt d) pt = .ok d pt := rfl
@[simp] theorem e_finn : finK (.nx ρ) pt = .ok .non pt := rfl
theorem e_fnM (n : Nat) (g : Slots → M Out) (ds : List D) : fnM n g ds pt = bndR (g (ini n ds) pt) finK := by
  unfold fnM bnd bndR
  cases g (ini n ds) pt with
  | ok o q => cases o <;> rfl
  | _ => rfl
def iniK (kc nf : Nat) : Out → M (List D)
  | .nx ρ => opt (fldsOf kc nf ρ)
  | _ => fail
@[simp] theorem e_iniK (kc nf : Nat) : iniK kc nf (.nx ρ) pt = opt (fldsOf kc nf ρ) pt := rfl
theorem e_iniM (kc nf n : Nat) (g : Slots → M Out) (ds : List D) : iniM kc nf n g ds pt = bndR (g (some (.slf kc []) :: ini n ds) pt) (iniK kc nf) := by
  unfold iniM bnd bndR
  cases g (some (.slf kc []) :: ini n ds) pt with
  | ok o q => cases o <;> rfl
  | _ => rfl
/-! operators -/
@[simp] theorem e_pu (g : D → D → Option D) (x y : D) : pu g x y pt = opt (g x y) pt := rfl
@[simp] theorem e_pu1 (g : List D → Option D) (x : List D) : pu1 g x pt = opt (g x) pt := rfl
@[simp] theorem e_blt (g : List D → M α) (fa : Slots → M (List D)) : bltE g fa ρ pt = bndR (fa ρ pt) g := e_bnd _ _
@[simp] theorem e_iop (g : Int → Int → Int) (i j : Int) : iop g (.int i) (.int j) = some (.int (g i j)) := rfl
@[simp] theorem e_iopC (C : Int → Int → Bool) (g : Int → Int → Int) (i j : Int) : iopC C g (.int i) (.int j) = if C i j then some (.int (g i j)) else none := rfl
@[simp] theorem e_icmp (g : Int → Int → Bool) (i j : Int) : icmp g (.int i) (.int j) = some (.bl (g i j)) := rfl
@[simp] theorem e_addI (i j : Int) : addU (.int i) (.int j) pt = .ok (.int (i + j)) pt := rfl
@[simp] theorem e_addS (i j : Str) : addU (.str i) (.str j) pt = (pu sAdd (.str i) (.str j)) pt := by
  show (match pu sAdd (.str i) (.str j) pt with
    | .stuck => orM (boxM lCat) tCat (.str i) (.str j) pt
    | r => r) = _
  cases e : pu sAdd (.str i) (.str j) pt <;> rfl
@[simp] theorem e_eqI (i j : Int) : dEq (.int i) (.int j) = some (.bl (decide (i = j))) := rfl
@[simp] theorem e_neI (i j : Int) : dNe (.int i) (.int j) = some (.bl (!decide (i = j))) := rfl
@[simp] theorem e_eqS (i j : Str) : dEq (.str i) (.str j) = some (.bl (decide (i = j))) := rfl
@[simp] theorem e_neS (i j : Str) : dNe (.str i) (.str j) = some (.bl (!decide (i = j))) := rfl
@[simp] theorem e_eqB (i j : Bool) : dEq (.bl i) (.bl j) = some (.bl (decide (i = j))) := rfl
@[simp] theorem e_neB (i j : Bool) : dNe (.bl i) (.bl j) = some (.bl (!decide (i = j))) := rfl
@[simp] theorem e_call (n : Nat) (fm : List D → M D) (dd : List D) (fa : Slots → M (List D)) : callE n fm dd fa ρ pt = bndR (fa ρ pt) fun ds => if (ds ++ dd).length = n then fm (ds ++ dd) else fail := e_bnd _ _
@[simp] theorem e_make (kc n : Nat) (m : List D → M (List D)) (dd : List D) (fa : Slots → M (List D)) : makeE kc n m dd fa ρ pt = bndR (fa ρ pt) fun ds => if (ds ++ dd).length + 1 = n then bnd (m (ds ++ dd)) fun fs => ret (.obj kc fs) else fail := e_bnd _ _
def getK (kc ix : Nat) : D → M D
  | .obj j fs => if j = kc then opt fs[ix]? else fail
  | _ => fail
@[simp] theorem e_getE (kc ix : Nat) (fo : Slots → M D) : getE kc ix fo ρ pt = bndR (fo ρ pt) (getK kc ix) := by
  unfold getE bnd bndR
  cases fo ρ pt with
  | ok o q => cases o <;> rfl
  | _ => rfl
@[simp] theorem e_getK (kc ix : Nat) (fs : List D) : getK kc ix (.obj kc fs) pt = opt fs[ix]? pt := by
  show (if kc = kc then opt fs[ix]? else fail) pt = _
  rw [if_pos rfl]
def noXR (r : Res α) : Res α := match r with
  | .exc _ _ _ => .stuck
  | r => r
@[simp] theorem e_noX (m : M α) : noX m pt = noXR (m pt) := rfl
@[simp] theorem e_noXok (a : α) : noXR (.ok a pt) = .ok a pt := rfl
def propK (kc : Nat) (fm : List D → M D) : D → M D
  | .obj j fs => if j = kc then noX (fm [.obj j fs]) else fail
  | _ => fail
@[simp] theorem e_propE (kc : Nat) (fm : List D → M D) (fo : Slots → M D) : propE kc fm fo ρ pt = bndR (fo ρ pt) (propK kc fm) := by
  unfold propE bnd bndR
  cases fo ρ pt with
  | ok o q => cases o <;> rfl
  | _ => rfl
@[simp] theorem e_propK (kc : Nat) (fm : List D → M D) (fs : List D) : propK kc fm (.obj kc fs) pt = noXR (fm [.obj kc fs] pt) := by
  show (if kc = kc then noX (fm [.obj kc fs]) else fail) pt = _
  rw [if_pos rfl]
  rfl
def methK (kc n : Nat) (fm : List D → M D) (dd : List D) (fa : Slots → M (List D)) (ρ : Slots) : D → M D
  | .obj j fs => if j = kc then bnd (fa ρ) fun ds => if (ds ++ dd).length + 1 = n then fm (.obj j fs :: (ds ++ dd)) else fail else fail
  | _ => fail
@[simp] theorem e_methE (kc n : Nat) (fm : List D → M D) (dd : List D) (fo : Slots → M D) (fa : Slots → M (List D)) : methE kc n fm dd fo fa ρ pt = bndR (fo ρ pt) (methK kc n fm dd fa ρ) := by
  unfold methE bnd bndR
  cases fo ρ pt with
  | ok o q => cases o <;> rfl
  | _ => rfl
@[simp] theorem e_methK (kc n : Nat) (fm : List D → M D) (dd : List D) (fa : Slots → M (List D)) (fs : List D) : methK kc n fm dd fa ρ (.obj kc fs) pt = bndR (fa ρ pt) fun ds => if (ds ++ dd).length + 1 = n then fm (.obj kc fs :: (ds ++ dd)) else fail := by
  show (if kc = kc then bnd (fa ρ) fun ds => if (ds ++ dd).length + 1 = n then fm (.obj kc fs :: (ds ++ dd)) else fail else fail) pt = _
  rw [if_pos rfl]
  exact e_bnd _ _
def slfOf (kc ix : Nat) : Option (Option SV) → Option (List D)
  | some (some (.slf k fs)) => if k = kc ∧ fs.length = ix then some fs else none
  | _ => none
@[simp] theorem e_slf (kc ix : Nat) (fs : List D) : slfOf kc ix (some (some (.slf kc fs))) = if fs.length = ix then some fs else none := by
  unfold slfOf
  simp
@[simp] theorem e_fldS (i kc ix : Nat) (f : Slots → M D) : fldS i kc ix f ρ pt = bndR (f ρ pt) fun d => opt ((slfOf kc ix ρ[i]?).map fun fs => .nx (ρ.set i (some (.slf kc (fs ++ [d]))))) := by
  unfold fldS
  rw [e_bnd]
  congr 1
  funext d q
  match h : ρ[i]? with
  | some (some (.slf k fs)) =>
    simp only [slfOf]
    by_cases hz : k = kc ∧ fs.length = ix
    · rw [if_pos hz, if_pos hz, hz.1]
      rfl
    · rw [if_neg hz, if_neg hz]
      rfl
  | some (some (.val _)) => rfl
  | some (some (.own _)) => rfl
  | some (some (.ownd _)) => rfl
  | some (some (.exv _ _)) => rfl
  | some (some .lam) => rfl
  | some (some (.raw _)) => rfl
  | some none => rfl
  | none => rfl
@[simp] theorem e_flds (kc nf : Nat) (fs : List D) (r : Slots) (h : fs.length = nf) : fldsOf kc nf (some (.slf kc fs) :: r) = some fs := by
  unfold fldsOf
  simp [h]
@[simp] theorem e_ix0 : ixM .pot (.int 0) pt = .ok (.int pt.1) pt := rfl
@[simp] theorem e_ix1 : ixM .pot (.int 1) pt = .ok (.int pt.2) pt := rfl
@[simp] theorem e_ixT (ds : List D) (i : Int) : ixM (.tup ds) (.int i) pt = opt (atI ds i) pt := rfl
@[simp] theorem e_ixL (ds : List D) (i : Int) : ixM (.lst ds) (.int i) pt = opt (atI ds i) pt := rfl
@[simp] theorem e_at0 (d : D) (ds : List D) : atI (d :: ds) 0 = some d := by simp [atI, ixN]
@[simp] theorem e_at1 (d e : D) (ds : List D) : atI (d :: e :: ds) 1 = some e := by
  unfold atI ixN
  rw [if_pos (by decide), if_pos (by simp only [List.length_cons]; omega)]
  rfl
@[simp] theorem e_at2 (d e f : D) (ds : List D) : atI (d :: e :: f :: ds) 2 = some f := by
  unfold atI ixN
  rw [if_pos (by decide), if_pos (by simp only [List.length_cons]; omega)]
  rfl
@[simp] theorem e_isi (nC : Nat) (ans : Sum String Nat → Option Bool) (fo : Slots → M D) : isiE nC ans fo ρ pt = bndR (fo ρ pt) fun x => opt (((knd nC x).bind ans).map .bl) := e_bnd _ _
@[simp] theorem e_forS (fi : Slots → M (List D)) (tgf : D → Slots → Option Slots) (g : Slots → M Out) : forS fi tgf g ρ pt = bndR (fi ρ pt) fun items => forL tgf g items ρ := e_bnd _ _
def forK (tgf : D → Slots → Option Slots) (g : Slots → M Out) (ds : List D) : Out → M Out
  | .nx ρ2 => forL tgf g ds ρ2
  | .ct ρ2 => forL tgf g ds ρ2
  | .bk ρ2 => ret (.nx ρ2)
  | .rt d => ret (.rt d)
@[simp] theorem e_forL0 (tgf : D → Slots → Option Slots) (g : Slots → M Out) : forL tgf g [] ρ pt = .ok (.nx ρ) pt := rfl
@[simp] theorem e_forL (tgf : D → Slots → Option Slots) (g : Slots → M Out) (d : D) (ds : List D) : forL tgf g (d :: ds) ρ pt = bndR (opt (tgf d ρ) pt) fun ρ1 => bnd (g ρ1) (forK tgf g ds) := by
  show bnd (opt (tgf d ρ)) _ pt = _
  rw [e_bnd]
  cases opt (tgf d ρ) pt with
  | ok r q =>
    simp only [e_bndok, e_bnd]
    cases g r q with
    | ok o z => cases o <;> rfl
    | _ => rfl
  | _ => rfl
@[simp] theorem e_forK (tgf : D → Slots → Option Slots) (g : Slots → M Out) (ds : List D) : forK tgf g ds (.nx ρ) pt = forL tgf g ds ρ pt := rfl
@[simp] theorem e_forKr (tgf : D → Slots → Option Slots) (g : Slots → M Out) (ds : List D) (d : D) : forK tgf g ds (.rt d) pt = .ok (.rt d) pt := rfl
@[simp] theorem e_itE (f : Slots → M D) : itE f ρ pt = bndR (f ρ pt) fun d => opt (itemsOf d) := e_bnd _ _
@[simp] theorem e_itA (g : List D → Option (List D)) (fa : Slots → M (List D)) : itA g fa ρ pt = bndR (fa ρ pt) fun ds => opt (g ds) := e_bnd _ _
@[simp] theorem e_itT (ds : List D) : itemsOf (.tup ds) = some ds := rfl
@[simp] theorem e_itL (ds : List D) : itemsOf (.lst ds) = some ds := rfl
@[simp] theorem e_tgN (i : Nat) (d : D) : tgN i d ρ = if i < ρ.length then some (ρ.set i (some (.val d))) else none := rfl
@[simp] theorem e_tgT (ts : List (D → Slots → Option Slots)) (ds : List D) : tgT ts (.tup ds) ρ = tgs ts ds ρ := rfl
@[simp] theorem e_tgLT (ts : List (D → Slots → Option Slots)) (ds : List D) : tgL ts (.tup ds) ρ = tgs ts ds ρ := rfl
@[simp] theorem e_tgLL (ts : List (D → Slots → Option Slots)) (ds : List D) : tgL ts (.lst ds) ρ = tgs ts ds ρ := rfl
@[simp] theorem e_tgs0 : tgs [] [] ρ = some ρ := rfl
@[simp] theorem e_tgs (t : D → Slots → Option Slots) (ts : List (D → Slots → Option Slots)) (d : D) (ds : List D) : tgs (t :: ts) (d :: ds) ρ = (t d ρ).bind (tgs ts ds) := rfl
@[simp] theorem e_comp (fi : Slots → M (List D)) (vs : List Nat) (tgf : D → Slots → Option Slots) (t : Slots → M Bool) (f : Slots → M D) : compE fi vs tgf t f ρ pt = bndR (fi ρ pt) fun items => if noOwn ρ vs then compL tgf t f (wipeD ρ vs) items [] else fail := e_bnd _ _
@[simp] theorem e_compL0 (tgf : D → Slots → Option Slots) (t : Slots → M Bool) (f : Slots → M D) (acc : List D) : compL tgf t f ρ [] acc pt = .ok acc pt := rfl
@[simp] theorem e_compL (tgf : D → Slots → Option Slots) (t : Slots → M Bool) (f : Slots → M D) (d : D) (ds acc : List D) : compL tgf t f ρ (d :: ds) acc pt = bndR (opt (tgf d ρ) pt) fun ρ1 => bnd (noX (t ρ1)) fun b => if b then bnd (noX (f ρ1)) fun y => (if acc.length < 100000 then compL tgf t f ρ ds (acc ++ [y]) else fail) else compL tgf t f ρ ds acc := e_bnd _ _
@[simp] theorem e_yesT : yesT ρ pt = .ok true pt := rfl
@[simp] theorem e_wipe0 : wipeD ρ [] = ρ := rfl
@[simp] theorem e_wipe (v : Nat) (vs : List Nat) : wipeD ρ (v :: vs) = (wipeD ρ vs).set v none := rfl
@[simp] theorem e_unp (tgf : D → Slots → Option Slots) (f : Slots → M D) : unpS tgf f ρ pt = bndR (f ρ pt) fun d => bnd (opt (tgf d ρ)) fun ρ' => ret (.nx ρ') := e_bnd _ _
@[simp] theorem e_par (i j : Nat) (fa : Slots → M (List D)) : parS i j fa ρ pt = bndR (fa ρ pt) fun ds => bnd (opt (tgs [tgN i, tgN j] ds ρ)) fun ρ' => ret (.nx ρ') := e_bnd _ _
@[simp] theorem e_par3 (i j l : Nat) (fa : Slots → M (List D)) : par3S i j l fa ρ pt = bndR (fa ρ pt) fun ds => bnd (opt (tgs [tgN i, tgN j, tgN l] ds ρ)) fun ρ' => ret (.nx ρ') := e_bnd _ _
@[simp] theorem e_slE (fa : Slots → M D) (fl fh : Slots → M (Option Int)) : slE fa fl fh ρ pt = bndR (fa ρ pt) fun x => bnd (fl ρ) fun lo => bnd (fh ρ) fun hi => slM x lo hi := e_bnd _ _
@[simp] theorem e_noO : noO ρ pt = .ok none pt := rfl
def soK : D → M (Option Int)
  | .int i => ret (some i)
  | _ => fail
@[simp] theorem e_soO (f : Slots → M D) : soO f ρ pt = bndR (f ρ pt) soK := by
  unfold soO bnd bndR
  cases f ρ pt with
  | ok o q => cases o <;> rfl
  | _ => rfl
@[simp] theorem e_soK (i : Int) : soK (.int i) pt = .ok (some i) pt := rfl
@[simp] theorem e_joinE (fa fb : Slots → M D) : joinE fa fb ρ pt = bndR (fa ρ pt) fun x => bnd (opt (strOf1 x)) fun a => bnd (fb ρ) fun y => opt (joinF a y) := e_bnd _ _
@[simp] theorem e_str1 (x : Str) : strOf1 (.str x) = some x := rfl
@[simp] theorem e_oneE (g : D → Option D) (f : Slots → M D) : oneE g f ρ pt = bndR (f ρ pt) fun d => opt (g d) := e_bnd _ _
@[simp] theorem e_joined (fs : List (Slots → M D)) : joinedE fs ρ pt = glueE fs Str.empty ρ pt := rfl
@[simp] theorem e_glue0 (acc : Str) : glueE [] acc ρ pt = .ok (.str acc) pt := rfl
@[simp] theorem e_glue (f : Slots → M D) (fs : List (Slots → M D)) (acc : Str) : glueE (f :: fs) acc ρ pt = bndR (f ρ pt) fun d => bnd (opt (strOf1 d)) fun y => if (acc ++ y).length ≤ 1000000 then glueE fs (acc ++ y) ρ else fail := e_bnd _ _
@[simp] theorem e_unE (g : D → M D) (f : Slots → M D) : unE g f ρ pt = bndR (f ρ pt) g := e_bnd _ _
@[simp] theorem e_unM (kc : Nat) (fm : List D → M D) (fs : List D) : unM kc fm (.obj kc fs) pt = fm [.obj kc fs] pt := by
  show (if kc = kc then fm [.obj kc fs] else fail) pt = _
  rw [if_pos rfl]
@[simp] theorem e_txM (kc : Nat) (fm : List D → M D) (fs : List D) : txM kc fm [.obj kc fs] pt = bndR (fm [.obj kc fs] pt) fun d => bnd (opt (strOf1 d)) fun y => ret (.str y) := by
  show (if kc = kc then bnd (fm [.obj kc fs]) _ else fail) pt = _
  rw [if_pos rfl]
  exact e_bnd _ _
@[simp] theorem e_ownM (nC kc : Nat) (fm : List D → M D) (fs : List D) (y : D) : ownM nC kc fm (.obj kc fs) y pt = if (knd nC y).isSome then fm [.obj kc fs, y] pt else .stuck := by
  show (if kc = kc ∧ (knd nC y).isSome = true then fm [.obj kc fs, y] else fail) pt = _
  by_cases h : (knd nC y).isSome = true <;> simp [h]
@[simp] theorem e_neM (nC kc : Nat) (fm : List D → M D) (x y : D) : neM nC kc fm x y pt = bndR (ownM nC kc fm x y pt) notB := e_bnd _ _
@[simp] theorem e_notB (b : Bool) : notB (.bl b) pt = .ok (.bl (!b)) pt := rfl
@[simp] theorem e_own (ds : List D) : ownOf (some (some (.own ds))) = some ds := rfl
@[simp] theorem e_app (i : Nat) (f : Slots → M D) : appS i f ρ pt = bndR (opt (ownOf ρ[i]?) pt) fun ds => bnd (f ρ) fun d => growM i ρ ds [d] := e_bnd _ _
@[simp] theorem e_ext (i : Nat) (f : Slots → M D) : extS i f ρ pt = bndR (opt (ownOf ρ[i]?) pt) fun ds => bnd (f ρ) fun d => bnd (opt (lstOf d)) fun es => growM i ρ ds es := e_bnd _ _
@[simp] theorem e_grow (i : Nat) (ds es : List D) : growM i ρ ds es pt = if ds.length + es.length ≤ 100000 then .ok (.nx (ρ.set i (some (.own (ds ++ es))))) pt else .stuck := e_ite _ _
@[simp] theorem e_lst1 (ds : List D) : lstOf (.lst ds) = some ds := rfl
@[simp] theorem e_kI (nC : Nat) (i : Int) : knd nC (.int i) = some (.inl "int") := rfl
@[simp] theorem e_kS (nC : Nat) (i : Str) : knd nC (.str i) = some (.inl "str") := rfl
@[simp] theorem e_kB (nC : Nat) (i : Bool) : knd nC (.bl i) = some (.inl "bool") := rfl
@[simp] theorem e_kN (nC : Nat) : knd nC .non = some (.inl "NoneType") := rfl
@[simp] theorem e_kL (nC : Nat) (i : List D) : knd nC (.lst i) = some (.inl "list") := rfl
@[simp] theorem e_kT (nC : Nat) (i : List D) : knd nC (.tup i) = some (.inl "tuple") := rfl
@[simp] theorem e_kO (nC k : Nat) (fs : List D) : knd nC (.obj k fs) = if k < nC then some (.inr k) else none := rfl
@[simp] theorem e_ansI (ts : List String) (cs : List Bool) (n : String) : ansOf ts cs (.inl n) = if n ∈ tagB then some (decide (n ∈ ts)) else none := rfl
@[simp] theorem e_ansO (ts : List String) (cs : List Bool) (k : Nat) : ansOf ts cs (.inr k) = cs[k]? := rfl
@[simp] theorem e_tagB (n : String) : (n ∈ tagB) = (n = "NoneType" ∨ n = "bool" ∨ n = "int" ∨ n = "str" ∨ n = "list" ∨ n = "tuple" ∨ n = "dict") := by simp [tagB]
end
@[simp] theorem e_addT (i j : List D) {pt : Pot} : addU (.tup i) (.tup j) pt = tCat (.tup i) (.tup j) pt := rfl
/-! ### a draw -/
def Pt (pt : Pot) : Prop := 0 ≤ pt.1 ∧ 0 ≤ pt.2 ∧ pt.2 < 4294967296
theorem PotOk.pt {pt : Pot} (h : PotOk pt) : Pt pt := ⟨h.1, Int.le_of_lt h.2.1, by have := h.2.2; omega⟩
end DF

set_option Elab.async false
set_option linter.all false
set_option maxRecDepth 100000
set_option maxHeartbeats 4000000
/-! DFH: numbers with bounds, texts of numbers. -/
namespace DF
open PySem L2
def Bd (k : Nat) (z : Int) : Prop := z.natAbs < 2 ^ k
def MulOk (i j : Int) : Prop := i.natAbs.log2 + j.natAbs.log2 < 1000000
def Log (i : Int) : Prop := i.natAbs.log2 < 1920
theorem Bd.log {k : Nat} {z : Int} (h : Bd k z) (hk : 0 < k) : z.natAbs.log2 < k := by
  by_cases e : z.natAbs = 0
  · rw [e]
    exact hk
  · exact (Nat.log2_lt e).mpr h
theorem Bd.mono {k l : Nat} {z : Int} (h : Bd k z) (hk : k ≤ l) : Bd l z := Nat.lt_of_lt_of_le h (Nat.pow_le_pow_right (by decide) hk)
theorem Bd.add {k : Nat} {x y : Int} (h : Bd k x) (h' : Bd k y) : Bd (k + 1) (x + y) := by
  unfold Bd at *
  have := Int.natAbs_add_le x y
  rw [Nat.pow_succ]
  omega
theorem Bd.neg {k : Nat} {x : Int} (h : Bd k x) : Bd k (-x) := by
  unfold Bd at *
  rw [Int.natAbs_neg]
  exact h
theorem Bd.sub {k : Nat} {x y : Int} (h : Bd k x) (h' : Bd k y) : Bd (k + 1) (x - y) := by
  rw [Int.sub_eq_add_neg]
  exact h.add h'.neg
theorem Bd.mul {k l : Nat} {x y : Int} (h : Bd k x) (h' : Bd l y) : Bd (k + l) (x * y) := by
  unfold Bd at *
  rw [Int.natAbs_mul, Nat.pow_add]
  exact Nat.mul_lt_mul'' h h'
theorem Bd.ok {k l : Nat} {x y : Int} (h : Bd k x) (h' : Bd l y) (hk : 0 < k) (hl : 0 < l) (hs : k + l ≤ 1000000) : MulOk x y := by
  have := h.log hk
  have := h'.log hl
  unfold MulOk
  omega
theorem Bd.lg {k : Nat} {x : Int} (h : Bd k x) (hk : 0 < k) (hs : k ≤ 1920) : Log x := Nat.lt_of_lt_of_le (h.log hk) hs
@[simp high] theorem e_mul (i j : Int) (h : MulOk i j) : iMul (.int i) (.int j) = some (.int (i * j)) := by
  show (if decide (i.natAbs.log2 + j.natAbs.log2 < 1000000) = true then some (D.int (i * j)) else none) = _
  rw [if_pos (decide_eq_true (show i.natAbs.log2 + j.natAbs.log2 < 1000000 from h))]
theorem log_lt64 {j : Int} (h0 : 0 < j) (h1 : j < 18446744073709551616) : j.natAbs.log2 < 9000 := by
  have : Bd 64 j := by unfold Bd; omega
  exact Nat.lt_trans (this.log (by decide)) (by decide)
@[simp high] theorem e_div (i j : Int) (h0 : 0 < j) (h1 : j < 18446744073709551616) : iDiv (.int i) (.int j) = some (.int (i / j)) := by
  show (if (decide (0 < j) && decide (j.natAbs.log2 < 9000)) = true then some (D.int (i / j)) else none) = _
  rw [if_pos (by rw [decide_eq_true h0, decide_eq_true (log_lt64 h0 h1)]; rfl)]
/-! ### the text of a number -/
theorem ofs_app (a b : String) : Str.ofString (a ++ b) = Str.ofString a ++ Str.ofString b := by
  rw [Str.ofString_eq_toList, Str.ofString_eq_toList, Str.ofString_eq_toList]
  apply Str.ext'
  rw [Str.cps_append]
  simp
def tx (i : Int) : Str := Str.ofString (toString i)
theorem tx_neg {i : Int} (h : 0 < i) : tx (-i) = Str.ofString "-" ++ tx i := by
  obtain ⟨n, rfl⟩ := Int.eq_ofNat_of_zero_le (Int.le_of_lt h)
  cases n with
  | zero => omega
  | succ m =>
    unfold tx
    rw [← ofs_app]
    rfl
theorem tx_len {i : Int} (h : Log i) : (tx i).length ≤ 1921 := by
  unfold tx
  rw [ofString_length]
  exact int_text_length_le (by decide) h
@[simp] theorem e_fmtI (i : Int) (h : Log i) : fmtF (.int i) = some (.str (tx i)) := by
  show (if i.natAbs.log2 < 1920 then some (D.str (toString i)) else none) = _
  rw [if_pos (show i.natAbs.log2 < 1920 from h)]
  rfl
@[simp] theorem e_strI (i : Int) (h : Log i) : strF [.int i] = some (.str (tx i)) := by
  show (if i.natAbs.log2 < 1920 then some (D.str (toString i)) else none) = _
  rw [if_pos (show i.natAbs.log2 < 1920 from h)]
  rfl
theorem tx_pos (i : Int) : 0 < (tx i).length := by
  have nn : ∀ n : Nat, 0 < (tx (n : Int)).length := fun n => by
    have h := TL.tl_num n
    have h2 := TL.numL_ne n
    rw [← h] at h2
    unfold tx Str.length
    unfold TL.tl at h2
    cases e : (Str.ofString (toString ((n : Nat) : Int))).cps with
    | mk l =>
      rw [e] at h2
      cases l with
      | nil => exact absurd rfl h2
      | cons a l => exact Nat.succ_pos _
  by_cases h : 0 ≤ i
  · obtain ⟨n, rfl⟩ := Int.eq_ofNat_of_zero_le h
    exact nn n
  · have : i = -(-i) := by omega
    rw [this, tx_neg (by omega), Str.length_append]
    obtain ⟨n, e⟩ := Int.eq_ofNat_of_zero_le (show 0 ≤ -i by omega)
    rw [e]
    have := nn n
    omega
theorem len_ne {a b : Str} (h : 0 < a.length) (hb : b.length = 0) : ¬ a = b := fun e => by
  rw [e, hb] at h
  exact Nat.lt_irrefl _ h
@[simp] theorem e_sAdd (a b : Str) (h : a.length + b.length ≤ 1000000) : sAdd (.str a) (.str b) = some (.str (a ++ b)) := by
  show (if _ then _ else _) = _
  rw [if_pos h]
theorem sok_app {a b : Str} (ha : PyData.strOk a = true) (hb : PyData.strOk b = true) : PyData.strOk (a ++ b) = true := by
  unfold PyData.strOk at *
  rw [Str.cps_append, Array.all_append, ha, hb]
  rfl
theorem sok_ofs (s : String) : PyData.strOk (Str.ofString s) = true := by
  unfold PyData.strOk
  rw [Str.ofString_eq_toList]
  simp only [List.all_toArray, List.all_eq_true, List.mem_map, forall_exists_index, and_imp]
  rintro n c _ rfl
  refine decide_eq_true ?_
  have h := c.valid
  unfold UInt32.isValidChar Nat.isValidChar at h
  show c.val.toNat < 1114112
  rcases h with h | h
  · exact Nat.lt_trans h (by decide)
  · exact h.2
end DF

set_option Elab.async false
set_option linter.all false
set_option maxRecDepth 100000
set_option maxHeartbeats 4000000
namespace DF
open PySem PySem.Spec PyProof.Rows L2
/-! ### several except clauses, each with a name -/
/-- behind a clause its name is gone -/
def offE (i : Nat) (D : Ends) : Ends := { nx := fun τ G => D.nx (τ.set i none) G, rt := D.rt, bk := fun τ G => D.bk (τ.set i none) G, ct := fun τ G => D.ct (τ.set i none) G }
abbrev Cl := Value × Nat × (Addr → Value → Option Addr → TS)
def wNam (K : PySem.W.Frag) (Wo : WX) (D : Ends) : List Cl → WX
  | [] => Wo
  | q :: r => fun cls d σ H => ∃ b, PySem.W.exmOne K cls q.1 = some b ∧ (b = true → ∀ a, H a = none → q.2.2 a cls d (offE q.2.1 D) (σ.set q.2.1 (some (.ref a))) H) ∧ (b = false → wNam K Wo D r cls d σ H)
inductive HdN (X : Cx) : List ExceptHandler → List Cl → Prop
  | nil : HdN X [] []
  | cons {x n : Str} {cv : Value} {i : Nat} {ts : Addr → Value → Option Addr → TS} {st : Stmt} {sts : List Stmt} {p1 p2 : Pos} {hs : List ExceptHandler} {l : List Cl} (nm : Names X x cv) (hi : X.N[i]? = some n) (hl : X.env.kindOf n = some .local)
      (su : ∀ (a : Addr) (oe : Obj) (cls : Value) (d : Option Addr) (pn : List (Addr × Obj)), Zc cls d oe → (∃ vs, oe.data = .fields vs) → PSs (X.suite a ((a, oe) :: pn)) (st :: sts) (ts a cls d)) (more : HdN X hs l) :
      HdN X (.ExceptHandler (some (.Name x p1)) (some n) (st :: sts) p2 :: hs) ((cv, i, ts) :: l)
section
variable {X : Cx} {body : List Stmt} {h1 : ExceptHandler} {hs : List ExceptHandler} {l : List Cl} {pos : Pos} {tb : WX → TS} {Wo : WX}
theorem try_named (es : X.stack = X.env :: X.outer) (ef : X.env.frame = some X.env.locals) (nd : X.N.Nodup) (tk : Takes X Wo)
    (hb : ∀ (W : WX) (pn : List (Addr × Obj)) (xe : Value → Shared → Prop), Takes (X.tr pn xe) W → PassesOwn (model X.prog X.w) X.A X.env xe → PSs (X.tr pn xe) body (tb W))
    (hk : HdN X (h1 :: hs) l) : PS X (.Try body (h1 :: hs) [] [] pos) (fun D σ H => tb (wNam X.K Wo D l) D σ H) := by
  refine ⟨fun pins s σ H D I0 want => ?_⟩
  have ok := I0.ok
  have frm : X.A.frames = some (X.env :: X.outer) := ok.frames.trans (congrArg some es)
  refine wpAny_Try_except ?_
  refine wpAny_mono ((hb (wNam X.K Wo D l) (X.pn ++ pins)
    (fun ev z1 => wpAny (model X.prog X.w) X.A (noteFrame ev X.env) (fun _ z2 => wpAny (model X.prog X.w) X.A (setFlight ev none) (fun _ z3 =>
      wpAny (model X.prog X.w) X.A (handleBy ev X.env (h1 :: hs)) (SP X pins D) X.xe z3) X.xe z2) X.xe z1)
    (fun ev z caught => ?_) PassesOwn.looking).run [] s σ H D (I0.toTry _) want) (fun fl z sp => ?_) (fun _ _ q => q)
  · obtain ⟨a, G, sI, pins1, τ, H1, cls, d, rfl, Jt, below, up, sky, na, eos, bare, w⟩ := caught
    have J : Inv X pins τ H1 sI := Jt.ofTry ok
    have sky1 : Sky G (X.env :: X.outer) a (Zc cls d) X.env.locals z.heap := es ▸ sky
    show wpAny (model X.prog X.w) X.A (noteFrame (.ref a) X.env) _ _ _
    refine Sky.land Zc.steady frm ef sky1 fun g fly up1 => ?_
    have Jg : Inv X pins τ H1 { z with heap := g } := J.landed below fly.1 (up.trans up1) eos bare
    obtain ⟨oe, ovs, eoe, zoe, doe⟩ := fly.there
    have offFr : a ∉ frs (X.env :: X.outer) := fun hm => by
      obtain ⟨_, o2, e2, n2⟩ := fly.2.2.1.mem hm
      rw [eoe] at e2
      cases e2
      exact n2 _ doe
    have offL : a ≠ X.env.locals := fun q => offFr (List.mem_filterMap.mpr ⟨X.env, List.mem_cons_self, by rw [ef, q]⟩)
    have offF : a ∉ X.fs := fun hm => by
      obtain ⟨en, m1, m2⟩ := List.mem_filterMap.mp hm
      exact offFr (List.mem_filterMap.mpr ⟨en, List.mem_cons_of_mem _ m1, m2⟩)
    have Sg := Jg.suite eoe doe na offL offF
    have each : ∀ {hz : List ExceptHandler} {lz : List Cl}, HdN X hz lz → wNam X.K Wo D lz cls d τ H1 → wpAny (model X.prog X.w) X.A (handleBy (.ref a) X.env hz) (SP X pins D) X.xe { z with heap := g } := by
      intro hz lz hd
      induction hd with
      | nil =>
        intro w
        refine wpAny_handleBy_nil ?_
        obtain ⟨_, _, _, o5, v5, T5, _, _, e5, _, d5, i5, _⟩ := id fly
        unfold PySem.passOn
        refine wpAny_bind (wpAny_field e5 d5 i5 ?_)
        rw [if_neg (show ¬ ((Value.ref T5 == Value.none) = true) from by simp)]
        have up2 : wpAny (model X.prog X.w) X.A (setFlight (.ref a) X.env.frame) (fun _ z4 => wpAny (model X.prog X.w) X.A (throw (.ref a) : Sem Flow) (SP X pins D) X.xe z4) X.xe { z with heap := g } := by
          rw [ef]
          exact HandSPX.setFlight_upZ fly fun g4 held up4 => wpAny_throw (tk _ _ ⟨a, G, sI, pins, τ, H1, cls, d, rfl, J, below, (up.trans up1).trans up4, .inr (.inr (es ▸ held)), na, eos, bare, w⟩)
        first
          | exact wpAny_bind (wpAny_pure (wpAny_bind up2))
          | exact wpAny_bind up2
      | @cons x n cv i ts st sts p1 p2 hs2 l2 nm hi hl su more ih =>
        intro w
        obtain ⟨b, eb, yes, no⟩ := w
        refine wpAny_handleBy_cons (codeAny_handlers_test ?_) (by intro q; cases q)
        have lkT : PySem.W.Looks (model X.prog X.w) g (typeOf (.ref a)) cls := fun A Q E y k q => wpAny_typeOf_ref (k _ _ eoe) (by rw [zoe.1]; exact q)
        have lkM := PySem.W.exm_one (M := model X.prog X.w) Jg.kIn lkT eb
        have named : ∀ {Q : Value → Shared → Prop} {E : Value → Shared → Prop}, Q cv { z with heap := g } → wpAny (model X.prog X.w) (X.A.mark (some (.ref a))) (eval (.Name x p1) X.env) Q E { z with heap := g } := fun {Q E} q => by
          obtain ⟨g1, g2, g3 | ⟨g3, g4, g5⟩⟩ := nm
          · exact ld_glob (X := X.suite a ((a, oe) :: (X.pn ++ pins))) Sg g1 g3 q g2
          · exact ld_blt (X := X.suite a ((a, oe) :: (X.pn ++ pins))) Sg g1 g3 g4 q g5 g2
        refine named (lkM.here ?_)
        cases b with
        | false =>
          show wpAny _ X.A (handleBy (.ref a) X.env hs2) _ _ _
          exact ih (no rfl)
        | true =>
          refine codeAny_handlers_suite_as (HandSPX.lands_againZ fly fun g4 fly4 up4 => ?_)
          have J4 : Inv X pins τ H1 { z with heap := g4 } := J.landed below fly4.1 ((up.trans up1).trans up4) eos bare
          obtain ⟨o4, v4, e4, z4, d4⟩ := fly4.there
          have S4 := J4.suite e4 d4 na offL offF
          refine store_ok (X := X.suite a ((a, o4) :: (X.pn ++ pins))) (v := .ref a) S4 nd hi (.inl hl) rfl (fun y S5 => ?_) (.inr hl)
          refine wpAny_mono ((su a o4 cls d (X.pn ++ pins) z4 ⟨_, d4⟩).run [] y _ H1 _ S5 (yes rfl a na)) (fun fl y6 sp => ?_) (fun _ _ q => q.elim)
          have goes : ∀ {τ6 : L2.St} {H6 : Hp} {Q : Shared → Prop}, Inv (X.suite a ((a, o4) :: (X.pn ++ pins))) [] τ6 H6 y6 → (∀ y7, Inv X pins (τ6.set i none) H6 y7 → Q y7) →
              wpAny (model X.prog X.w) X.A (do bindName X.env n .none; unbindBehindTheSuite X.env n p2) (fun _ y7 => Q y7) X.xe y6 := fun {τ6 H6 Q} S6 hq => gone_ok (S6.unsuite ok) nd hi hl hq
          cases fl with
          | ret u =>
            obtain ⟨v6, τ6, H6, S6, r6, q6⟩ := sp
            exact goes S6 fun y7 J7 => ⟨_, _, _, J7, r6, q6⟩
          | next =>
            obtain ⟨τ6, H6, S6, q6⟩ := sp
            exact goes S6 fun y7 J7 => ⟨_, _, J7, q6⟩
          | brk =>
            obtain ⟨τ6, H6, S6, q6⟩ := sp
            exact goes S6 fun y7 J7 => ⟨_, _, J7, q6⟩
          | cont =>
            obtain ⟨τ6, H6, S6, q6⟩ := sp
            exact goes S6 fun y7 J7 => ⟨_, _, J7, q6⟩
    exact each hk w
  · cases fl with
    | ret u =>
      obtain ⟨v, τ, H1, Jt, r, q⟩ := sp
      exact ⟨v, τ, H1, Jt.ofTry ok, r, q⟩
    | next =>
      obtain ⟨τ, H1, Jt, q⟩ := sp
      exact wpAny_execs_nil ⟨τ, H1, Jt.ofTry ok, q⟩
    | brk =>
      obtain ⟨τ, H1, Jt, q⟩ := sp
      exact ⟨τ, H1, Jt.ofTry ok, q⟩
    | cont =>
      obtain ⟨τ, H1, Jt, q⟩ := sp
      exact ⟨τ, H1, Jt.ofTry ok, q⟩
end
end DF

set_option Elab.async false
set_option linter.all false
set_option maxRecDepth 100000
set_option maxHeartbeats 4000000
namespace DF
open PySem PySem.Spec PyProof.Rows L2
/-! ### exception classes of the text over any of the built-in ones, called with values and keywords -/
section
open PySem.HandSPX Builtin
variable {prog : Program} {w : World} {M : Model} {A : Around} {E : Value → Shared → Prop} {R : Result → Shared → Prop} {h : Heap} {g : Array GenState} {d : Drawn} {t : Nat} {os : OsState}
variable {nm q : Str} {C N : Addr} {bs bm bmB : List Value} {hdct : Bool} {sn : List Str} {sub : List Value} {ab : Bool} {col : Option Bool} {dd : Option Addr} {k0 k1 k2 k3 k5 : Option Value} {B newId initId : String} {us : List Value} {kw : List (Str × Value)}
theorem xk_check (FB : ExcBaseFacts B newId initId bmB) (ct : ∀ Y : String, bm.contains (.type Y) = bmB.contains (.type Y)) {Q : Unit → Shared → Prop}
    (hC : h.get? C = some (excClassObj nm q C N bs bm hdct sn sub ab col dd k0 k1 k2 k3 k5 newId)) (want : Q () ⟨h, g, d, t, os⟩) : wpAny M A (checkBuiltinCall newId ⟨.ref C :: us, kw⟩) Q E ⟨h, g, d, t, os⟩ := by
  have inB : (Value.ref C :: bm).contains (.type B) = true := by rw [List.contains_cons, ct, FB.hasB, Bool.or_true]
  have ns := FB.noStar
  simp only [checkBuiltinCall, FB.newKind, FB.newSplit, FB.newRow]
  repeat (first | with_reducible refine wpAny_loadPart_at hC ?_ | (with_reducible refine wpAny_isSubtype_exc hC ?_; rw [inB]) | with_reducible refine wpAny_staticBase_exc hC ?_ | with_reducible refine wpAny_madeBy_exc hC ?_ | simp only [bne_self_eq_false, Bool.false_eq_true, if_false] | wp_step)
  exact want
theorem xk_new (FB : ExcBaseFacts B newId initId bmB) (ct : ∀ Y : String, bm.contains (.type Y) = bmB.contains (.type Y))
    (hC : h.get? C = some (excClassObj nm q C N bs bm hdct sn sub ab col dd k0 k1 k2 k3 k5 newId)) (hl : us.length ≤ sizeLine)
    (want : R (.ok (.ret (.ref (h.objs.size + 1)))) ⟨(h.push (PySem.W.kdv_tup us)).push (excO C h.objs.size), g, d, t, os⟩) :
    codeAny (model prog w) A (.builtin newId ⟨.ref C :: us, kw⟩) R ⟨h, g, d, t, os⟩ := by
  have he := FB.ends
  have inB : (Value.ref C :: bm).contains (.type B) = true := by rw [List.contains_cons, ct, FB.hasB, Bool.or_true]
  have noA : (Value.ref C :: bm).contains (.type "AttributeError") = false := by rw [List.contains_cons, ct, FB.noAttr]; rfl
  have noN : (Value.ref C :: bm).contains (.type "NameError") = false := by rw [List.contains_cons, ct, FB.noName]; rfl
  refine codeAny_builtinAt FB.entry ?_
  unfold Builtin.«BaseException.__new__»
  refine PySem.wpAt_bind ?_
  show PySem.wpAt _ _ _ (stack >>= _) _ _ _
  refine PySem.wpAt_bind (PySem.wpAt_stack fun p1 p2 => PySem.wpAt_of_wpAny ?_)
  wp_walk
  refine PySem.wpAt_of_wpAny ?_
  rw [FB.owner]
  repeat (first | with_reducible refine wpAny_madeHere_exc FB.canon hC ?_ | with_reducible refine wpAny_loadPart_at hC ?_ | (with_reducible refine wpAny_isSubtype_exc hC ?_; first | rw [inB] | rw [noA] | rw [noN]) | wp_step)
  show R _ _
  rw [Heap.size_push]
  exact want
theorem xk_tcall (FB : ExcBaseFacts B newId initId bmB) (ct : ∀ Y : String, bm.contains (.type Y) = bmB.contains (.type Y)) {fI : Addr} {Q : PySem.Fin → Shared → Prop}
    (hC : h.get? C = some (excClassObj nm q C N bs bm hdct sn sub ab col dd k0 k1 k2 k3 k5 newId))
    (hi : PySem.W.Looks (model prog w) h (typeLookup (.ref C) "__init__") (some (.ref fI))) (hb : ∀ self, PySem.W.Looks (model prog w) h (bindSpecial (.ref fI) self) (.ref fI, [self])) (hl : us.length ≤ sizeLine)
    (want : codeAny (model prog w) A (.call (.ref fI) ⟨.ref (h.objs.size + 1) :: us, kw⟩)
      (fun r z => match r with | .ok (.ret v) => v = .none ∧ Q (.done (.ret (.ref (h.objs.size + 1)))) z | .ok _ => False | .error e => E e z)
      ⟨(h.push (PySem.W.kdv_tup us)).push (excO C h.objs.size), g, d, t, os⟩) :
    wpAny (model prog w) A (Builtin.«type.__call__» ⟨.ref C :: us, kw⟩) Q E ⟨h, g, d, t, os⟩ := by
  repeat (first | with_reducible refine wpAny_loadPart_at hC ?_ | with_reducible refine wpAny_madeBy_exc hC ?_ | wp_step)
  refine codeAny_call_builtin_code (Code.quiet_builtin _ FB.quiet) (xk_check FB ct hC ?_)
  refine xk_new FB ct hC hl ?_
  show wpAny _ _ _ _ _ _
  have up : ∀ b o, h.get? b = some o → ((h.push (PySem.W.kdv_tup us)).push (excO C h.objs.size)).get? b = some o := fun b o e => Heap.get?_push_of_some _ (Heap.get?_push_of_some _ e)
  have hC1 := up _ _ hC
  have e1 : ((h.push (PySem.W.kdv_tup us)).push (excO C h.objs.size)).get? (h.objs.size + 1) = some (excO C h.objs.size) := by heap_get
  have cc : (Value.ref C :: bm).contains (.ref C) = true := by simp
  have i1 := hi.keeps up
  have b1 := (hb (.ref (h.objs.size + 1))).keeps up
  unfold isInstance
  repeat (first | with_reducible refine wpAny_loadPart_at e1 ?_ | (with_reducible refine wpAny_isSubtype_exc hC1 ?_; rw [cc]) | wp_step)
  show wpAny _ _ (typeLookup (.ref C) _) _ _ _
  refine i1.at (wpAny_holding (wpAny_bind (b1.at (wpAny_bind (wpAny_call (codeAny_mono want fun r z y => ?_))))))
  rcases r with e | (v | _ | _ | _) <;> first | exact y | exact y.elim | skip
  obtain ⟨rfl, y⟩ := y
  first
    | exact wpAny_pure (wpAny_pure y)
    | (wp_walk; exact y)
theorem xk_ccheck {Q : Unit → Shared → Prop} (hC : h.get? C = some (excClassObj nm q C N bs bm hdct sn sub ab col dd k0 k1 k2 k3 k5 newId))
    (want : Q () ⟨h, g, d, t, os⟩) : wpAny M A (checkBuiltinCall "type.__call__" ⟨.ref C :: us, kw⟩) Q E ⟨h, g, d, t, os⟩ := by
  have f3 := tc_sub
  have hT : (⟨h, g, d, t, os⟩ : Shared).TypeIs (.ref C) "type" := ⟨_, hC, rfl⟩
  simp only [checkBuiltinCall, tc_kind, tc_split]
  repeat (any_goals (first | assumption | with_reducible refine wpAny_loadPart_at hC ?_ | with_reducible refine wpAny_onRaise ?_ | with_reducible refine wpAny_map ?_ | wp_step))
theorem xk_call (FB : ExcBaseFacts B newId initId bmB) (ct : ∀ Y : String, bm.contains (.type Y) = bmB.contains (.type Y)) {fI : Addr}
    (hC : h.get? C = some (excClassObj nm q C N bs bm hdct sn sub ab col dd k0 k1 k2 k3 k5 newId))
    (hi : PySem.W.Looks (model prog w) h (typeLookup (.ref C) "__init__") (some (.ref fI))) (hb : ∀ self, PySem.W.Looks (model prog w) h (bindSpecial (.ref fI) self) (.ref fI, [self])) (hl : us.length ≤ sizeLine)
    (want : codeAny (model prog w) (A.under (.builtin "type.__call__" ⟨.ref C :: us, kw⟩)) (.call (.ref fI) ⟨.ref (h.objs.size + 1) :: us, kw⟩) (PySem.W.InitBack (h.objs.size + 1) R)
      ⟨(h.push (PySem.W.kdv_tup us)).push (excO C h.objs.size), g, d, t, os⟩) :
    codeAny (model prog w) A (.call (.ref C) ⟨us, kw⟩) R ⟨h, g, d, t, os⟩ := by
  have f1 := tc_lookup
  have f2 := tc_bind (.ref C)
  have hT : (⟨h, g, d, t, os⟩ : Shared).TypeIs (.ref C) "type" := ⟨_, hC, rfl⟩
  refine codeAny_of_tree ?_
  show wpAny _ _ (callAny (.ref C) _) _ _ _
  repeat (any_goals (first | assumption | with_reducible refine wpAny_loadPart_at hC ?_ | wp_step))
  refine ⟨rfl, ?_⟩
  refine codeAny_call_builtin_at (Code.quiet_builtin _ (by decide +kernel)) entry_typeCall (xk_ccheck hC (xk_tcall FB ct hC hi hb hl ?_))
  refine codeAny_mono want fun r z y => ?_
  rcases r with e | (v | _ | _ | _) <;> exact y
end
/-- a built-in exception class that classes of the text may stand over -/
structure BaB (B newId initId : String) (bmB : List Value) : Prop where
  F : ExcBaseFacts B newId initId bmB
  S : StoreFacts B bmB "object.__setattr__" "object"
def baOf : String → List Value
  | "ValueError.__new__" => [.type "ValueError", .type "Exception", .type "BaseException", .type "object"]
  | "LookupError.__new__" => [.type "LookupError", .type "Exception", .type "BaseException", .type "object"]
  | "RuntimeError.__new__" => [.type "RuntimeError", .type "Exception", .type "BaseException", .type "object"]
  | "ArithmeticError.__new__" => [.type "ArithmeticError", .type "Exception", .type "BaseException", .type "object"]
  | _ => []
def inOf : String → String
  | "ValueError.__new__" => "ValueError.__init__"
  | "LookupError.__new__" => "LookupError.__init__"
  | "RuntimeError.__new__" => "RuntimeError.__init__"
  | "ArithmeticError.__new__" => "ArithmeticError.__init__"
  | _ => ""
theorem baOf_ok {n : String} (h : (baOf n).isEmpty = false) : ∃ B, BaB B n (inOf n) (baOf n) := by
  unfold baOf at h
  split at h
  · exact ⟨_, F.excBase_ValueError, F.store_ValueError⟩
  · exact ⟨_, F.excBase_LookupError, F.store_LookupError⟩
  · exact ⟨_, F.excBase_RuntimeError, F.store_RuntimeError⟩
  · exact ⟨_, F.excBase_ArithmeticError, F.store_ArithmeticError⟩
  · cases h
/-- what the written part says of such a class -/
structure OxG (K : PySem.W.Frag) (C : Addr) : Prop where
  cls : ∃ (B newId initId : String) (bmB : List Value) (nm q : Str) (N : Addr) (bs bm : List Value) (sn : List Str) (sub : List Value) (ab : Bool) (col : Option Bool) (dd : Option Addr) (k0 k1 k2 k3 k5 : Option Value), BaB B newId initId bmB ∧
    K.lookup C = some (excClassObj nm q C N bs bm true sn sub ab col dd k0 k1 k2 k3 k5 newId) ∧ PySem.W.excTail bmB bm = true
  set : PySem.W.findIn K (.ref C) "__setattr__" = some (some (.builtin "object.__setattr__"))
  isE : PySem.W.subIn K (.ref C) (.type "BaseException") = some true
  ty : PySem.W.typeIn K (.ref C) = some (.type "type")
  kp : PySem.W.keepIn K (.ref C) = true
section
open Builtin Builtin.ObjectAttr PySem.HandSPX
variable {prog : Program} {w : World} {A : Around} {E : Value → Shared → Prop} {R : Result → Shared → Prop} {hp : Heap} {g : Array GenState} {d : Drawn} {t : Nat} {os : OsState} {K : PySem.W.Frag} {name : Str} {tk : Tok} {v : Value} {x C dx : Addr} {fv : Array Value} {B : String} {bmB : List Value}
theorem xs_new (SF : StoreFacts B bmB "object.__setattr__" "object") (X : K.In hp) (hx : hp.get? x = some { cls := .ref C, data := .fields fv }) (ov : PySem.W.excOver K C bmB = true) (hd : PySem.W.hasDictIn K C = true) (ha : PySem.W.findIn K (.ref C) name = some none)
    (want : ∀ h1 tk1 dx, (∀ b o, b ≠ x → hp.get? b = some o → h1.get? b = some o) → hp.objs.size ≤ dx → dx ≠ x → h1.get? x = some { cls := .ref C, dict := some dx, data := .fields fv } →
      h1.Ns1 dx (fun y => if y = name then some v else none) → R (.ok (.ret .none)) ⟨h1, g, d, tk1, os⟩) :
    codeAny (model prog w) A (.call (.builtin "object.__setattr__") ⟨[.ref x, .str name tk, v], []⟩) R ⟨hp, g, d, t, os⟩ := by
  have J : PySem.W.InstAt hp x { cls := .ref C, data := .fields fv } C none := ⟨hx, rfl, rfl, trivial⟩
  have ne : x ≠ hp.objs.size := Nat.ne_of_lt (Heap.lt_size hx)
  have tkr : PySem.W.takerIn K C name = some none := by unfold PySem.W.takerIn; rw [ha]; rfl
  refine PySem.W.osa_openX (od := none) SF X J ov tkr fun b => ?_
  obtain ⟨cd, hcd, hh⟩ := PySem.W.any_some hd
  have cls1 : PySem.W.Looks (model prog w) hp (classData C) cd := PySem.W.looks_clsIn X hcd
  show wpAny _ _ (storeInOwnDict (.ref x) (.ref C) (.str name tk) name v b) _ _ _
  obtain ⟨nm, bs, mro, ns, qn, hd1, sn, sb, ab, col, del⟩ := cd
  dsimp only at hh
  subst hh
  unfold storeInOwnDict ownDictForStores
  repeat (first | with_reducible refine store_in_new ?_ ?_ | with_reducible refine wpAny_loadPart_at hx ?_ | with_reducible refine cls1.at ?_ | wp_step)
  · exact ⟨_, #[], _, (Heap.get?_update_ne _ _ _ _ ne.symm).trans (Heap.get?_push_at rfl rfl), rfl, fun e he => absurd he (by simp), fun _ => rfl⟩
  · intro h1 tk1 hn hs
    have hx1 : (hp.push { cls := .type "dict", data := .dict #[] }).get? x = some { cls := .ref C, data := .fields fv } := Heap.get?_push_of_some _ hx
    refine want h1 tk1 hp.objs.size (fun b o hb ho => ?_) (Nat.le_refl _) ne.symm ?_ hn
    · exact (hs.2 b (Nat.ne_of_lt (Heap.lt_size ho))).trans ((Heap.get?_update_ne _ _ _ _ hb).trans (Heap.get?_push_of_some _ ho))
    · exact (hs.2 x ne).trans (Heap.get?_update_self _ hx1 rfl)
theorem xs_old {m0 : Str → Option Value} {nl : List Str} (SF : StoreFacts B bmB "object.__setattr__" "object") (X : K.In hp) (hx : hp.get? x = some { cls := .ref C, dict := some dx, data := .fields fv }) (hns : hp.Ns1 dx m0) (hw : Within m0 nl) (hz : nl.length ≤ 1000)
    (ov : PySem.W.excOver K C bmB = true) (hd : PySem.W.hasDictIn K C = true) (ha : PySem.W.findIn K (.ref C) name = some none)
    (want : ∀ h1 tk1, (∀ b o, b ≠ dx → hp.get? b = some o → h1.get? b = some o) → h1.Ns1 dx (fun y => if y = name then some v else m0 y) → R (.ok (.ret .none)) ⟨h1, g, d, tk1, os⟩) :
    codeAny (model prog w) A (.call (.builtin "object.__setattr__") ⟨[.ref x, .str name tk, v], []⟩) R ⟨hp, g, d, t, os⟩ := by
  obtain ⟨oD, esD, epD, hoD, hdD, _⟩ := hns.count hw
  have J : PySem.W.InstAt hp x { cls := .ref C, dict := some dx, data := .fields fv } C (some oD) := ⟨hx, rfl, rfl, hoD⟩
  have tkr : PySem.W.takerIn K C name = some none := by unfold PySem.W.takerIn; rw [ha]; rfl
  refine PySem.W.osa_openX (od := some oD) SF X J ov tkr fun b => ?_
  obtain ⟨cd, hcd, hh⟩ := PySem.W.any_some hd
  have cls1 : PySem.W.Looks (model prog w) hp (classData C) cd := PySem.W.looks_clsIn X hcd
  show wpAny _ _ (storeInOwnDict (.ref x) (.ref C) (.str name tk) name v b) _ _ _
  obtain ⟨nm, bs, mro, ns, qn, hd1, sn, sb, ab, col, del⟩ := cd
  dsimp only at hh
  subst hh
  unfold storeInOwnDict ownDictForStores
  repeat (first | with_reducible refine PySem.OEX.store_in_old hns hw hz ?_ | with_reducible refine wpAny_loadPart_at hx ?_ | with_reducible refine cls1.at ?_ | wp_step)
  intro h1 tk1 hn hs
  exact want h1 tk1 (fun b o hb ho => (hs.2 b hb).trans ho) hn
end
theorem OxG.over {K : PySem.W.Frag} {C : Addr} (T : OxG K C) : ∃ (B newId initId : String) (bmB : List Value), BaB B newId initId bmB ∧ PySem.W.excOver K C bmB = true ∧ PySem.W.hasDictIn K C = true := by
  obtain ⟨B, n, i, bmB, nm, q, N, bs, bm, sn, sub, ab, col, dd, k0, k1, k2, k3, k5, ba, lk, tl⟩ := T.cls
  have hcl : PySem.W.clsIn K C = some { name := nm, bases := bs, mro := .ref C :: bm, ns := N, qualname := q, hasDict := true, slotNames := sn, subclasses := sub, abstract := ab, collection := col, hasDel := false } := by unfold PySem.W.clsIn; rw [lk] <;> rfl
  refine ⟨B, n, i, bmB, ba, ?_, ?_⟩
  · unfold PySem.W.excOver
    rw [hcl]
    simp [tl]
  · unfold PySem.W.hasDictIn
    rw [hcl]
    rfl
section
variable {X : Cx} {pins : List (Addr × Obj)} {σ : L2.St} {H : Hp} {s : Shared} {a C dx : Addr} {f : Str} {y : V} {u : Value} {fs : List (Str × V)} {Q : Unit → Shared → Prop} {E : Value → Shared → Prop} {A : Around}
theorem xst_new (T : OxG X.K C) (I : Inv X pins σ H s) (e : H a = some (exo a C none)) (no : PySem.W.findIn X.K (.ref C) f = some none) (ry : RelV y u)
    (h : ∀ dx s1, H dx = none → dx ≠ a → Inv X pins σ (upd (upd H dx (exd dx [(f, y)])) a (exo a C (some dx))) s1 → Q () s1) : wpAny (model X.prog X.w) A (setAttr (.ref a) f u) Q E s := by
  obtain ⟨B, n, i, bmB, ba, ov, hd⟩ := T.over
  obtain ⟨t1, ho⟩ := exo_at I.hok e
  obtain ⟨hp, g, d, t, os⟩ := s
  refine PySem.W.set_plain I.kIn (ox := { cls := .ref C, dict := none, data := .fields #[.ref t1, .none, .none, .none, .bool false, .none] }) (od := none) ⟨ho, rfl, rfl, trivial⟩ T.set ?_
  refine xs_new ba.S I.kIn ho ov hd no fun h1 tk1 dx k dn dne hx hn => ?_
  have hnd : H dx = none := I.hok.fresh dn
  have nd : ∀ {b : Addr} {o : Obj}, hp.get? b = some o → b ≠ dx := fun q => Nat.ne_of_lt (Nat.lt_of_lt_of_le (Heap.lt_size q) dn)
  have na : ∀ {b : Addr}, H b = none → b ≠ a := fun n z => by rw [z, e] at n; cases n
  have U : Un X.fs [] H (upd (upd H dx (exd dx [(f, y)])) a (exo a C (some dx))) hp h1 := {
    keep := fun b o q n _ _ => k b o (na n) q
    slot := fun b o q n _ _ => ⟨o.slots, k b o (na n) q⟩
    free := fun b o q n _ => by rw [upd_ne (na n), upd_ne (nd q)]; exact n
    there := fun b o q _ => if hb : b = a then ⟨_, hb ▸ hx⟩ else ⟨o, k b o hb q⟩
    tups := fun b xs q => by rw [upd_ne (at_ne e q exo_tup), upd_ne (ne_of_none q hnd)]; exact q
    frzs := fun b o v q => by rw [upd_ne (at_ne e q exo_frz), upd_ne (ne_of_none q hnd)]; exact q
    tbls := fun b ps q => ⟨#[], by rw [upd_ne (at_ne e q exo_tbl), upd_ne (ne_of_none q hnd), q]; simp⟩ }
  refine h dx _ hnd dne (I.un (t' := tk1) U fun b o q => ?_)
  by_cases hb : b = a
  · subst hb
    rw [upd_same] at q
    cases q
    exact exo_ok hx
  rw [upd_ne hb] at q
  by_cases hb2 : b = dx
  · subst hb2
    rw [upd_same] at q
    cases q
    exact exd_ok hn (relO_put (fs := []) ry fun _ => True.intro)
  rw [upd_ne hb2] at q
  refine (I.hok b o q).stay (fun c v hc z => k c v ?_ z) (fun c hc => ?_) (fun c xs hc => ?_)
  · exact hc.elim (fun hc => hc ▸ hb) fun hc => at_ne e hc exo_own
  · rw [upd_ne (at_ne e hc exo_own), upd_ne (ne_of_none hc hnd)]
    exact hc
  · rw [upd_ne (at_ne e hc exo_tup), upd_ne (ne_of_none hc hnd)]
    exact hc
theorem xst_old (T : OxG X.K C) (I : Inv X pins σ H s) (e : H a = some (exo a C (some dx))) (ed : H dx = some (exd dx fs)) (hl : fs.length ≤ 900) (no : PySem.W.findIn X.K (.ref C) f = some none) (ry : RelV y u)
    (h : ∀ s1, Inv X pins σ (upd H dx (exd dx ((f, y) :: fs))) s1 → Q () s1) : wpAny (model X.prog X.w) A (setAttr (.ref a) f u) Q E s := by
  obtain ⟨B, n, i, bmB, ba, ov, hd⟩ := T.over
  obtain ⟨t1, ho⟩ := exo_at I.hok e
  obtain ⟨mA, hns, rel⟩ := exd_at I.hok ed
  have hw := within_of rel
  obtain ⟨hp, g, d, t, os⟩ := s
  obtain ⟨oD, _, _, hoD, _, _⟩ := hns.count hw
  refine PySem.W.set_plain I.kIn (ox := { cls := .ref C, dict := some dx, data := .fields #[.ref t1, .none, .none, .none, .bool false, .none] }) (od := some oD) ⟨ho, rfl, rfl, hoD⟩ T.set ?_
  refine xs_old ba.S I.kIn ho hns hw (by rw [List.length_map]; omega) ov hd no fun h1 tk1 k hn => ?_
  have th : ∃ o, h1.get? dx = some o := let ⟨o, _, _, q, _⟩ := hn; ⟨o, q⟩
  exact h _ (I.write (t' := tk1) (x := dx) (e := dx) (o := exd dx ((f, y) :: fs)) (by rw [ed]; exact True.intro) (.inl rfl) k th (exd_ok hn (relO_put ry rel)))
end
/-- self.f = e -/
def tXst (K : PySem.W.Frag) (f : Str) (to te : TE) : TS := fun D σ H => te σ H fun y H1 => to σ H1 fun x H2 => ∃ a C : Addr, x = .ref a ∧ OxG K C ∧ PySem.W.findIn K (.ref C) f = some none ∧
  ((H2 a = some (exo a C none) ∧ ∀ dx, H2 dx = none → dx ≠ a → D.nx σ (upd (upd H2 dx (exd dx [(f, y)])) a (exo a C (some dx)))) ∨
    ∃ (dx : Addr) (fs : List (Str × V)), H2 a = some (exo a C (some dx)) ∧ H2 dx = some (exd dx fs) ∧ fs.length ≤ 900 ∧ D.nx σ (upd H2 dx (exd dx ((f, y) :: fs))))
theorem ps_xst {X : Cx} {o e : Expr} {to te : TE} {f : Str} {p1 pos : Pos} (ho : PE X o to) (he : PE X e te) (hs : swapsWith e (some (.Attribute o f p1)) pos.line X.env = pure false := by rfl) : PS X (.Assign [.Attribute o f p1] e pos) (tXst X.K f to te) := by
  refine ⟨fun pins s σ H D I h => plainObj_wpAny_Assign_Attribute (thn (he.run pins s σ H _ I h) fun v s1 ⟨y, H1, I1, r1, q1⟩ => thn (ho.run pins s1 σ H1 _ I1 q1) fun u s2 ⟨x, H2, I2, r2, a, C, ex, T, hno, q⟩ => ?_) hs⟩
  subst ex
  obtain rfl : u = Value.ref a := r2
  rcases q with ⟨ea, q⟩ | ⟨dx, fs, ea, ed, hl, q⟩
  · exact xst_new T I2 ea hno r1 fun dx s1 n ne J => ⟨σ, _, J, q dx n ne⟩
  · exact xst_old T I2 ea ed hl hno r1 fun s1 J => ⟨σ, _, J, q⟩
end DF

set_option Elab.async false
set_option linter.all false
set_option maxRecDepth 100000
set_option maxHeartbeats 4000000
namespace DF
open PySem PySem.Spec PyProof.Rows L2
/-! ### exceptions of the text: made -/
def spX (T : Tb) (ec : Nat) : Sp := fun vs H Q _ => ∃ a ws, vs = .ref a :: ws ∧ ws.length = (T.names ec).length ∧ H a = some (exo a (T.cls ec) none) ∧
  ∀ (d : Addr) (fl : List (Str × V)), H d = none → d ≠ a → (∀ (i : Nat) (n : Str) (v : V), (T.names ec)[i]? = some n → ws[i]? = some v → fl.lookup n = some v) → Q .non (upd (upd H d (exd d fl)) a (exo a (T.cls ec) (some d)))
section
variable {P : Program} {w : World} {K : PySem.W.Frag} {mg : Str → Option Value} {base : Heap} {T : Tb} {x qual : Str} {st : Stmt} {f : Addr} {fd : FuncData} {y v v2 fld fld2 : Str} {ec : Nat}
theorem fnX1 (F : FunD K x qual (defArgs st) (defBody st) (defScope st) [] [] f fd) (S : FnScope [y, v] [y, v] (defScope st)) (O : OxG K (T.cls ec)) (hn : T.names ec = [fld]) (no : NoAttr K (T.cls ec) fld)
    (hb : ∀ (cdv : Value) (A : Around) (outer : List Env) (s : Shared) (H : Hp) (E : XK), PSs (cxOf (L2.CX P w) P w K mg base [y, v] qual (defScope st) f cdv A outer s H E) (defBody st) (tXst K fld (tVar 0) (tVar 1))) :
    FnOk P w K mg base (L2.CX P w) 1 f fd [y, v] (spX T ec) := by
  refine F.ok (k := 0) S (fun vs H Q E h => ?_) (fun cdv A outer s H vs Q E hr h => ?_)
  · obtain ⟨a, ws, rfl, hl, _⟩ := h
    rw [List.length_cons, hl, hn]
    rfl
  · obtain ⟨a, ws, rfl, hl, ha, q⟩ := h
    rw [hn] at hl
    obtain ⟨y1, rfl⟩ := List.length_eq_one_iff.mp hl
    refine ⟨_, hb cdv A outer s H E, ⟨y1, rfl, .ref a, rfl, a, _, rfl, O, no, .inl ⟨ha, fun d hd ne => q d _ hd ne fun i n v e1 e2 => ?_⟩⟩⟩
    rw [hn] at e1
    match i, e1, e2 with
    | 0, e1, e2 =>
      simp only [List.getElem?_cons_zero, Option.some.injEq] at e1 e2
      subst e1 e2
      simp
    | i + 1, e1, e2 => simp at e1
theorem upd_swap {H : Hp} {a d : Addr} {o u u2 : HO} (ne : d ≠ a) : upd (upd (upd H d u) a o) d u2 = upd (upd H d u2) a o := by
  funext b
  by_cases h1 : b = d
  · subst h1
    rw [upd_same, upd_ne ne, upd_same]
  · rw [upd_ne h1]
    by_cases h2 : b = a
    · subst h2
      rw [upd_same, upd_same]
    · rw [upd_ne h2, upd_ne h1, upd_ne h2, upd_ne h1]
theorem fnX2 (F : FunD K x qual (defArgs st) (defBody st) (defScope st) [] [] f fd) (S : FnScope [y, v, v2] [y, v, v2] (defScope st)) (O : OxG K (T.cls ec)) (hn : T.names ec = [fld, fld2]) (no : NoAttr K (T.cls ec) fld) (no2 : NoAttr K (T.cls ec) fld2) (nf : (fld == fld2) = false)
    (hb : ∀ (cdv : Value) (A : Around) (outer : List Env) (s : Shared) (H : Hp) (E : XK), PSs (cxOf (L2.CX P w) P w K mg base [y, v, v2] qual (defScope st) f cdv A outer s H E) (defBody st) (tSeq (tXst K fld (tVar 0) (tVar 1)) (tXst K fld2 (tVar 0) (tVar 2)))) :
    FnOk P w K mg base (L2.CX P w) 1 f fd [y, v, v2] (spX T ec) := by
  refine F.ok (k := 0) S (fun vs H Q E h => ?_) (fun cdv A outer s H vs Q E hr h => ?_)
  · obtain ⟨a, ws, rfl, hl, _⟩ := h
    rw [List.length_cons, hl, hn]
    rfl
  · obtain ⟨a, ws, rfl, hl, ha, q⟩ := h
    rw [hn] at hl
    obtain ⟨y1, y2, rfl⟩ : ∃ y1 y2, ws = [y1, y2] := match ws, hl with | [y1, y2], _ => ⟨y1, y2, rfl⟩
    refine ⟨_, hb cdv A outer s H E, ⟨y1, rfl, .ref a, rfl, a, _, rfl, O, no, .inl ⟨ha, fun d hd ne => ⟨y2, rfl, .ref a, rfl, a, _, rfl, O, no2, .inr ⟨d, [(fld, y1)], upd_same, by rw [upd_ne ne, upd_same], (show 1 ≤ 900 by decide), ?_⟩⟩⟩⟩⟩
    rw [upd_swap ne]
    refine q d _ hd ne fun i n v e1 e2 => ?_
    rw [hn] at e1
    match i, e1, e2 with
    | 0, e1, e2 =>
      simp only [List.getElem?_cons_zero, Option.some.injEq] at e1 e2
      subst e1 e2
      simp [List.lookup, nf]
    | 1, e1, e2 =>
      simp only [List.getElem?_cons_succ, List.getElem?_cons_zero, Option.some.injEq] at e1 e2
      subst e1 e2
      simp [List.lookup]
    | i + 2, e1, e2 => simp at e1
end
/-! ### raise -/
section
variable {X : Cx} {e : Expr} {es : List Expr} {ta : TA} {p pos : Pos}
/-- C(e, ..) that is to be raised -/
theorem pmk_ox {CX : CXT} {x : Str} {C fI : Addr} {k : Nat} {fd : FuncData} {ps : List Str} {sp : Sp} (T : OxG X.K C) (me : Meth X.K C "__init__" fI) (F1 : FnOk X.prog X.w X.K X.mg X.base CX k fI fd ps sp) (hr : Room (k + 1) X.A) (hb : Binds X.K fd ps []) (hx : Passes CX X (fun _ _ _ => False)) (hg : Gl X x) (hm : X.mg x = some (.ref C)) (ha : PA X (e :: es) ta)
    (hdb : (x == ("__debug__" : Str)) = false := by decide) (he : starEach (e :: es) X.env = (false, eval e X.env) :: starEach es X.env := by rfl) (hpl : (backTo pos (starEach es X.env)).any (·.1) = false := by rfl) :
    PMk X (.Call (.Name x p) (e :: es) [] pos) (tMkO C sp [] ta) := by
  intro pins s σ H Q I h
  obtain ⟨B, n, i, bmB, nm, q, N, bs, bm, sn, sub, ab, col, dd, k0, k1, k2, k3, k5, ba, hC, tl⟩ := T.cls
  refine wpAny_Call_Name_kw (ld_glob I hg hm (PySem.W.callWith_K (h₀ := X.base) I.ok.mod.kin T.kp (thn (ha.run pos pins s σ H _ I h) fun us s1 ⟨vs, H1, I1, r1, hz, q1⟩ => ⟨I1.kIn, ?_⟩) he hpl) hdb)
  show wpAny _ _ (call (.ref C) us) _ _ _
  obtain ⟨hp, g, dr, tk, os⟩ := s1
  have le : hp.objs.size ≤ hp.objs.size + 1 := Nat.le_succ _
  have hq := q1 (hp.objs.size + 1) (I1.hok.fresh le)
  have up : ∀ b o, hp.get? b = some o → ((hp.push (PySem.W.kdv_tup us)).push (PySem.HandSPX.excO C hp.objs.size)).get? b = some o := fun b o z => Heap.get?_push_of_some _ (Heap.get?_push_of_some _ z)
  have at1 : ((hp.push (PySem.W.kdv_tup us)).push (PySem.HandSPX.excO C hp.objs.size)).get? (hp.objs.size + 1) = some (PySem.HandSPX.excO C hp.objs.size) := by heap_get
  have J := I1.laid (t' := tk) (a := hp.objs.size + 1) (o := exo (hp.objs.size + 1) C none) up le (exo_ok at1)
  have r2 : Vals (V.ref (hp.objs.size + 1) :: (vs ++ [])) (Value.ref (hp.objs.size + 1) :: (us ++ [])) := .cons rfl (r1.append .nil)
  have hl : (Value.ref (hp.objs.size + 1) :: us ++ []).length = ps.length := r2.length.symm.trans (F1.len _ _ _ _ hq)
  have hus : us.length ≤ sizeLine := by
    rw [← Paired.length r1, sizeLine_eq]
    omega
  have go := F1.run _ X.stack _ _ ⟨Value.ref (hp.objs.size + 1) :: us, []⟩ _ _ _ (fun _ _ _ => False) (hr.make C us []) (J.env0.make C us []) (hb _ (Value.ref (hp.objs.size + 1) :: us) J.kIn hl) r2 hq
  refine wpAny_call (PySem.HandSPX.call_own ba.F (fun Y => PySem.W.excTail_contains Y bm tl) (I1.kIn _ _ hC) (PySem.W.looks_findIn I1.kIn me.at_) (fun self => PySem.W.bind_fn I1.kIn self (beq_iff_eq.mp me.fn)) hus (codeAny_mono go fun r z hz => ?_))
  match r, hz with
  | .error er, hz => exact hx pins σ _ _ er z J hz
  | .ok (.ret u), hz =>
    obtain ⟨v, H2, os2, bare2, un2, hok2, rv, ev, d, fs, ea, ed, hd1, q2⟩ := hz
    subst ev
    obtain ⟨h2, g2, d2, t2, os1⟩ := z
    exact ⟨rv, mk_end (raises_own T.isE T.ty) I1 le up un2 hok2 os2 bare2 ea ed hd1 q2⟩
end
def raiS (ec n : Nat) (fa : Slots → M (List D)) : Slots → M Out := fun ρ => bnd (fa ρ) fun ds => if ds.length = n then fun pt => .exc ec ds pt else fail
section
variable {X : Cx} {c : Cy} {W : WX} {σ : L2.St} {H H' : Hp} {O : List (Nat × Addr)} {ρ : Slots} {pt pt' : Pot}
theorem del_upd {H : Hp} {a d : Addr} {u o1 o2 o3 : HO} (ha : H a = none) (ne : d ≠ a) : upd (L2.del (upd (upd (upd H a o1) d o2) a o3) a) d u = upd H d u := by
  funext b
  by_cases h1 : b = d
  · subst h1
    rw [upd_same, upd_same]
  · rw [upd_ne h1, upd_ne h1]
    by_cases h2 : b = a
    · subst h2
      rw [L2.del_same, ha]
    · rw [L2.del_ne h2, upd_ne h2, upd_ne h1, upd_ne h2]
theorem ds_raise {ec n k : Nat} {x : Str} {e : Expr} {es : List Expr} {p pos pos' : Pos} {fI : Addr} {fd : FuncData} {ps : List Str} {fa : Slots → M (List D)} (tk : Takes X W) (T1 : OxG X.K (c.T.cls ec)) (me : Meth X.K (c.T.cls ec) "__init__" fI)
    (F1 : FnOk X.prog X.w X.K X.mg X.base (L2.CX X.prog X.w) k fI fd ps (spX c.T ec)) (hr : Room (k + 1) X.A) (hb : Binds X.K fd ps []) (hm : X.mg x = some (.ref (c.T.cls ec))) (hn : (c.T.names ec).length = n) (ha : PA X (e :: es) (dA c W fa)) (hc : X.calm = true := by rfl) (hn1 : n ≤ 1000 := by decide) (hg : Gl X x := by rfl)
    (hdb : (x == ("__debug__" : Str)) = false := by decide) (he : starEach (e :: es) X.env = (false, eval e X.env) :: starEach es X.env := by rfl) (hpl : (backTo pos (starEach es X.env)).any (·.1) = false := by rfl) :
    PS X (.Raise (some (.Call (.Name x p) (e :: es) [] pos)) none pos') (dS c W (raiS ec n fa)) := by
  refine ps_imp (ps_raise hc tk (pmk_ox T1 me F1 hr hb passL hg hm ha hdb he hpl)) fun E σ H ⟨O, ρ, pt, r, h⟩ => ⟨O, ρ, pt, r, (WO.bnd r h).imp fun ds p1 H1 _ s1 q vs rl => ?_⟩
  by_cases hl : ds.length = n
  · rw [if_pos hl] at q
    have lv := RL.len rl
    refine ⟨by omega, fun a hfa => ⟨a, vs, by rw [List.append_nil], by rw [← lv, hl, hn], upd_same, fun d fl hd ne hfl => ⟨rfl, d, fl, upd_same, by rw [upd_ne ne, upd_same], by rw [← upd_ne (H := H1) (o := exo a (c.T.cls ec) none) ne]; exact hd, ?_⟩⟩⟩
    have hd1 : H1 d = none := by rw [← upd_ne (H := H1) (o := exo a (c.T.cls ec) none) ne]; exact hd
    rw [del_upd hfa ne]
    have r1 := r.stp s1
    have st := Stp.new (o := .xd fl) r1.pot hd1
    have r2 := r1.stp st
    refine q (.ref (c.T.cls ec)) (some d) σ _ r2.fin ⟨rfl, .inr ⟨d, fl, vs, rfl, Hd.at_new (fun z => r1.fresh hd1 (List.mem_append_left _ z)), hfl, by rw [hl, hn], ?_⟩⟩
    exact RL.gr ((Hd.sub fun z h => List.mem_append_left _ h : Gr (Hd (hid c O) H1) (Hd c.S H1)).trans (Hd.new hd1)) rl
  · rw [if_neg hl] at q
    exact q.elim
end
end DF

set_option Elab.async false
set_option linter.all false
set_option maxRecDepth 100000
set_option maxHeartbeats 4000000
namespace DF
open PySem PySem.Spec PyProof.Rows L2
/-! ### try -/
/-- a clause of data: which classes it takes, the slot of its name, what it does -/
structure Ha where
  yes : Nat → Option Bool
  i : Nat
  g : Slots → M Out
def plainV : Option SV → Bool
  | some (.exv _ _) => false
  | _ => true
def endH (i : Nat) : Res Out → Res Out
  | .ok (.rt d) pt => .ok (.rt d) pt
  | _ => .stuck
def catchS (n : Nat) : List Ha → Nat → List D → Pot → Res Out
  | [], e, fs, pt => .exc e fs pt
  | h :: hs, e, fs, pt => match h.yes e with
    | some true => if h.i < n then endH h.i (h.g ((List.replicate n none).set h.i (some (.exv e fs))) pt) else .stuck
    | some false => catchS n hs e fs pt
    | none => .stuck
def tryS (n : Nat) (g : Slots → M Out) (hs : List Ha) : Slots → M Out := fun ρ pt => match g ρ pt with
  | .exc e fs pt' => catchS n hs e fs pt'
  | r => r
inductive HaOk (X : Cx) (c : Cy) : List ExceptHandler → List Cl → List Ha → Prop
  | nil : HaOk X c [] [] []
  | cons {x n : Str} {cv : Value} {i : Nat} {st : Stmt} {sts : List Stmt} {p1 p2 : Pos} {hs : List ExceptHandler} {l : List Cl} {hd : List Ha} {yes : Nat → Option Bool} {g : Slots → M Out} (nm : Names X x cv) (hi : X.N[i]? = some n) (hl : X.env.kindOf n = some .local)
      (hy : ∀ e b, yes e = some b → PySem.W.exmOne X.K (.ref (c.T.cls e)) cv = some b)
      (su : ∀ (a : Addr) (oe : Obj) (cls : Value) (d : Option Addr) (pn : List (Addr × Obj)), Zc cls d oe → (∃ vs, oe.data = .fields vs) → PSs (X.suite a ((a, oe) :: pn)) (st :: sts) (dS { c with x := { c.x with a := a, cls := cls, d := d } } W0 g)) (more : HaOk X c hs l hd) :
      HaOk X c (.ExceptHandler (some (.Name x p1)) (some n) (st :: sts) p2 :: hs) ((cv, i, fun a cls d => dS { c with x := { c.x with a := a, cls := cls, d := d } } W0 g) :: l) (⟨yes, i, g⟩ :: hd)
theorem HaOk.hdn {X : Cx} {c : Cy} {hs : List ExceptHandler} {l : List Cl} {hd : List Ha} (h : HaOk X c hs l hd) : HdN X hs l := by
  induction h with
  | nil => exact .nil
  | cons nm hi hl hy su more ih => exact .cons nm hi hl su ih
section
variable {X : Cx} {c : Cy} {W : WX} {σ : L2.St} {H H' : Hp} {O : List (Nat × Addr)} {ρ : Slots} {pt pt' : Pot}
theorem takes_len {Y : Cx} (tk : Takes Y W) : Takes Y (fun cls d _ H => ∀ τ : L2.St, τ.length = Y.N.length → W cls d τ H) := fun u s ⟨a, B, sI, pins, σ, H, cls, d, e, I, r1, r2, r3, r4, r5, r6, w⟩ => tk u s ⟨a, B, sI, pins, σ, H, cls, d, e, I, r1, r2, r3, r4, r5, r6, w σ I.len⟩
/-- nothing is known of the slots -/
theorem Fin.bare (f : Fin c H pt) (hp : c.p ∈ c.S) : RS c [] (List.replicate σ.length none) σ H pt :=
  ⟨f.pot, fun a o n h m => f.ext a o n h m, hp, f.hS, fun _ h => (nomatch h), .nil, .nil, List.length_replicate, fun _ h => (nomatch h), fun i s h => by
    rw [List.getElem?_replicate] at h
    split at h <;> cases h⟩
theorem SlotOk.x_ {c' : Cy} {i : Nat} {y : Option (Option V)} {s : SV} (e : c' = { c with x := c'.x }) (hl : c'.x.lf = c.x.lf ∧ c'.x.lc = c.x.lc ∧ c'.x.lq = c.x.lq) (np : plainV (some s) = true) (h : SlotOk c' O H i y s) : SlotOk c O H i y s := by
  obtain ⟨K, T, p, S, H0, me, x1⟩ := c
  obtain ⟨K', T', p', S', H0', me', x2⟩ := c'
  cases e
  cases s with
  | val d => exact h
  | own ds => exact h
  | ownd ds => exact h
  | slf k fs => exact h
  | raw v => exact h
  | exv e fs => cases np
  | lam =>
    obtain ⟨h1, h2⟩ := h
    simp only at hl
    obtain ⟨q1, q2, q3⟩ := hl
    refine ⟨?_, ?_⟩
    · rw [h1]
      show some (some (V.ref x2.lf)) = some (some (V.ref x1.lf))
      rw [q1]
    · show Hd _ H x1.lc = some (LamX.CodeO x1.lc x1.lq)
      rw [← q2, ← q3]
      exact h2
theorem RS.x_ {c' : Cy} (r : RS c' O ρ σ H pt) (e : c' = { c with x := c'.x }) (hl : c'.x.lf = c.x.lf ∧ c'.x.lc = c.x.lc ∧ c'.x.lq = c.x.lq) (np : ρ.all plainV = true) : RS c O ρ σ H pt := by
  have sl : ∀ i s, ρ[i]? = some (some s) → SlotOk c O H i σ[i]? s := fun i s h => (r.sl i s h).x_ e hl (List.all_eq_true.mp np _ (List.mem_of_getElem? h))
  obtain ⟨K, T, p, S, H0, me, x1⟩ := c
  obtain ⟨K', T', p', S', H0', me', x2⟩ := c'
  cases e
  exact ⟨r.pot, fun a o n h m => r.ext a o n h m, r.hp, r.hS, r.new, r.nd, r.nf, r.len, r.ow, sl⟩
theorem catch_ok {E : Ends} {n : Nat} (hp : c.p ∈ c.S) (hX : c.K = X.K) {hs : List ExceptHandler} {l : List Cl} {hd : List Ha} (h : HaOk X c hs l hd) {e : Nat} {fs : List D} {cls : Value} {dd : Option Addr} (hl : σ.length = n) (f : Fin c H pt) (rx : RX c H e fs cls dd)
    (w : WO c W E [] H (catchS n hd e fs pt)) : wNam X.K W E l cls dd σ H := by
  induction h with
  | nil => exact w cls dd σ H f rx
  | @cons x nm1 cv i st sts p1 p2 hs2 l2 hd2 yes g nm hi hln hy su more ih =>
    unfold catchS at w
    simp only at w
    cases ey : yes e with
    | none => rw [ey] at w; exact w.elim
    | some b =>
      rw [ey] at w
      have em := hy e b ey
      refine ⟨b, by rw [rx.1]; exact em, fun hb a na => ?_, fun hb => ?_⟩
      · subst hb
        simp only at w
        by_cases hin : i < n
        · rw [if_pos hin] at w
          have r0 : RS { c with x := { c.x with a := a, cls := cls, d := dd } } [] (List.replicate σ.length none) σ H pt := Fin.bare (c := { c with x := { c.x with a := a, cls := cls, d := dd } }) ⟨f.pot, fun a o n h m => f.ext a o n h m, f.hS⟩ hp
          have r1 : RS { c with x := { c.x with a := a, cls := cls, d := dd } } [] ((List.replicate n none).set i (some (.exv e fs))) (σ.set i (some (.ref a))) H pt := by
            refine ⟨r0.pot, fun a o n h m => r0.ext a o n h m, r0.hp, r0.hS, r0.new, r0.nd, r0.nf, by rw [List.length_set, List.length_set, List.length_replicate, hl], fun _ h => (nomatch h), fun j s hj => ?_⟩
            by_cases ej : j = i
            · subst ej
              rw [List.getElem?_set_self (by rw [List.length_replicate]; exact hin)] at hj
              cases hj
              refine ⟨List.getElem?_set_self (by rw [hl]; exact hin), ?_⟩
              have hh : hid { c with x := { c.x with a := a, cls := cls, d := dd } } [] = c.S := List.append_nil _
              rw [hh]
              exact rx
            · rw [List.getElem?_set_ne (Ne.symm ej), List.getElem?_replicate] at hj
              split at hj <;> cases hj
          refine ⟨[], _, pt, r1, ?_⟩
          cases er : g ((List.replicate n none).set i (some (.exv e fs))) pt with
          | stuck => rw [er] at w; exact w.elim
          | exc _ _ _ => rw [er] at w; exact w.elim
          | ok o p1 =>
            rw [er] at w
            cases o with
            | bk _ => exact w.elim
            | ct _ => exact w.elim
            | rt d => exact fun v H1 f1 rv => w v H1 ⟨f1.pot, fun a o n h m => f1.ext a o n h m, f1.hS⟩ rv
            | nx ρ1 => exact w.elim
        · rw [if_neg hin] at w
          exact w.elim
      · subst hb
        exact ih w
theorem endH_end {E : Ends} {i : Nat} {H1 : Hp} {r : Res Out} (w : WO c W E O H (endH i r)) : WO c W E [] H1 (endH i r) := by
  cases r with
  | stuck => exact w
  | exc _ _ _ => exact w.elim
  | ok o p1 =>
    cases o with
    | rt d => exact w
    | nx _ => exact w.elim
    | bk _ => exact w.elim
    | ct _ => exact w.elim
theorem catch_end {E : Ends} {n : Nat} {e : Nat} {fs : List D} {H1 : Hp} : ∀ {hd : List Ha}, WO c W E O H (catchS n hd e fs pt) → WO c W E [] H1 (catchS n hd e fs pt)
  | [], w => w
  | h :: hd, w => by
    unfold catchS at w ⊢
    cases ey : h.yes e with
    | none => rw [ey] at w; exact w.elim
    | some b =>
      rw [ey] at w
      cases b with
      | false => exact catch_end w
      | true =>
        simp only at w ⊢
        by_cases hin : h.i < n
        · rw [if_pos hin] at w ⊢
          exact endH_end w
        · rw [if_neg hin] at w
          exact w.elim
theorem ds_try {n : Nat} {body : List Stmt} {h1 : ExceptHandler} {hs : List ExceptHandler} {l : List Cl} {hd : List Ha} {g : Slots → M Out} {pos : Pos} (hX : c.K = X.K) (nd : X.N.Nodup) (tk : Takes X W)
    (hb : ∀ (E1 : XK) (pn : List (Addr × Obj)) (xe : Value → Shared → Prop), Takes (X.tr pn xe) (fun cls d _ H => E1 cls d H) → PassesOwn (model X.prog X.w) X.A X.env xe → PSs (X.tr pn xe) body (dS c (fun cls d _ H => E1 cls d H) g)) (hk : HaOk X c (h1 :: hs) l hd)
    (hn : X.N.length = n := by rfl) (es : X.stack = X.env :: X.outer := by rfl) (ef : X.env.frame = some X.env.locals := by rfl) : PS X (.Try body (h1 :: hs) [] [] pos) (dS c W (tryS n g hd)) := by
  refine ps_imp (try_named (tb := fun W1 => dS c (fun cls d _ H => ∀ τ : L2.St, τ.length = X.N.length → W1 cls d τ H) g) es ef nd tk (fun W1 pn xe tk1 po => hb (fun cls d H => ∀ τ : L2.St, τ.length = X.N.length → W1 cls d τ H) pn xe (takes_len tk1) po) hk.hdn) fun E σ H ⟨O, ρ, pt, r, h⟩ => ⟨O, ρ, pt, r, ?_⟩
  unfold tryS at h
  cases e : g ρ pt with
  | ok o p1 =>
    rw [e] at h
    cases o with
    | nx _ => exact h
    | bk _ => exact h
    | ct _ => exact h
    | rt _ => exact h
  | stuck => rw [e] at h; exact h
  | exc k fs p1 =>
    rw [e] at h
    intro cls dd τ0 H1 f rx τ hl
    have w : WO c W E [] H1 (catchS n hd k fs p1) := catch_end h
    exact catch_ok r.hp hX hk (hl.trans hn) f rx w
end
end DF

set_option Elab.async false
set_option linter.all false
set_option maxRecDepth 100000
set_option maxHeartbeats 4000000
namespace DF
open PySem PySem.Spec PyProof.Rows L2
/-! ### a field of the exception that was caught -/
def exAt (ec j : Nat) : Option (Option SV) → Option D
  | some (some (.exv e fs)) => if e = ec then fs[j]? else none
  | _ => none
theorem exAt_some {ec j : Nat} {x : Option (Option SV)} {d : D} (h : exAt ec j x = some d) : ∃ fs, x = some (some (.exv ec fs)) ∧ fs[j]? = some d := by
  unfold exAt at h
  split at h
  · rename_i e fs
    by_cases he : e = ec
    · subst he
      rw [if_pos rfl] at h
      exact ⟨fs, rfl, h⟩
    · rw [if_neg he] at h
      cases h
  · cases h
def xfE (i ec j : Nat) : Slots → M D := fun ρ => opt (exAt ec j ρ[i]?)
section
variable {X : Cx} {c : Cy} {W : WX} {σ : L2.St} {H H' : Hp} {O : List (Nat × Addr)} {ρ : Slots} {pt pt' : Pot}
theorem de_xf {i ec j : Nat} {n f : Str} {a : Addr} {oe : Obj} {cls : Value} {d : Option Addr} {pn : List (Addr × Obj)} {p pos : Pos} (T1 : XfC X.K (c.T.cls ec)) (no : NoAttr X.K (c.T.cls ec) f) (hj : (c.T.names ec)[j]? = some f) (hz : Zc cls d oe) (hf : ∃ vs, oe.data = .fields vs)
    (hN : X.N[i]? = some n := by rfl) (hv : Vis X.env.scope n := by first | exact Or.inl rfl | exact Or.inr (Or.inl rfl) | exact Or.inr (Or.inr rfl)) (hd : (n == ("__debug__" : Str)) = false := by decide) (hcd : (n == ("__classdict__" : Str)) = false := by decide)
    (hb : attributeBase (.Name n p) f X.env (eval (.Name n p) X.env) = eval (.Name n p) X.env := by rfl) :
    PE (X.suite a ((a, oe) :: pn)) (.Attribute (.Name n p) f pos) (dE { c with x := { c.x with a := a, cls := cls, d := d } } W (xfE i ec j)) := by
  refine pe_imp (pe_xf (X := X) (C := c.T.cls ec) T1 no hz hf (pe_var (X := X.suite a ((a, oe) :: pn)) (i := i) hN hv hd hcd) hb) fun σ H Q ⟨O, ρ, pt, r, h⟩ => ?_
  obtain ⟨y, ey, hq⟩ := Wg.opt h r.pot
  obtain ⟨fs, es, ey⟩ := exAt_some ey
  obtain ⟨e1, e2, e3⟩ := r.sl i _ es
  rcases e3 with ⟨rfl, _⟩ | ⟨d0, fl, vs, q1, q2, q3, q4, q5⟩
  · simp at ey
  · obtain ⟨v, ev, rv⟩ := RL.getD q5 ey
    exact ⟨.ref a, e1, rfl, e2, d0, fl, v, q1, Hd.le _ _ q2, q3 j f v hj ev, hq v rv⟩
/-! ### a lambda without parameters, handed to a def -/
def noOwnA (ρ : Slots) : Bool := ρ.all fun s => match s with
  | some v => !isOwn v
  | none => true
theorem own_nil (r : RS c O ρ σ H pt) (h : noOwnA ρ = true) : O = [] := by
  cases O with
  | nil => rfl
  | cons q O =>
    obtain ⟨s, e, o⟩ := r.ow q List.mem_cons_self
    have := List.all_eq_true.mp h _ (List.mem_of_getElem? e)
    simp only [o] at this
    cases this
/-- what the lambda means at H -/
def Lam (K : PySem.W.Frag) (T : Tb) (p : Addr) (S : List Addr) (H : Hp) (tl : XK → Hp → VK → Prop) (m : M D) : Prop := ∀ (E : XK) (H1 : Hp) (Q1 : VK) (p1 : Pot), Stp T.tb p H H1 p1 → Wf ⟨K, T, p, S, H1, 0, x0⟩ H1 Q1 E (m p1) → tl E H1 Q1
def TTd (K : PySem.W.Frag) (T : Tb) (hm : M D → M D) : (XK → Hp → VK → Prop) → Hp → VK → Prop := fun tl H Q => ∃ p S pt m, p ∈ S ∧ (∀ a ∈ S, ∃ o, H a = some o ∧ mt o = true) ∧ Pots T.tb p H pt ∧ Lam K T p S H tl m ∧ Wf ⟨K, T, p, S, H, 0, x0⟩ H Q (fun _ _ _ => False) (hm m pt)
def lamM (n : Nat) (g : M D → Slots → M Out) : M D → M D := fun m => bnd (g m (some .lam :: List.replicate n none)) fun o => match o with
  | .rt d => ret d
  | .nx _ => ret .non
  | _ => fail
def isLam : Option (Option SV) → Bool
  | some (some .lam) => true
  | _ => false
def actE (m : M D) : Slots → M D := fun ρ => if isLam ρ[0]? && noOwnA ρ then m else fail
abbrev xl (f c' : Addr) (q : Str) : Xc := ⟨0, .none, none, f, c', q⟩
theorem Wf.wg {K : PySem.W.Frag} {T : Tb} {p : Addr} {S : List Addr} {E : XK} {Q : VK} {r : Res D} (hK : c.K = K) (hT : c.T = T) (hp : c.p = p) (hS : c.S = S) (h : Wg c (fun cls d _ H => E cls d H) σ H (fun d _ H' => ∀ v, c.R (Hd c.S H') d v → Q v H') r) : Wf ⟨K, T, p, S, H, 0, x0⟩ H Q E r := by
  subst hK hT hp hS
  cases r with
  | ok d pt => exact fun v H' st rv => h H' st v rv
  | exc e fs pt => exact fun cls dd H' st rx => h cls dd H' st rx
  | stuck => exact h
theorem Wf.to_wg {K : PySem.W.Frag} {T : Tb} {p : Addr} {S : List Addr} {E : XK} {Q : VK} {r : Res D} (hK : c.K = K) (hT : c.T = T) (hp : c.p = p) (hS : c.S = S) (h : Wf ⟨K, T, p, S, H, 0, x0⟩ H Q E r) : Wg c (fun cls d _ H => E cls d H) σ H (fun d _ H' => ∀ v, c.R (Hd c.S H') d v → Q v H') r := by
  subst hK hT hp hS
  cases r with
  | ok d pt => exact fun H' st v rv => h v H' st rv
  | exc e fs pt => exact fun cls dd H' st rx => h cls dd H' st rx
  | stuck => exact h
/-- the def that calls the lambda -/
theorem gives_of {T : Tb} {N : List Str} {x a q : Str} {sg : Scope} {g0 : Addr} {cdg : Value} {bg : List Stmt} {g : M D → Slots → M Out} {n : Nat} (hN : N.length = n + 1)
    (hb : ∀ (f c' : Addr) (s : Shared) (H : Hp) (p : Addr) (S : List Addr) (m : M D),
      (∀ (E1 : XK) (pn : List (Addr × Obj)) (xe : Value → Shared → Prop) (p1 p2 : Pos), Takes ((cxOf C8.CX0 X.prog X.w X.K X.mg X.base N x sg g0 cdg X.A X.stack s H C8.E0).tr pn xe) (fun cls d _ H => E1 cls d H) →
        PE ((cxOf C8.CX0 X.prog X.w X.K X.mg X.base N x sg g0 cdg X.A X.stack s H C8.E0).tr pn xe) (.Call (.Name a p1) [] [] p2) (dE ⟨X.K, T, p, S, H, 0, xl f c' q⟩ (fun cls d _ H => E1 cls d H) (actE m))) →
      PSs (cxOf C8.CX0 X.prog X.w X.K X.mg X.base N x sg g0 cdg X.A X.stack s H C8.E0).nox bg (dS ⟨X.K, T, p, S, H, 0, xl f c' q⟩ W0 (g m))) :
    LamX.GivesTo X N x sg g0 cdg bg a q (TTd X.K T (lamM n g)) := by
  intro f c' s H Q tl act hc h
  obtain ⟨p, S, pt, m, hp, hS, hpot, hL, hw⟩ := h
  have nS : c' ∉ S := fun z => by
    obtain ⟨o, e, mo⟩ := hS c' z
    rw [hc] at e
    have e2 : LamX.CodeO c' q = o := Option.some.inj e
    rw [← e2] at mo
    cases mo
  have hid0 : hid (⟨X.K, T, p, S, H, 0, xl f c' q⟩ : Cy) [] = S := List.append_nil _
  refine ⟨_, hb f c' s H p S m fun E1 pn xe p1 p2 tk => ?_, ⟨[], some .lam :: List.replicate n none, pt, ?_, ?_⟩⟩
  · refine pe_imp (act (fun cls d _ H => E1 cls d H) pn xe E1 p1 p2 tk fun _ _ _ _ z => z) fun σZ HZ Q1 ⟨O1, ρ1, pt1, r1, h1⟩ => ?_
    unfold actE at h1
    by_cases hz : (isLam ρ1[0]? && noOwnA ρ1) = true
    · rw [if_pos hz] at h1
      obtain ⟨z1, z2⟩ := Bool.and_eq_true_iff.mp hz
      have eO := own_nil r1 z2
      subst eO
      have es : ρ1[0]? = some (some .lam) := by
        unfold isLam at z1
        split at z1
        · assumption
        · cases z1
      obtain ⟨e1, e2⟩ := r1.sl 0 _ es
      refine ⟨e1, Hd.le _ _ e2, hL E1 HZ Q1 pt1 ⟨fun a o n e mm => r1.ext a o n e mm, r1.pot⟩ ?_⟩
      refine Wf.wg (c := ⟨X.K, T, p, S, H, 0, xl f c' q⟩) (σ := σZ) rfl rfl rfl rfl ?_
      rw [hid0] at h1
      exact h1
    · rw [if_neg hz] at h1
      exact h1.elim
  · refine ⟨hpot, fun _ _ _ e _ => e, hp, hS, fun _ z => (nomatch z), .nil, .nil, ?_, fun _ z => (nomatch z), fun i sv hi => ?_⟩
    · unfold L2.start
      simp [hN]
    · cases i with
      | zero =>
        simp only [List.getElem?_cons_zero, Option.some.injEq] at hi
        subst hi
        refine ⟨rfl, ?_⟩
        rw [hid0]
        exact Hd.out nS hc
      | succ i =>
        rw [List.getElem?_cons_succ, List.getElem?_replicate] at hi
        split at hi <;> cases hi
  · unfold lamM DF.bnd at hw
    cases e : g m (some .lam :: List.replicate n none) pt with
    | stuck => rw [e] at hw; exact hw
    | exc _ _ _ =>
      rw [e] at hw
      exact fun cls dd τ H1 fi rx => hw cls dd H1 ⟨fun a o n h m => fi.ext a o n h m, fi.pot⟩ rx
    | ok o p1 =>
      rw [e] at hw
      cases o with
      | nx ρ1 => exact fun O' σ' H' rs _ => hw .non H' ⟨fun a o n h m => rs.ext a o n h m, rs.pot⟩ (by simp [Cy.R, R])
      | rt d => exact fun v H' fi rv => hw v H' ⟨fun a o n h m => fi.ext a o n h m, fi.pot⟩ rv
      | bk ρ1 => exact hw.elim
      | ct ρ1 => exact hw.elim
def lamcE (hm : M D → M D) (fb : Slots → M D) : Slots → M D := fun ρ => if noOwnA ρ then fun pt => match hm (fb ρ) pt with
  | .ok d p => .ok d p
  | _ => .stuck else fail
theorem de_lam {x a : Str} {g0 c1 P1 : Addr} {k : Nat} {pg : Arguments} {bg : List Stmt} {sg : Scope} {dvs : List V} {kws : List (Str × V)} {fd : FuncData} {Ng : List Str} {params : Arguments} {body : Expr} {scope : Scope} {p lpos pos : Pos} {hm : M D → M D} {fb : Slots → M D}
    (hK : c.K = X.K) (gx : X.mg x = some (.ref g0)) (F : FunD X.K x x pg bg sg dvs kws g0 fd) (hb : L2.Binds X.K fd [a] []) (Sg : FnScope Ng [a] sg) (hG : ∀ cdv, LamX.GivesTo X Ng x sg g0 cdv bg a (X.env.qual ++ "<lambda>") (TTd X.K c.T hm))
    (TB : LamX.TabB X.base X.mg c1 P1) (hcode : X.env.code = .ref c1) (hmT : (P1, X.env.qual ++ "<lambda>") ∈ c.T.tb) (hu : ∀ p ∈ c.T.tb, p.1 = P1 → p.2 = X.env.qual ++ "<lambda>") (hr : Room (k + 2) X.A)
    (hbind : ∀ (q : Str) (cl : List (Str × Addr)) (pm cv ctv : Value), bindArgs (PySem.W.kla_fn "<lambda>" q params body scope cl pm cv ctv) ⟨[], []⟩ = pure [])
    (hbody : ∀ (A : Around) (outer : List Env) (s : Shared) (H : Hp) (E : XK) (f c' : Addr), Room k (A.deeper (LamX.lamEnv X scope s.heap.objs.size f c')) → PE (LamX.lamCx X A outer s H E scope f c') body (dE c (fun cls d _ H => E cls d H) fb))
    (L : LamX.LamS X.env.scope scope := by exact LamX.lamS_by (by kernel_rfl)) (hdef : defaultsOf params X.env = ([], []) := by rfl) (hg : Gl X x := by rfl) (hNg : Ng[0]? = some a := by rfl) (hva : Vis sg a := by first | exact Or.inl rfl | exact Or.inr (Or.inl rfl) | exact Or.inr (Or.inr rfl))
    (hdb : (x == ("__debug__" : Str)) = false := by decide) (hd : (a == ("__debug__" : Str)) = false := by decide) (hcd : (a == ("__classdict__" : Str)) = false := by decide) :
    PE X (.Call (.Name x p) [.Lambda params body scope lpos] [] pos) (dE c W (lamcE hm fb)) := by
  obtain ⟨oc, od, dV, kV, doc, pm, an, cdv, ct, osl, rfl, lk, hcg, _, _⟩ := F.ex
  refine pe_imp (LamX.pe_lamcall (T := c.T.tb) (TT := TTd X.K c.T hm) (t := fun E => dE c (fun cls d _ H => E cls d H) fb) hg gx F.kp lk hcg hb Sg hNg hva (hG cdv) TB hcode hmT hu hr L hdef hbind hbody hdb hd hcd) fun σ H Q ⟨O, ρ, pt, r, h⟩ => ⟨r.pot.tab, fun H1 eN T1 => ?_⟩
  unfold lamcE at h
  by_cases hz : noOwnA ρ = true
  · rw [if_pos hz] at h
    have eO := own_nil r hz
    subst eO
    have hid0 : hid c [] = c.S := List.append_nil _
    have st : Stp c.T.tb c.p H H1 pt := ⟨fun b o _ e m => eN b o e (fun ps z => by rw [z] at m; cases m), ⟨eN _ _ r.pot.at_ (fun ps z => by cases z), T1⟩⟩
    have r1 := r.stp st
    refine ⟨c.p, c.S, pt, fb ρ, r.hp, r1.hS, r1.pot, fun E H2 Q2 p2 st2 w => ⟨[], ρ, p2, r1.stp st2, ?_⟩, ?_⟩
    · rw [hid0]
      exact Wf.to_wg hK rfl rfl rfl w
    · cases e : hm (fb ρ) pt with
      | stuck => rw [e] at h; exact h
      | exc _ _ _ => rw [e] at h; exact h.elim
      | ok d p1 =>
        rw [e] at h
        intro v H2 st2 rv
        refine h H2 (st.trans st2) v ?_
        rw [hid0]
        obtain ⟨K1, T1', p1', S1, H01, me1, x1⟩ := c
        simp only at hK
        subst hK
        exact rv
  · rw [if_neg hz] at h
    exact h.elim
end
end DF

set_option Elab.async false
set_option linter.all false
set_option maxRecDepth 100000
set_option maxHeartbeats 4000000
namespace DF
open PySem PySem.Spec PyProof.Rows L2
/-! ### repr of lists, tuples, dicts -/
def kD : Key → PyData
  | .inl i => .int i
  | .inr x => .str x
mutual
def shD : D → Option PyData
  | .non => some .none
  | .bl b => some (.bool b)
  | .int i => some (.int i)
  | .str x => some (.str x)
  | .tup ds => (shL ds).map .tuple
  | .lst ds => (shL ds).map .list
  | .dct kvs => (shK kvs).map .dict
  | _ => none
def shL : List D → Option (List PyData)
  | [] => some []
  | d :: ds => (shD d).bind fun x => (shL ds).map fun xs => x :: xs
def shK : List (Key × D) → Option (List (PyData × PyData))
  | [] => some []
  | (k, d) :: ds => (shD d).bind fun x => (shK ds).map fun xs => (kD k, x) :: xs
end
/-- sys.modules is no list -/
def SysK (K : PySem.W.Frag) : Prop := ∃ o, K.lookup sysModules = some o ∧ o.cls ≠ .type "list"
section
variable {X : Cx} {c : Cy} {W : WX} {pins : List (Addr × Obj)} {σ : L2.St} {H H1 : Hp} {s : Shared}
theorem sys_ne (sy : SysK X.K) (I : Inv X pins σ H s) {a : Addr} {o : Obj} (h : s.heap.get? a = some o) (hc : o.cls = .type "list") : sysModules ≠ a := fun z => by
  obtain ⟨o1, l1, n1⟩ := sy
  have e := I.kIn _ _ l1
  rw [z, h] at e
  cases e
  exact n1 hc
mutual
theorem rd_D (sy : SysK X.K) (I : Inv X pins σ H s) (g : Gr H1 H) {T : Tb} {p : Addr} : ∀ {d : D} {v : V} {u : Value} {x : PyData}, R X.K T p H1 d v → RelV v u → shD d = some x → ∃ as, Reads s.heap u x as ∧ sysModules ∉ as
  | .non, _, _, _, h, r, e => by
    simp only [R] at h; simp only [shD] at e; cases e; subst h; cases r; exact ⟨_, .none, by simp⟩
  | .bl b, _, _, _, h, r, e => by
    simp only [R] at h; simp only [shD] at e; cases e; subst h; cases r; exact ⟨_, .bool b, by simp⟩
  | .int b, _, _, _, h, r, e => by
    simp only [R] at h; simp only [shD] at e; cases e; subst h; obtain ⟨t, rfl⟩ := r; exact ⟨_, .int b t, by simp⟩
  | .str b, _, _, _, h, r, e => by
    simp only [R] at h; simp only [shD] at e; cases e; subst h; obtain ⟨t, rfl⟩ := r; exact ⟨_, .str b t, by simp⟩
  | .tup ds, _, _, _, h, r, e => by
    simp only [R] at h
    simp only [shD] at e
    obtain ⟨a, vs, rfl, sq, rl⟩ := h
    cases q : shL ds with
    | none => rw [q] at e; cases e
    | some xs =>
      rw [q] at e
      cases e
      cases r
      obtain ⟨its, rv, ⟨o, ho, hc, n, hd⟩, _⟩ := I.tuple (g.sqt sq)
      obtain ⟨as, hr, hn⟩ := rd_L sy I g rl rv q
      exact ⟨as, .tuple ho hc hd (by simpa using hr), hn⟩
  | .lst ds, _, _, _, h, r, e => by
    simp only [R] at h
    simp only [shD] at e
    obtain ⟨a, vs, rfl, sq, rl⟩ := h
    cases q : shL ds with
    | none => rw [q] at e; cases e
    | some xs =>
      rw [q] at e
      cases e
      cases r
      obtain ⟨its, rv, ⟨o, n, ho, hc, _, hd⟩, _⟩ := I.list (.inl (.inl (g _ _ sq)))
      obtain ⟨as, hr, hn⟩ := rd_L sy I g rl rv q
      exact ⟨_, .list ho hc hd (by simpa using hr), fun z => (List.mem_cons.mp z).elim (sys_ne sy I ho hc) hn⟩
  | .dct ds, _, _, _, h, r, e => by
    simp only [R] at h
    simp only [shD] at e
    obtain ⟨a, es, rfl, he, rk⟩ := h
    cases q : shK ds with
    | none => rw [q] at e; cases e
    | some xs =>
      rw [q] at e
      cases e
      cases r
      obtain ⟨_, ns, vs, kv, o, en, ep, ho, ⟨hx, _, _⟩, hd, _, hp, _⟩ := I.hok a _ (g _ _ he)
      obtain ⟨as, bs, h1, h2, n1, n2⟩ := rd_K sy I g rk kv hp q
      refine ⟨_, .dict (kvs := xs) ho hx hd h1 h2, fun z => ?_⟩
      rw [List.cons_append, List.mem_cons, List.mem_append] at z
      rcases z with z | z | z
      · rw [← z] at ns
        simp at ns
      · exact n1 z
      · exact n2 z
  | .obj _ _, _, _, _, _, _, e | .ex _ _, _, _, _, _, _, e | .pot, _, _, _, _, _, e | .fn _, _, _, _, _, _, e | .cls _, _, _, _, _, _, e | .ty _, _, _, _, _, _, e => by simp only [shD] at e; cases e
theorem rd_L (sy : SysK X.K) (I : Inv X pins σ H s) (g : Gr H1 H) {T : Tb} {p : Addr} : ∀ {ds : List D} {vs : List V} {us : List Value} {xs : List PyData}, RL X.K T p H1 ds vs → Vals vs us → shL ds = some xs → ∃ as, ReadsAll s.heap us xs as ∧ sysModules ∉ as
  | [], _, _, _, h, r, e => by
    simp only [RL] at h
    simp only [shL] at e
    cases e
    subst h
    cases r
    exact ⟨_, .nil, by simp⟩
  | d :: ds, _, _, _, h, r, e => by
    simp only [RL] at h
    simp only [shL] at e
    obtain ⟨v, ws, rfl, rv, rl⟩ := h
    cases r with
    | cons ru rus =>
      cases q : shD d with
      | none => rw [q] at e; cases e
      | some x =>
        rw [q] at e
        cases q2 : shL ds with
        | none => rw [q2] at e; cases e
        | some xs =>
          rw [q2] at e
          cases e
          obtain ⟨as, h1, n1⟩ := rd_D sy I g rv ru q
          obtain ⟨bs, h2, n2⟩ := rd_L sy I g rl rus q2
          exact ⟨_, .cons h1 h2, fun m => (List.mem_append.mp m).elim n1 n2⟩
theorem rd_K (sy : SysK X.K) (I : Inv X pins σ H s) (g : Gr H1 H) {T : Tb} {p : Addr} : ∀ {ds : List (Key × D)} {vs : List (Key × V)} {us : List (Key × Value)} {en : List DictEntry} {xs : List (PyData × PyData)}, RK X.K T p H1 ds vs → KV vs us → Pairs (mixKind X.prog X.w) en us → shK ds = some xs →
      ∃ as bs, ReadsAll s.heap (en.map (·.key)) (xs.map (·.1)) as ∧ ReadsAll s.heap (en.map (·.val)) (xs.map (·.2)) bs ∧ sysModules ∉ as ∧ sysModules ∉ bs
  | [], _, _, _, _, h, r, pr, e => by
    simp only [RK] at h
    simp only [shK] at e
    cases e
    subst h
    cases r
    cases pr
    exact ⟨_, _, .nil, .nil, by simp, by simp⟩
  | (k, d) :: ds, _, _, _, _, h, r, pr, e => by
    simp only [RK] at h
    simp only [shK] at e
    obtain ⟨v, ws, rfl, rv, rl⟩ := h
    cases r with
    | @cons _ kv _ us ru rus =>
      obtain ⟨k1, u⟩ := kv
      obtain ⟨rfl, ru⟩ := ru
      cases pr with
      | @cons en0 _ ens _ pk pv ps =>
        cases q : shD d with
        | none => rw [q] at e; cases e
        | some x =>
          rw [q] at e
          cases q2 : shK ds with
          | none => rw [q2] at e; cases e
          | some xs =>
            rw [q2] at e
            cases e
            have pv' : en0.val = u := pv
            obtain ⟨as, h1, n1⟩ := rd_D sy I g rv ru q
            obtain ⟨as2, bs2, h2, h3, n2, n3⟩ := rd_K sy I g rl rus ps q2
            have hk : Reads s.heap en0.key (kD k) [] := by
              rcases keyIs_shape (show keyIs k en0.key = true from pk) with ⟨i, t, e1, e2⟩ | ⟨y, t, e1, e2⟩
              · rw [e1, e2]; exact .int i t
              · rw [e1, e2]; exact .str y t
            refine ⟨_, _, .cons hk h2, .cons (show Reads s.heap en0.val x as by rw [pv']; exact h1) h3, by simpa using n2, fun m => (List.mem_append.mp m).elim n1 n3⟩
end
/-- a container, to be looked at -/
theorem rd_B (sy : SysK X.K) (I : Inv X pins σ H s) (hK : c.K = X.K) {O : List (Nat × Addr)} {d : D} {v : V} {u : Value} {x : PyData} (h : RB c O H d v) (r : RelV v u) (e : shD d = some x) : ∃ as, Reads s.heap u x as ∧ sysModules ∉ as := by
  rcases h with h | ⟨i, a, ds, vs, e1, ev, m, ha, rl⟩ | ⟨i, a, ds, vs, e1, ev, m, ha, rl⟩
  · have h : R X.K c.T c.p (Hd (hid c O) H) d v := hK ▸ h
    exact rd_D sy I Hd.le h r e
  · subst e1
    subst ev
    have rl : RL X.K c.T c.p (Hd (hid c O) H) ds vs := hK ▸ rl
    have hR : R X.K c.T c.p H (.lst ds) (.ref a) := by
      simp only [R]
      exact ⟨a, vs, rfl, ha, RL.gr Hd.le rl⟩
    exact rd_D sy I (Gr.refl H) hR r e
  · subst e1
    subst ev
    have rk : RK X.K c.T c.p (Hd (hid c O) H) ds vs := hK ▸ rl
    have hR : R X.K c.T c.p H (.dct ds) (.ref a) := by
      simp only [R]
      exact ⟨a, vs, rfl, ha, RK.gr Hd.le rk⟩
    exact rd_D sy I (Gr.refl H) hR r e
def shOk (x : PyData) : Bool := x.showable && (decide (x.shown.length ≤ 1000000) && decide (x.depth ≤ 20))
def reprC (d : D) : Option D := (shD d).bind fun x => if shOk x then some (.str x.shown) else none
def reprG : List D → Option D
  | [.tup ds] => reprC (.tup ds)
  | [.lst ds] => reprC (.lst ds)
  | [.dct ds] => reprC (.dct ds)
  | xs => reprF xs
def rRc (X : Cx) : List V → Hp → VK → Prop := fun vs H Q => ∃ a x, vs = [.ref a] ∧ (∀ (pins : List (Addr × Obj)) (σ : L2.St) (s : Shared), Inv X pins σ H s → ∃ as, Reads s.heap (.ref a) x as ∧ sysModules ∉ as) ∧ shOk x = true ∧ Q (.str x.shown) H
theorem cr_reprC (hg : X.A.guards = some []) {k : Nat} (hr : Room k X.A) : CallR X (.builtin "repr") (rRc X) := by
  intro pins s σ H xs us Q I r h
  obtain ⟨a, x, rfl, hrd, hok, q⟩ := h
  cases r with
  | cons ra rn =>
    cases rn
    cases ra
    obtain ⟨as, hR, hn⟩ := hrd pins σ s I
    unfold shOk at hok
    simp only [Bool.and_eq_true, decide_eq_true_eq] at hok
    obtain ⟨h1, h3, h4⟩ := hok
    have hu := hr.un
    refine repr_of_reads' hR h1 (fun _ => hn) hg (by omega) (fun b o e => e) (fun h' u tk hk => ?_) (Nat.le_trans h3 (by decide))
    exact ⟨.str x.shown, H, I.kept hk, ⟨u, rfl⟩, q⟩
theorem repr_ok {O : List (Nat × Addr)} {xs : List D} {z : D} {vs : List V} {Q : VK} (rx : RBL c O H xs vs) (e : reprF xs = some z) (q : ∀ v, c.R (Hd (hid c O) H) z v → Q v H) : rRepr vs H Q := by
  unfold reprF at e
  split at e
  · split at e
    · rename_i hz
      cases e
      obtain ⟨v, rfl, h⟩ := rx.one
      rw [h.str]
      exact .inl ⟨_, rfl, hz, q _ (by simp [Cy.R, R])⟩
    · cases e
  · split at e
    · rename_i hz
      cases e
      obtain ⟨v, rfl, h⟩ := rx.one
      rw [h.int]
      exact .inr (.inl ⟨_, rfl, hz, q _ (by simp [Cy.R, R])⟩)
    · cases e
  · cases e
    obtain ⟨v, rfl, h⟩ := rx.one
    rw [h.bl]
    exact .inr (.inr (.inl ⟨_, rfl, q _ (by simp [Cy.R, R])⟩))
  · cases e
    obtain ⟨v, rfl, h⟩ := rx.one
    rw [h.non]
    exact .inr (.inr (.inr ⟨rfl, q _ (by simp [Cy.R, R])⟩))
  · cases e
theorem reprC_ok (sy : SysK X.K) (hK : c.K = X.K) {O : List (Nat × Addr)} {d z : D} {a : Addr} {Q : VK} (rv : RB c O H d (.ref a)) (e : reprC d = some z) (q : ∀ v, c.R (Hd (hid c O) H) z v → Q v H) : rRc X [.ref a] H Q := by
  unfold reprC at e
  cases q1 : shD d with
  | none => rw [q1] at e; cases e
  | some x =>
    rw [q1] at e
    simp only [Option.bind_some] at e
    by_cases ho : shOk x = true
    · rw [if_pos ho] at e
      cases e
      exact ⟨a, x, rfl, fun pins σ s I => rd_B sy I hK rv rfl q1, ho, q _ (by simp [Cy.R, R])⟩
    · rw [if_neg ho] at e
      cases e
theorem cd_reprG {k : Nat} (sy : SysK X.K) (hr : Rm True k X.A) (hK : c.K = X.K := by rfl) : CallD X c W (.builtin "repr") (pu1 reprG) := by
  refine cd_pu (cr_repr.or (cr_reprC (hr.gd trivial) hr.room)) fun O H xs z vs Q rx e q => ?_
  unfold reprG at e
  split at e
  · obtain ⟨v, rfl, h⟩ := rx.one
    obtain ⟨a, ws, rfl, _⟩ := h.tup
    exact .inr (reprC_ok sy hK h e q)
  · obtain ⟨v, rfl, h⟩ := rx.one
    obtain ⟨a, ws, rfl, _⟩ := h.lst
    exact .inr (reprC_ok sy hK h e q)
  · obtain ⟨v, rfl, h⟩ := rx.one
    obtain ⟨a, ws, rfl, _⟩ := h.dct
    exact .inr (reprC_ok sy hK h e q)
  · exact .inl (repr_ok rx e q)
end
end DF

set_option Elab.async false
set_option linter.all false
set_option maxRecDepth 100000
set_option maxHeartbeats 4000000
namespace DF
open PySem PySem.Spec PyProof.Rows L2
section
variable {gu : Prop} {X : Cx} {c : Cy} {W : WX} {σ : L2.St} {H H1 H' : Hp} {O : List (Nat × Addr)} {ρ : Slots} {pt pt' : Pot} {e a b o : Expr} {p p2 p3 pos apos cpos : Pos}
/-! ### constants of the module -/
theorem de_gint {x : Str} {i : Int} (h : ∃ t, X.mg x = some (.int i t)) (hg : Gl X x := by rfl) (hd : (x == ("__debug__" : Str)) = false := by decide) : PE X (.Name x pos) (dE c W (cE (.int i))) :=
  pe_imp (C8.pe_gc (v := .int i) hg (let ⟨t, e⟩ := h; ⟨_, e, t, rfl⟩) hd) fun σ H Q ⟨O, ρ, pt, r, q⟩ => Wg.here q r.pot _ (by simp [Cy.R, R])
theorem de_gstr {x : Str} {i : Str} (h : ∃ t, X.mg x = some (.str i t)) (hg : Gl X x := by rfl) (hd : (x == ("__debug__" : Str)) = false := by decide) : PE X (.Name x pos) (dE c W (cE (.str i))) :=
  pe_imp (C8.pe_gc (v := .str i) hg (let ⟨t, e⟩ := h; ⟨_, e, t, rfl⟩) hd) fun σ H Q ⟨O, ρ, pt, r, q⟩ => Wg.here q r.pot _ (by simp [Cy.R, R])
/-! ### {} -/
theorem de_dct0 : PE X (.Dict [] [] pos) (dE c W (cE (.dct []))) := pe_imp pe_dnewK fun σ H Q ⟨O, ρ, pt, r, q⟩ l hl => q _ (Stp.new r.pot hl) _ (by
  simp only [Cy.R, R]
  exact ⟨l, [], rfl, Hd.at_new (r.fresh hl), by simp [RK]⟩)
/-! ### a <= b <= c -/
def chI (f1 f2 : Int → Int → Bool) (fa fb fc : Slots → M D) : Slots → M D := fun ρ => bnd (fa ρ) fun x => bnd (fb ρ) fun y => bnd (opt (intOf x)) fun i => bnd (opt (intOf y)) fun j =>
  if f1 i j then bnd (fc ρ) fun z => bnd (opt (intOf z)) fun k => ret (.bl (f2 j k)) else ret (.bl false)
theorem ch_ok {f1 f2 : Int → Int → Bool} {fa fb fc : Slots → M D} {Q : VK} (h : dE c W (chI f1 f2 fa fb fc) σ H Q) : tChain (rI0 fun i j => .bl (f1 i j)) (rI0 fun i j => .bl (f2 i j)) (dE c W fa) (dE c W fb) (dE c W fc) σ H Q := by
  obtain ⟨O, ρ, pt, r, q⟩ := h
  refine ⟨O, ρ, pt, r, (Wg.bnd q).imp fun x p1 H1 _ s1 q v rv => ?_⟩
  have r1 := r.stp s1
  refine ⟨O, ρ, p1, r1, (Wg.bnd q).imp fun y p2 H2 _ s2 q w rw => ?_⟩
  have r2 := r1.stp s2
  obtain ⟨i, ei, q⟩ := Wg.opt (Wg.bnd q) r2.pot
  obtain ⟨j, ej, q⟩ := Wg.opt (Wg.bnd q) r2.pot
  rw [intOf_eq ei] at rv
  rw [intOf_eq ej] at rw
  simp only [Cy.R, R] at rv rw
  subst rv rw
  refine ⟨i, j, rfl, rfl, f1 i j, rfl, ?_⟩
  by_cases hf : f1 i j = true
  · rw [if_pos hf] at q
    rw [if_pos hf]
    refine ⟨O, ρ, p2, r2, (Wg.bnd q).imp fun z p3 H3 _ s3 q u ru => ?_⟩
    have r3 := r2.stp s3
    obtain ⟨k, ek, q⟩ := Wg.opt (Wg.bnd q) r3.pot
    rw [intOf_eq ek] at ru
    simp only [Cy.R, R] at ru
    subst ru
    exact ⟨j, k, rfl, rfl, Wg.here q r3.pot _ (by simp [Cy.R, R])⟩
  · rw [if_neg hf] at q
    rw [if_neg hf]
    exact Wg.here q r2.pot _ (by simp [Cy.R, R])
theorem de_ch {op op' : CmpOp} {f1 f2 : Int → Int → Bool} {fa fb fc : Slots → M D} {c3 : Expr} (o1 : OpR X (compareOp op) (rI0 fun i j => .bl (f1 i j))) (o2 : OpR X (compareOp op') (rI0 fun i j => .bl (f2 i j))) (ha : PE X a (dE c W fa)) (hb : PE X b (dE c W fb)) (hc : PE X c3 (dE c W fc))
    (hm : lastMarks [op, op'] [b, c3] = false := by with_unfolding_all rfl) : PE X (.Compare a [op, op'] [b, c3] pos) (dE c W (chI f1 f2 fa fb fc)) := pe_imp (pe_chain o1 o2 ha hb hc hm) fun σ H Q h => ch_ok h
theorem dt_ch {op op' : CmpOp} {f1 f2 : Int → Int → Bool} {fa fb fc : Slots → M D} {c3 : Expr} (o1 : OpR X (compareOp op) (rI0 fun i j => .bl (f1 i j))) (o2 : OpR X (compareOp op') (rI0 fun i j => .bl (f2 i j))) (ha : PE X a (dE c W fa)) (hb : PE X b (dE c W fb)) (hc : PE X c3 (dE c W fc))
    (hm : lastMarks [op, op'] [b, c3] = false := by with_unfolding_all rfl) : PT X (.Compare a [op, op'] [b, c3] pos) (dT c W (testE (chI f1 f2 fa fb fc))) := pt_imp (pt_chain o1 o2 ha hb hc hm) fun σ H Q h => by
  refine ch_ok (c := c) (W := W) ?_
  obtain ⟨O, ρ, pt, r, q⟩ := h
  refine ⟨O, ρ, pt, r, (Wg.bnd q).imp fun d p1 H1 _ s1 q v rv => ?_⟩
  obtain ⟨b, ed, q2⟩ := asB_ok q s1.pot
  subst ed
  exact ⟨b, by simpa [Cy.R, R] using rv, q2⟩
/-! ### in -/
def flatD : D → Bool
  | .non | .bl _ | .int _ | .str _ => true
  | _ => false
def eqF : D → D → Bool
  | .non, .non => true
  | .bl a, .bl b => a == b
  | .bl a, .int b => (if a then 1 else 0) == b
  | .int a, .bl b => a == (if b then 1 else 0)
  | .int a, .int b => a == b
  | .str a, .str b => a == b
  | _, _ => false
def inL (x : D) (ds : List D) : Option Bool := if flatD x && ds.all flatD then some (ds.any fun y => eqF y x) else none
def inB : D → D → Option Bool
  | x, .lst ds => inL x ds
  | x, .tup ds => inL x ds
  | .str x, .str z => match x.cps.toList with
    | [n] => some (decide (n ∈ z.cps.toList))
    | _ => none
  | _, _ => none
def inD (x y : D) : Option D := (inB x y).map .bl
def ninD (x y : D) : Option D := (inB x y).map fun b => .bl (!b)
theorem flat_v {d : D} {v : V} (h : RB c O H d v) (f : flatD d = true) : flatV v = true ∧ ∀ d' v', flatD d' = true → RB c O H d' v' → eqV v v' = eqF d d' := by
  have key : ∀ {d' : D} {v' : V}, flatD d' = true → RB c O H d' v' → (d' = .non ∧ v' = .non) ∨ (∃ b, d' = .bl b ∧ v' = .bl b) ∨ (∃ b, d' = .int b ∧ v' = .int b) ∨ (∃ b, d' = .str b ∧ v' = .str b) := fun {d' v'} f h => by
    cases d' <;> first | (simp [flatD] at f; done) | skip
    · exact .inl ⟨rfl, h.non⟩
    · exact .inr (.inl ⟨_, rfl, h.bl⟩)
    · exact .inr (.inr (.inl ⟨_, rfl, h.int⟩))
    · exact .inr (.inr (.inr ⟨_, rfl, h.str⟩))
  refine ⟨?_, fun d' v' f' h' => ?_⟩
  · rcases key f h with ⟨rfl, rfl⟩ | ⟨b, rfl, rfl⟩ | ⟨b, rfl, rfl⟩ | ⟨b, rfl, rfl⟩ <;> rfl
  · rcases key f h with ⟨rfl, rfl⟩ | ⟨b, rfl, rfl⟩ | ⟨b, rfl, rfl⟩ | ⟨b, rfl, rfl⟩ <;> rcases key f' h' with ⟨rfl, rfl⟩ | ⟨b', rfl, rfl⟩ | ⟨b', rfl, rfl⟩ | ⟨b', rfl, rfl⟩ <;> rfl
theorem flat_vs {x : D} {v : V} (hx : RB c O H x v) (fx : flatD x = true) : ∀ {ds : List D} {vs : List V}, c.RL (Hd (hid c O) H) ds vs → ds.all flatD = true → vs.all flatV = true ∧ inV v vs = ds.any fun y => eqF y x
  | [], _, h, _ => by simp only [Cy.RL, RL] at h; subst h; exact ⟨rfl, rfl⟩
  | d :: ds, _, h, f => by
    simp only [Cy.RL, RL] at h
    obtain ⟨w, ws, rfl, rw1, rl⟩ := h
    rw [List.all_cons, Bool.and_eq_true] at f
    obtain ⟨h1, h2⟩ := flat_vs hx fx rl f.2
    obtain ⟨k1, k2⟩ := flat_v (RB.of rw1) f.1
    refine ⟨by rw [List.all_cons, k1, h1]; rfl, ?_⟩
    unfold inV at h2 ⊢
    rw [List.any_cons, List.any_cons, k2 x v fx hx, h2]
theorem inB_ok {neg : Bool} {x y : D} {v w : V} {z : Bool} {Q : VK} (hK : c.K = X.K) (rx : RB c O H x v) (ry : RB c O H y w) (e : inB x y = some z) (q : Q (.bl (if neg then !z else z)) H) :
    rIn X.K neg v w H Q ∨ ∃ (n : Nat) (s : Str), v = .str ⟨#[n]⟩ ∧ w = .str s ∧ Q (.bl (if neg then !decide (n ∈ s.cps.toList) else decide (n ∈ s.cps.toList))) H := by
  have seq : ∀ {ds : List D} {a : Addr} {vs : List V}, w = .ref a → (SqL X.K H a vs ∨ SqT X.K H a vs) → c.RL (Hd (hid c O) H) ds vs → inL x ds = some z → rIn X.K neg v w H Q := fun {ds a vs} ew sq rl e => by
    unfold inL at e
    split at e
    · rename_i hf
      rw [Bool.and_eq_true] at hf
      cases e
      obtain ⟨h1, h2⟩ := flat_vs rx hf.1 rl hf.2
      exact ⟨a, vs, ew, sq, (flat_v rx hf.1).1, h1, by rw [h2]; exact q⟩
    · cases e
  unfold inB at e
  split at e
  · obtain ⟨a, vs, ew, ha, rl⟩ := ry.lst
    exact .inl (seq ew (.inl (.inl (.inl ha))) rl e)
  · obtain ⟨a, vs, ew, ha, rl⟩ := ry.tup
    exact .inl (seq ew (.inr (hK ▸ ha)) rl e)
  · rename_i x1 s1
    split at e
    · rename_i n hn
      cases e
      refine .inr ⟨n, s1, ?_, ry.str, q⟩
      rw [rx.str]
      obtain ⟨⟨l⟩⟩ := x1
      simp only at hn
      rw [hn]
    · cases e
  · cases e
theorem od_in (hK : c.K = X.K := by rfl) : OpD X c W (compareOp .In) (pu inD) := opd_pu (op_in_seq.or op_in_sign) fun O H x y z v w Q rx ry e q => by
  unfold inD at e
  cases e1 : inB x y with
  | none => rw [e1] at e; cases e
  | some b =>
    rw [e1] at e
    cases e
    exact inB_ok (neg := false) hK rx ry e1 (q _ (by simp [Cy.R, R]))
theorem od_nin (hK : c.K = X.K := by rfl) : OpD X c W (compareOp .NotIn) (pu ninD) := opd_pu (op_notIn_seq.or op_notIn_sign) fun O H x y z v w Q rx ry e q => by
  unfold ninD at e
  cases e1 : inB x y with
  | none => rw [e1] at e; cases e
  | some b =>
    rw [e1] at e
    cases e
    exact inB_ok (neg := true) hK rx ry e1 (q _ (by simp [Cy.R, R]))
/-! ### x[i] = v, of a list of one's own -/
def setL (ds : List D) (k : Int) (d : D) : Option (List D) := (ixN ds.length k).map fun n => ds.set n d
def setS (i : Nat) (fi f : Slots → M D) : Slots → M Out := fun ρ => bnd (f ρ) fun d => bnd (opt (ownOf ρ[i]?)) fun ds => bnd (fi ρ) fun k => bnd (opt (intOf k)) fun k => bnd (opt (setL ds k d)) fun ds' => ret (.nx (ρ.set i (some (.own ds'))))
theorem own_set {i : Nat} {ds ds' : List D} {a : Addr} {vs : List V} {d : D} {v : V} {k : Int} (r : RS c O ρ σ H pt) (m : (i, a) ∈ O) (ev : σ[i]? = some (some (.ref a))) (hl : i < ρ.length) (ha : H a = some (.lst vs)) (rl : c.RL (Hd (hid c O) H) ds vs) (rv : c.R (Hd (hid c O) H) d v) (e : setL ds k d = some ds') :
    ∃ n, ixN vs.length k = some n ∧ RS c O (ρ.set i (some (.own ds'))) σ (upd H a (.lst (vs.set n v))) pt ∧ Mv c O H O (upd H a (.lst (vs.set n v))) := by
  unfold setL at e
  rw [RL.len rl] at e
  cases en : ixN vs.length k with
  | none => rw [en] at e; cases e
  | some n =>
    rw [en] at e
    cases e
    obtain ⟨rs, mv⟩ := r.mut (s' := .own (ds.set n d)) m (o := .lst (vs.set n v)) (fun gr => ⟨a, vs.set n v, m, ev, upd_same, RL.set n (RL.gr gr rl) (R.gr gr rv)⟩) hl
    exact ⟨n, rfl, rs, mv⟩
theorem ds_set {i : Nat} {x : Str} {fi f : Slots → M D} (h : PE X e (dE c W f)) (hx : PE X a (dE c W fi)) (hN : X.N[i]? = some x := by rfl) (hv : Vis X.env.scope x := by first | exact Or.inl rfl | exact Or.inr (Or.inl rfl)) (hd : (x == ("__debug__" : Str)) = false := by decide) (hcd : (x == ("__classdict__" : Str)) = false := by decide)
    (ha : ∀ v, assign (.Subscript (.Name x p) a p3) X.env v = (do
      let ov ← holding [v] (eval (.Name x p) X.env)
      let iv ← holding [v, ov] (eval a X.env)
      standAt p3
      holding [v, ov, iv] (setItem ov iv v)
      release [v, ov, iv] []) := by intro _; rfl)
    (hs : swapsWithSole [.Subscript (.Name x p) a p3] e pos.line X.env = pure false := by rfl) (hw : swappedStores [.Subscript (.Name x p) a p3] e X.env = pure none := by rfl)
    (h1 : (assignEach [.Subscript (.Name x p) a p3] X.env).map (·.2) = [assign (.Subscript (.Name x p) a p3) X.env] := by rfl) :
    PS X (.Assign [.Subscript (.Name x p) a p3] e pos) (dS c W (setS i fi f)) := by
  refine ps_imp (ps_asg h (pg_sub (pe_var (i := i) hN hv hd hcd) hx set_list ha) hs hw h1) fun E σ H ⟨O, ρ, pt, r, h⟩ => ⟨O, ρ, pt, r, (WO.bnd r h).imp fun d p1 H1 _ s1 q v rv => ?_⟩
  have r1 := r.stp s1
  obtain ⟨ds, eo, q⟩ := Wg.opt (WO.bnd r1 q) r1.pot
  have es := ownOf_eq eo
  obtain ⟨ad, vs, m, ev, hal, rl⟩ := r1.sl i _ es
  refine ⟨_, ev, ⟨O, ρ, p1, r1, (WO.bnd r1 q).imp fun kd p2 H2 _ s2 q kv rk => ?_⟩⟩
  have r2 := r1.stp s2
  obtain ⟨k, ek, q⟩ := Wg.opt (WO.bnd r2 q) r2.pot
  rw [intOf_eq ek] at rk
  simp only [Cy.R, R] at rk
  subst rk
  obtain ⟨ds', es', q⟩ := Wg.opt (WO.bnd r2 q) r2.pot
  have g2 : Gr (Hd (hid c O) H1) (Hd (hid c O) H2) := s2.gr r1.pm
  obtain ⟨n, hn, rs, mv⟩ := own_set r2 m ev (List.getElem?_eq_some_iff.mp es).1 (s2.keep _ _ (r1.new _ m).2.1 hal) (RL.gr g2 rl) (R.gr g2 rv) es'
  exact ⟨ad, vs, k, n, rfl, rfl, s2.keep _ _ (r1.new _ m).2.1 hal, hn, q _ _ _ rs mv⟩
def set2S (i : Nat) (k1 k2 : Int) (fa : Slots → M (List D)) : Slots → M Out := fun ρ => bnd (tupE fa ρ) fun t => match t with
  | .tup [d1, d2] => bnd (opt (ownOf ρ[i]?)) fun ds => bnd (opt (setL ds k1 d1)) fun ds1 => bnd (opt (setL ds1 k2 d2)) fun ds2 => ret (.nx (ρ.set i (some (.own ds2))))
  | _ => fail
theorem ds_set2 {i j1 j2 kk kt : Nat} {k1 k2 : Int} {x : Str} {fa : Slots → M (List D)} {q1 q2 q3 pt0 pt2 : Pos} (hc : X.calm = true) (h : PA X [a, b] (dA c W fa)) (hN : X.N[i]? = some x := by rfl) (hv : Vis X.env.scope x := by first | exact Or.inl rfl | exact Or.inr (Or.inl rfl)) (hd : (x == ("__debug__" : Str)) = false := by decide) (hcd : (x == ("__classdict__" : Str)) = false := by decide)
    (ha : ∀ v, assign (.Subscript (.Name x p) (.Constant (.int k1) j1 p2) p3) X.env v = (do
      let ov ← holding [v] (eval (.Name x p) X.env)
      let iv ← holding [v, ov] (eval (.Constant (.int k1) j1 p2) X.env)
      standAt p3
      holding [v, ov, iv] (setItem ov iv v)
      release [v, ov, iv] []) := by intro _; rfl)
    (hb : ∀ v, assign (.Subscript (.Name x q1) (.Constant (.int k2) j2 q2) q3) X.env v = (do
      let ov ← holding [v] (eval (.Name x q1) X.env)
      let iv ← holding [v, ov] (eval (.Constant (.int k2) j2 q2) X.env)
      standAt q3
      holding [v, ov, iv] (setItem ov iv v)
      release [v, ov, iv] []) := by intro _; rfl)
    (hs : swapsWithSole [.Tuple [.Subscript (.Name x p) (.Constant (.int k1) j1 p2) p3, .Subscript (.Name x q1) (.Constant (.int k2) j2 q2) q3] kt pt0] (.Tuple [a, b] kk pt2) pos.line X.env = pure false := by rfl)
    (hw : swappedStores [.Tuple [.Subscript (.Name x p) (.Constant (.int k1) j1 p2) p3, .Subscript (.Name x q1) (.Constant (.int k2) j2 q2) q3] kt pt0] (.Tuple [a, b] kk pt2) X.env = pure none := by rfl)
    (h1 : (assignEach [.Tuple [.Subscript (.Name x p) (.Constant (.int k1) j1 p2) p3, .Subscript (.Name x q1) (.Constant (.int k2) j2 q2) q3] kt pt0] X.env).map (·.2) = [assign (.Tuple [.Subscript (.Name x p) (.Constant (.int k1) j1 p2) p3, .Subscript (.Name x q1) (.Constant (.int k2) j2 q2) q3] kt pt0) X.env] := by rfl)
    (h2 : (assignEach [.Subscript (.Name x p) (.Constant (.int k1) j1 p2) p3, .Subscript (.Name x q1) (.Constant (.int k2) j2 q2) q3] X.env).map (·.2) = assign (.Subscript (.Name x p) (.Constant (.int k1) j1 p2) p3) X.env :: (assignEach [.Subscript (.Name x q1) (.Constant (.int k2) j2 q2) q3] X.env).map (·.2) := by rfl)
    (h3 : (assignEach [.Subscript (.Name x q1) (.Constant (.int k2) j2 q2) q3] X.env).map (·.2) = assign (.Subscript (.Name x q1) (.Constant (.int k2) j2 q2) q3) X.env :: (assignEach [] X.env).map (·.2) := by rfl)
    (h4 : (assignEach [.Subscript (.Name x p) (.Constant (.int k1) j1 p2) p3, .Subscript (.Name x q1) (.Constant (.int k2) j2 q2) q3] X.env).length = 2 := by rfl) (h5 : (assignEach [.Subscript (.Name x p) (.Constant (.int k1) j1 p2) p3, .Subscript (.Name x q1) (.Constant (.int k2) j2 q2) q3] X.env).findIdx? (·.1) = none := by rfl) (hK : c.K = X.K := by rfl) :
    PS X (.Assign [.Tuple [.Subscript (.Name x p) (.Constant (.int k1) j1 p2) p3, .Subscript (.Name x q1) (.Constant (.int k2) j2 q2) q3] kt pt0] (.Tuple [a, b] kk pt2) pos) (dS c W (set2S i k1 k2 fa)) := by
  refine ps_imp (ps_asg (de_tup h) (pg_tup hc (pgs_cons (pg_sub (pe_var (i := i) hN hv hd hcd) pe_int set_list ha) (pgs_cons (pg_sub (pe_var (i := i) hN hv hd hcd) pe_int set_list hb) pgs_nil h3) h2) h4 h5) hs hw h1) fun E σ H ⟨O, ρ, pt, r, h⟩ => ⟨O, ρ, pt, r, (WO.bnd r h).imp fun d p1 H1 _ s1 q v rv => ?_⟩
  have r1 := r.stp s1
  split at q
  · rename_i d1 d2
    simp only [Cy.R, R, RL] at rv
    obtain ⟨at_, vs0, rfl, sq, w1, _, rfl, rw1, w2, _, rfl, rw2, rfl⟩ := rv
    obtain ⟨ds, eo, q⟩ := Wg.opt (WO.bnd r1 q) r1.pot
    obtain ⟨ds1, e1, q⟩ := Wg.opt (WO.bnd r1 q) r1.pot
    obtain ⟨ds2, e2, q⟩ := Wg.opt (WO.bnd r1 q) r1.pot
    have es := ownOf_eq eo
    have hl := (List.getElem?_eq_some_iff.mp es).1
    obtain ⟨ad, vs, m, ev, hal, rl⟩ := r1.sl i _ es
    obtain ⟨n, hn, rs, mv⟩ := own_set r1 m ev hl hal rl rw1 e1
    have es1 : (ρ.set i (some (.own ds1)))[i]? = some (some (.own ds1)) := List.getElem?_set_self hl
    obtain ⟨ad1, vs1, m1, ev1, hal1, rl1⟩ := rs.sl i _ es1
    obtain ⟨n1, hn1, rs1, mv1⟩ := own_set rs m1 ev1 (by rw [List.length_set]; exact hl) hal1 rl1 (R.gr mv.gr rw2) e2
    rw [List.set_set] at rs1
    exact ⟨at_, _, rfl, by rw [← hK]; exact Hd.le.sqt sq, rfl, w1, [w2], rfl, _, ev, ad, vs, k1, n, rfl, rfl, hal, hn, w2, [], rfl, _, ev1, ad1, vs1, k2, n1, rfl, rfl, hal1, hn1, rfl, q _ _ _ rs1 (mv.trans mv1)⟩
  · exact q.elim
end
end DF

set_option Elab.async false
set_option linter.all false
set_option maxRecDepth 100000
set_option maxHeartbeats 4000000
namespace DF
open PySem PySem.Spec PyProof.Rows L2
/-! ### calls by keywords -/
def pick {α : Type} (sel : List (Bool × Nat)) (mv ws : List α) : List α := sel.filterMap fun q => if q.1 then ws[q.2]? else mv[q.2]?
theorem vals_at {vs : List V} {us : List Value} (h : Vals vs us) (i : Nat) : (vs[i]? = none ∧ us[i]? = none) ∨ ∃ v u, vs[i]? = some v ∧ us[i]? = some u ∧ RelV v u := by
  induction h generalizing i with
  | nil => exact .inl ⟨by simp, by simp⟩
  | cons r _ ih =>
    cases i with
    | zero => exact .inr ⟨_, _, rfl, rfl, r⟩
    | succ i => simpa using ih i
theorem vals_pick {mz zs : List V} {mv ws : List Value} (h1 : Vals mz mv) (h2 : Vals zs ws) : ∀ sel : List (Bool × Nat), Vals (pick sel mz zs) (pick sel mv ws)
  | [] => .nil
  | q :: sel => by
    have ih := vals_pick h1 h2 sel
    unfold pick at ih ⊢
    rw [List.filterMap_cons, List.filterMap_cons]
    cases hq : q.1 with
    | true =>
      simp only [if_true]
      rcases vals_at h2 q.2 with ⟨e1, e2⟩ | ⟨v, u, e1, e2, r⟩
      · rw [e1, e2]; exact ih
      · rw [e1, e2]; exact .cons r ih
    | false =>
      simp only [Bool.false_eq_true, if_false]
      rcases vals_at h1 q.2 with ⟨e1, e2⟩ | ⟨v, u, e1, e2, r⟩
      · rw [e1, e2]; exact ih
      · rw [e1, e2]; exact .cons r ih
theorem rl_at {K : PySem.W.Frag} {T : Tb} {p : Addr} {H : Hp} {ds : List D} {vs : List V} (h : RL K T p H ds vs) (i : Nat) : (ds[i]? = none ∧ vs[i]? = none) ∨ ∃ d v, ds[i]? = some d ∧ vs[i]? = some v ∧ R K T p H d v := by
  cases e : ds[i]? with
  | none =>
    left
    refine ⟨rfl, ?_⟩
    have := List.getElem?_eq_none_iff.mp e
    exact List.getElem?_eq_none (by rw [← RL.len h]; exact this)
  | some d =>
    obtain ⟨v, ev, r⟩ := RL.getD h e
    exact .inr ⟨d, v, rfl, ev, r⟩
theorem rl_pick {K : PySem.W.Frag} {T : Tb} {p : Addr} {H : Hp} {md ds : List D} {mz zs : List V} (h1 : RL K T p H md mz) (h2 : RL K T p H ds zs) : ∀ sel : List (Bool × Nat), RL K T p H (pick sel md ds) (pick sel mz zs)
  | [] => RL.nil
  | q :: sel => by
    have ih := rl_pick h1 h2 sel
    unfold pick at ih ⊢
    rw [List.filterMap_cons, List.filterMap_cons]
    cases hq : q.1 with
    | true =>
      simp only [if_true]
      rcases rl_at h2 q.2 with ⟨e1, e2⟩ | ⟨v, u, e1, e2, r⟩
      · rw [e1, e2]; exact ih
      · rw [e1, e2]; exact RL.cons r ih
    | false =>
      simp only [Bool.false_eq_true, if_false]
      rcases rl_at h1 q.2 with ⟨e1, e2⟩ | ⟨v, u, e1, e2, r⟩
      · rw [e1, e2]; exact ih
      · rw [e1, e2]; exact RL.cons r ih
section
variable {gu : Prop} {X : Cx} {c : Cy} {W : WX} {CX : CXT} {k n n0 kc : Nat} {f C : Addr} {fd : FuncData} {ps ks : List Str} {sp : Sp} {E : L2.St → XK} {x : Str} {p pos kpos : Pos} {e o : Expr} {es : List Expr} {kws : List Keyword} {t tk : TA} {g : List Value → List Value → List Value} {gV : List V → List V → List V} {nm : Option Str}
theorem pk_imp {kws : List Keyword} {t t' : TA} (h : PK X kws t) (i : ∀ σ H Q, t' σ H Q → t σ H Q) : PK X kws t' := ⟨fun pos pins s σ H Q I q => h.run pos pins s σ H Q I (i σ H Q q)⟩
theorem dk_nil : PK X [] (dA c W nilA) := pk_imp pk_nil fun σ H Q ⟨O, ρ, pt, r, q⟩ => Wg.here q r.pot _ RL.nil
theorem dk_cons {f : Slots → M D} {g : Slots → M (List D)} (h : PE X e (dE c W f)) (hs : PK X kws (dA c W g)) : PK X (⟨nm, e, kpos⟩ :: kws) (dA c W (consA f g)) := by
  refine pk_imp (pk_cons h hs) fun σ H Q ⟨O, ρ, pt, r, q⟩ => ?_
  refine ⟨O, ρ, pt, r, (Wg.bnd q).imp fun d p1 H1 _ s1 q v rv => ?_⟩
  refine ⟨O, ρ, p1, r.stp s1, (Wg.bnd q).imp fun ds p2 H2 _ s2 q vs rvs => ?_⟩
  have r2 := (r.stp s1).stp s2
  exact Wg.here q r2.pot _ (RL.cons (R.gr (s2.gr r.pm) rv) rvs)
theorem makeKAt {pins : List (Addr × Obj)} {σ : L2.St} {H : Hp} {s : Shared} {Q : VK} {us ws : List Value} {vs zs : List V} (M : Mk X.K C f) (F : FnG gu X.prog X.w X.K X.mg X.base CX k f fd ps sp) (hr : Rm gu (k + 1) X.A) (hb : KBn X.K fd ps (n + 1) ks g gV) (hx : PassesAt CX X σ (E σ))
    (I : Inv X pins σ H s) (r : Vals vs us) (rz : Vals zs ws) (l1 : vs.length = n) (l2 : zs.length = ks.length)
    (h : ∀ y dx, H y = none → H dx = none → dx ≠ y → sp (gV (.ref y :: vs) zs) (upd (upd H dx (.own y)) y (.ins C dx [])) (fun v H2 => v = .non ∧ Q (.ref y) H2) (E σ)) :
    wpAny (model X.prog X.w) X.A (call (.ref C) us (ks.zip ws)) (EP X pins σ Q) X.xe s := by
  have hq := h (s.heap.objs.size + 1) s.heap.objs.size (I.hok.fresh (Nat.le_succ _)) (I.hok.fresh (Nat.le_refl _)) (Nat.ne_of_lt (Nat.lt_succ_self _))
  have J := Inv.made (C := C) I
  have r1 : Vals (V.ref (s.heap.objs.size + 1) :: vs) (Value.ref (s.heap.objs.size + 1) :: us) := .cons rfl r
  have lu : (Value.ref (s.heap.objs.size + 1) :: us).length = n + 1 := r1.length.symm.trans (congrArg (· + 1) l1)
  have go := F.run _ X.stack _ _ ⟨Value.ref (s.heap.objs.size + 1) :: us, ks.zip ws⟩ _ _ _ (E σ) (hr.make C us (ks.zip ws)) (J.env0.make C us (ks.zip ws)) (hb.to _ (Value.ref (s.heap.objs.size + 1) :: us) ws J.kIn lu (rz.length.symm.trans l2)) (hb.rel r1 rz) hq
  refine wpAny_call (make_map (f := f) I.kIn M.makes M.init (beq_iff_eq.mp M.fn) (codeAny_mono go fun res s' hq' => ?_))
  match res, hq' with
  | .error e, hq' => exact hx pins _ _ e s' J hq'
  | .ok (.ret u), hq' =>
    obtain ⟨v, H', I3, rv, ev, q3⟩ := J.after hq'
    subst ev
    exact ⟨rv, ⟨V.ref (s.heap.objs.size + 1), H', I3, rfl, q3⟩⟩
def makeKE (kc n n0 m : Nat) (fm : List D → M (List D)) (sel : List (Bool × Nat)) (dd : List D) (fa fk : Slots → M (List D)) : Slots → M D := fun ρ => bnd (fa ρ) fun ds => bnd (fk ρ) fun es =>
  if ds.length = n0 ∧ es.length = m ∧ (ds ++ pick sel dd es).length + 1 = n then bnd (fm (ds ++ pick sel dd es)) fun fs => ret (.obj kc fs) else fail
theorem makeK_use {fm : List D → M (List D)} {fa fk : Slots → M (List D)} {sel : List (Bool × Nat)} {dd : List D} {dvs : List V} {m : Nat} {σ : L2.St} {H : Hp} {Q : VK} (hC : c.T.cls kc = C) (hc : Cst c dd dvs) (h : dE c W (makeKE kc n n0 m fm sel dd fa fk) σ H Q) :
    dA c W fa σ H fun vs H1 => dA c W fk σ H1 fun zs H2 => vs.length = n0 ∧ zs.length = m ∧ ∀ y dx, H2 y = none → H2 dx = none → dx ≠ y → spI c.K c.T kc n fm (.ref y :: (vs ++ pick sel dvs zs)) (upd (upd H2 dx (.own y)) y (.ins C dx [])) (fun v H3 => v = .non ∧ Q (.ref y) H3) (WE W σ) := by
  obtain ⟨O, ρ, pt, r, q⟩ := h
  refine ⟨O, ρ, pt, r, (Wg.bnd q).imp fun ds p1 H1 _ s1 q vs rl => ?_⟩
  have r1 := r.stp s1
  refine ⟨O, ρ, p1, r1, (Wg.bnd q).imp fun es p2 H2 _ s2 q zs rz => ?_⟩
  have r2 := r1.stp s2
  by_cases hl : ds.length = n0 ∧ es.length = m ∧ (ds ++ pick sel dd es).length + 1 = n
  · rw [if_pos hl] at q
    refine ⟨(RL.len rl).symm.trans hl.1, (RL.len rz).symm.trans hl.2.1, fun y dx hy hdx ne => ?_⟩
    exact spI_of r2 (RL.app (RL.gr (s2.gr r.pm) rl) (rl_pick (hc _) rz sel)) hl.2.2 hC hy hdx ne q
  · rw [if_neg hl] at q
    exact q.elim
theorem de_makeK {m : Nat} {fm : List D → M (List D)} {fa fk : Slots → M (List D)} {sel : List (Bool × Nat)} {dd : List D} {dvs : List V} (M : Mk X.K C f) (F : FnG gu X.prog X.w X.K X.mg X.base (L2.CX X.prog X.w) k f fd ps (spI c.K c.T kc n fm)) (hr : Rm gu (k + 1) X.A) (tk : Takes X W) (hm : X.mg x = some (.ref C)) (hC : c.T.cls kc = C)
    (hb : KBn X.K fd ps (n0 + 1) ks g (fun vs zs => vs ++ pick sel dvs zs)) (hc : Cst c dd dvs) (ha : PA X (e :: es) (dA c W fa)) (hkw : PK X kws (dA c W fk)) (hg : Gl X x := by rfl)
    (hall : (backToKw pos (keywordEach kws X.env)).all (·.1.isSome) = true := by rfl) (hks : (backToKw pos (keywordEach kws X.env)).filterMap (·.1) = ks := by rfl) (hl : ks.length = m := by rfl) (hdb : (x == ("__debug__" : Str)) = false := by decide)
    (he : starEach (e :: es) X.env = (false, eval e X.env) :: starEach es X.env := by rfl) (hpl : ((backTo pos (starEach (e :: es) X.env)).any (·.1) || (backToKw pos (keywordEach kws X.env)).any (·.1.isNone)) = false := by rfl) :
    PE X (.Call (.Name x p) (e :: es) kws pos) (dE c W (makeKE kc n n0 m fm sel dd fa fk)) := by
  subst hl
  refine ⟨fun pins s σ H Q I h => wpAny_Call_Name_kw (ld_glob I hg hm ?_ hdb)⟩
  refine PySem.W.callWith_KW (h₀ := X.base) I.ok.mod.kin M.kp hall (thn (ha.run pos pins s σ H _ I (makeK_use hC hc h)) fun us s1 ⟨vs, H1, I1, r, q⟩ => ?_) hpl he
  refine thn (hkw.run pos pins s1 σ H1 _ I1 q) fun ws s2 ⟨zs, H2, I2, rz, l1, l2, q2⟩ => ⟨I2.kIn, ?_⟩
  rw [hks]
  exact makeKAt (E := WE W) M F hr hb (passAt tk σ) I2 r rz l1 l2 q2
theorem de_makeK0 {m : Nat} {fm : List D → M (List D)} {fk : Slots → M (List D)} {sel : List (Bool × Nat)} {dd : List D} {dvs : List V} (M : Mk X.K C f) (F : FnG gu X.prog X.w X.K X.mg X.base (L2.CX X.prog X.w) k f fd ps (spI c.K c.T kc n fm)) (hr : Rm gu (k + 1) X.A) (tk : Takes X W) (hm : X.mg x = some (.ref C)) (hC : c.T.cls kc = C)
    (hb : KBn X.K fd ps 1 ks g (fun vs zs => vs ++ pick sel dvs zs)) (hc : Cst c dd dvs) (hkw : PK X kws (dA c W fk)) (hg : Gl X x := by rfl)
    (hall : (backToKw pos (keywordEach kws X.env)).all (·.1.isSome) = true := by rfl) (hks : (backToKw pos (keywordEach kws X.env)).filterMap (·.1) = ks := by rfl) (hl : ks.length = m := by rfl) (hdb : (x == ("__debug__" : Str)) = false := by decide)
    (hpl : ((backTo pos (starEach [] X.env)).any (·.1) || (backToKw pos (keywordEach kws X.env)).any (·.1.isNone)) = false := by rfl) :
    PE X (.Call (.Name x p) [] kws pos) (dE c W (makeKE kc n 0 m fm sel dd nilA fk)) := by
  subst hl
  refine ⟨fun pins s σ H Q I h => wpAny_Call_Name_kw (ld_glob I hg hm ?_ hdb)⟩
  have h2 : dA c W fk σ H fun zs H2 => zs.length = ks.length ∧ ∀ y dx, H2 y = none → H2 dx = none → dx ≠ y → spI c.K c.T kc n fm (.ref y :: ([] ++ pick sel dvs zs)) (upd (upd H2 dx (.own y)) y (.ins C dx [])) (fun v H3 => v = .non ∧ Q (.ref y) H3) (WE W σ) := by
    obtain ⟨O, ρ, pt, r, q⟩ := makeK_use hC hc h
    obtain ⟨O1, ρ1, pt1, r1, q1⟩ := Wg.here q r.pot [] RL.nil
    exact ⟨O1, ρ1, pt1, r1, q1.imp fun a q H' _ _ z v rv => ⟨(z v rv).2.1, (z v rv).2.2⟩⟩
  refine PySem.W.callWith_KW0 (h₀ := X.base) I.ok.mod.kin M.kp hall ?_ hpl
  refine thn (hkw.run pos pins s σ H _ I h2) fun ws s2 ⟨zs, H2, I2, rz, l2, q2⟩ => ⟨I2.kIn, ?_⟩
  rw [hks]
  exact makeKAt (us := []) (vs := []) (E := WE W) M F hr hb (passAt tk σ) I2 .nil rz rfl l2 q2
end
end DF

set_option Elab.async false
set_option linter.all false
set_option maxRecDepth 100000
set_option maxHeartbeats 4000000
namespace DF
open PySem PySem.Spec PyProof.Rows L2
/-! ### the end of a law, called with no repr under way -/
section
variable {P : Program} {w : World} {K : PySem.W.Frag} {mg mb : Str → Option Value} {CX : CXT} {k : Nat} {fa a : Addr} {cs : List (Addr × Addr)} {fd : FuncData} {x : Str} {sp : Sp} {s1 : Shared} {vs : List Value} {ns : List Int}
abbrev emT : Obj := { cls := .none, data := .fields #[] }
abbrev lsO (vs : List Value) : Obj := { cls := .type "list", data := .seq vs.toArray }
theorem law_core (KX : K.In s1.heap) (hns : s1.heap.Ns mainGlobals mg) (hb : s1.heap.Ns builtinsNs mb) (hbb : ∀ y : Str, y ≠ "__name__" → mb y = bootBuiltins y) (hlim : s1.heap.NoLimit) (hg : s1.gens = #[])
    (hT : ∀ q ∈ cs, s1.heap.get? q.2 = some emT) (nT : ∀ q ∈ cs, K.lookup q.2 = none) (hC : ∀ q ∈ cs, PySem.W.CodeHd s1.heap q.1 q.2)
    (hbm : ∃ (bm : Addr) (ob : Obj), mg "__builtins__" = some (.ref bm) ∧ bm ≠ builtinsNs ∧ s1.heap.get? bm = some ob ∧ ob.cls = .type "module" ∧ ob.dict = some builtinsNs ∧ ob.data = .plain)
    (ha : s1.heap.get? a = some (lsO vs)) (hr : Rm True k callerA)
    (F : ∀ base : Heap, K.In base → base.Ns mainGlobals mg → (∀ q ∈ cs, LamX.TabB base mg q.1 q.2) → FnG True P w K mg base CX k fa fd [x] sp) (hbind : ∀ (s : Shared) (u : Value), BindsTo s fd ⟨[u], []⟩ [(x, u)])
    (hCX : ∀ H e s', CX [] H s1 (fun _ _ _ => False) e s' → False) {H : Hp} (want : sp [.ref a] H (fun v _ => v = .bl true) fun _ _ _ => False)
    (tabs : ∀ q ∈ cs, H q.2 = some (.tbl #[])) (kinds : ∀ b, H b = none ∨ b ∈ cs.map (·.2) ∨ ∃ o xs, H b = some (.frz o (.lst xs))) (hok : HOk P w H s1.heap) (only : ∀ b, H b ≠ none → b = a ∨ b ∈ cs.map (·.2)) (hK : H a ≠ none → K.lookup a = none) :
    codeAny (model P w) callerA (.call (.ref fa) ⟨[.ref a], []⟩) (fun r s' => r = .ok (.ret (.bool true)) ∧ OldK s1.heap s'.heap ∧ s'.os = s1.os ∧ AllBare s'.gens) s1 := by
  have atT : ∀ b : Addr, b ∈ cs.map (·.2) → s1.heap.get? b = some emT := fun b m => by
    obtain ⟨q, hq, e⟩ := List.mem_map.mp m
    exact e ▸ hT q hq
  have seen : ∀ {b : Addr} {o : Obj}, s1.heap.get? b = some o → H b = none → (hidT s1.heap H).get? b = some o := fun e n => hidT_get e n
  have off : ∀ {b : Addr} {o : Obj}, s1.heap.get? b = some o → (∀ us m, o.data ≠ .seq us m) → o.data ≠ .fields #[] → H b = none := fun {b o} e n1 n2 => by
    by_cases z : H b = none
    · exact z
    · rcases only b z with y | y
      · rw [y, ha] at e
        cases e
        exact absurd rfl (n1 _ _)
      · rw [atT b y] at e
        cases e
        exact absurd rfl n2
  have offD : ∀ {b : Addr} {o : Obj} {es : Array DictEntry} {ep : Nat}, s1.heap.get? b = some o → o.data = .dict es ep → H b = none := fun {b o es ep} e d => off e (fun us m y => by rw [d] at y; cases y) fun y => by rw [d] at y; cases y
  have nsB : ∀ {b : Addr} {m : Str → Option Value}, s1.heap.Ns b m → (hidT s1.heap H).Ns b m := fun {b m} ⟨o, es, ep, e, d, r⟩ => ⟨o, es, ep, seen e (offD e d), d, r⟩
  have inB : K.In (hidT s1.heap H) := fun b o e => seen (KX b o e) (by
    by_cases z : H b = none
    · exact z
    · rcases only b z with y | y
      · subst y
        rw [hK z] at e
        cases e
      · obtain ⟨q, hq, eq⟩ := List.mem_map.mp y
        rw [← eq, nT q hq] at e
        cases e)
  have modB : L2.Mod K mg (hidT s1.heap H) := ⟨inB, nsB hns, ⟨mb, nsB hb, hbb⟩, let ⟨mc, z1, z2⟩ := hlim; ⟨mc, nsB z1, z2⟩⟩
  have tabB : ∀ q ∈ cs, LamX.TabB (hidT s1.heap H) mg q.1 q.2 := fun q hq => by
    refine ⟨?_, ?_, fun z => ?_⟩
    · obtain ⟨o, us, file, tf, flags, tg, inF, text, tt, e1, y1, y2, y3, y4, y5, y6, y7, y8, yn⟩ := hC q hq
      refine ⟨o, us, file, tf, flags, tg, inF, text, tt, seen e1 (off e1 (fun u2 m y => by rw [y2] at y; cases y) fun y => ?_), y1, y2, y3, y4, y5, y6, y7, y8, yn⟩
      rw [y2] at y
      cases y
      simp at y3
    · obtain ⟨bm, ob, b1, b2, b3, b4, b5, b6⟩ := hbm
      refine ⟨bm, ob, b1, b2, fun z => ?_, fun z => ?_, seen b3 (off b3 (fun us m y => by rw [b6] at y; cases y) fun y => by rw [b6] at y; cases y), b4, b5, b6⟩
      · obtain ⟨o, es, ep, e, hd, _⟩ := hns
        rw [z, e] at b3
        cases b3
        rw [hd] at b6
        cases b6
      · rw [z, hT q hq] at b3
        cases b3
        cases b6
    · obtain ⟨o, es, ep, e, hd, _⟩ := hns
      rw [z, hT q hq] at e
      cases e
      cases hd
  have env : Env0 P w K mg (hidT s1.heap H) callerA [] s1 H := ⟨rfl, modB, fun b o e => of_hidT e, Nat.le_of_eq (hidT_size _ _), trivial, fun b m => (nomatch (show b ∈ ([] : List Addr) from m)), hok, .of_eq hg⟩
  refine codeAny_mono ((F _ inB (nsB hns) tabB).run callerA [] s1 H ⟨[.ref a], []⟩ [.ref a] [.ref a] _ _ hr env (hbind s1 (.ref a)) (.cons rfl .nil) want) fun res s' got => ?_
  match res, got with
  | .error e, got => exact (hCX H e s' got).elim
  | .ok (.ret u), got =>
    obtain ⟨v, H', eos, bare, un, hok', rv, q⟩ := got
    have ev : v = .bl true := q
    subst ev
    obtain rfl : u = Value.bool true := rv
    have stays : ∀ b o, b ∉ cs.map (·.2) → s1.heap.get? b = some o → s'.heap.get? b = some o := fun b o nb e => by
      cases q : H b with
      | none => exact un.keep b o e q (fun z => (nomatch (show b ∈ ([] : List Addr) from z))) (by simp)
      | some u =>
        rcases kinds b with z | z | ⟨ob, xs, z⟩
        · rw [q] at z; cases z
        · exact absurd z nb
        · obtain ⟨e1, _⟩ := hok b _ z
          obtain ⟨e2, _⟩ := hok' b _ (un.frzs b ob _ z)
          rw [e] at e1
          cases e1
          exact e2
    have grew : ∀ q ∈ cs, ∃ more : Array Value, s'.heap.get? q.2 = some { cls := .none, data := .fields more } := fun q hq => by
      obtain ⟨more, z⟩ := un.tbls q.2 #[] (tabs q hq)
      exact ⟨_, hok' q.2 _ z⟩
    refine ⟨rfl, ⟨fun b o e => ?_, fun b o e => ?_⟩, eos, bare⟩
    · by_cases m : b ∈ cs.map (·.2)
      · obtain ⟨q, hq, eq⟩ := List.mem_map.mp m
        obtain ⟨more, z⟩ := grew q hq
        rw [← eq, hT q hq] at e
        cases e
        rw [← eq]
        exact .inr (.inl ⟨((hC q hq).tab (hT q hq)).isCodeTable, rfl, #[], more, rfl, by rw [Array.empty_append]; exact z⟩)
      · exact .inl (stays b o m e)
    · by_cases m : b ∈ cs.map (·.2)
      · obtain ⟨q, hq, eq⟩ := List.mem_map.mp m
        obtain ⟨more, z⟩ := grew q hq
        exact ⟨_, eq ▸ z⟩
      · exact ⟨o, stays b o m e⟩
theorem law_run (KX : K.In s1.heap) (hns : s1.heap.Ns mainGlobals mg) (hb : s1.heap.Ns builtinsNs mb) (hbb : ∀ y : Str, y ≠ "__name__" → mb y = bootBuiltins y) (hlim : s1.heap.NoLimit) (hg : s1.gens = #[])
    (hT : ∀ q ∈ cs, s1.heap.get? q.2 = some emT) (nT : ∀ q ∈ cs, K.lookup q.2 = none) (hC : ∀ q ∈ cs, PySem.W.CodeHd s1.heap q.1 q.2)
    (hbm : ∃ (bm : Addr) (ob : Obj), mg "__builtins__" = some (.ref bm) ∧ bm ≠ builtinsNs ∧ s1.heap.get? bm = some ob ∧ ob.cls = .type "module" ∧ ob.dict = some builtinsNs ∧ ob.data = .plain)
    (ha : s1.heap.get? a = some (lsO vs)) (hi : IntsAre vs ns) (hl : ns.length ≤ sizeLine) (hr : Rm True k callerA)
    (F : ∀ base : Heap, K.In base → base.Ns mainGlobals mg → (∀ q ∈ cs, LamX.TabB base mg q.1 q.2) → FnG True P w K mg base CX k fa fd [x] sp) (hbind : ∀ (s : Shared) (u : Value), BindsTo s fd ⟨[u], []⟩ [(x, u)])
    (want : ∀ H : Hp, (∀ q ∈ cs, H q.2 = some (.tbl #[])) → SqL K H a (ns.map V.int) → sp [.ref a] H (fun v _ => v = .bl true) fun _ _ _ => False)
    (hCX : ∀ H e s', CX [] H s1 (fun _ _ _ => False) e s' → False) :
    codeAny (model P w) callerA (.call (.ref fa) ⟨[.ref a], []⟩) (fun r s' => r = .ok (.ret (.bool true)) ∧ OldK s1.heap s'.heap ∧ s'.os = s1.os ∧ AllBare s'.gens) s1 := by
  have rv := vals_ints hi
  have lv := hi.length
  have atT : ∀ b : Addr, b ∈ cs.map (·.2) → s1.heap.get? b = some emT := fun b m => by
    obtain ⟨q, hq, e⟩ := List.mem_map.mp m
    exact e ▸ hT q hq
  have aT : a ∉ cs.map (·.2) := fun m => by
    have z := (atT a m).symm.trans ha
    cases z
  have inT : ∀ q ∈ cs, q.2 ∈ cs.map (·.2) := fun q hq => List.mem_map.mpr ⟨q, hq, rfl⟩
  cases hk : K.lookup a with
  | some o =>
    have eo := (KX a o hk).symm.trans ha
    cases eo
    let G : Hp := fun b => if b ∈ cs.map (·.2) then some (.tbl #[]) else none
    have gT : ∀ {b}, b ∈ cs.map (·.2) → G b = some (.tbl #[]) := fun m => if_pos m
    have gN : ∀ {b}, b ∉ cs.map (·.2) → G b = none := fun m => if_neg m
    refine law_core (H := G) KX hns hb hbb hlim hg hT nT hC hbm ha hr F hbind hCX (want G (fun q hq => gT (inT q hq)) (.inr ⟨_, vs.toArray, _, hk, rfl, rfl, rfl, by rw [List.size_toArray, lv]; exact hl, by simpa using rv⟩)) (fun q hq => gT (inT q hq)) (fun b => ?_) (fun b u z => ?_) (fun b z => ?_) fun z => absurd (gN aT) z
    · by_cases m : b ∈ cs.map (·.2)
      · exact .inr (.inl m)
      · exact .inl (gN m)
    · by_cases m : b ∈ cs.map (·.2)
      · rw [gT m] at z
        cases z
        exact atT b m
      · rw [gN m] at z
        cases z
    · by_cases m : b ∈ cs.map (·.2)
      · exact .inr m
      · exact absurd (gN m) z
  | none =>
    let G : Hp := fun b => if b = a then some (.frz (lsO vs) (.lst (ns.map V.int))) else if b ∈ cs.map (·.2) then some (.tbl #[]) else none
    have gA : G a = some (.frz (lsO vs) (.lst (ns.map V.int))) := if_pos rfl
    have gT : ∀ {b}, b ∈ cs.map (·.2) → G b = some (.tbl #[]) := fun {b} m => (if_neg (fun z : b = a => aT (z ▸ m))).trans (if_pos m)
    have gN : ∀ {b}, b ≠ a → b ∉ cs.map (·.2) → G b = none := fun n m => (if_neg n).trans (if_neg m)
    refine law_core (H := G) KX hns hb hbb hlim hg hT nT hC hbm ha hr F hbind hCX (want G (fun q hq => gT (inT q hq)) (.inl (.inr ⟨lsO vs, gA⟩))) (fun q hq => gT (inT q hq)) (fun b => ?_) (fun b u z => ?_) (fun b z => ?_) fun _ => hk
    · by_cases n : b = a
      · exact .inr (.inr ⟨_, _, n ▸ gA⟩)
      · by_cases m : b ∈ cs.map (·.2)
        · exact .inr (.inl m)
        · exact .inl (gN n m)
    · by_cases n : b = a
      · subst n
        rw [gA] at z
        cases z
        exact ⟨ha, by rw [List.length_map]; exact hl, vs, _, rv, ha⟩
      · by_cases m : b ∈ cs.map (·.2)
        · rw [gT m] at z
          cases z
          exact atT b m
        · rw [gN n m] at z
          cases z
    · by_cases n : b = a
      · exact .inl n
      · by_cases m : b ∈ cs.map (·.2)
        · exact .inr m
        · exact absurd (gN n m) z
end
/-- the end of a law -/
theorem walkG {lw : PySem.W.OpenLaw} {k : Nat} {qq : Program} {loose : List Str} {XP : (Str → Option Value) → Heap → Prop} {YP : World → Heap → Prop} {dd : DefRec} {x : Str} (h63 : lw.most = some 63) (hdf : dd.params.defaults = []) (hrm : Room k callerA)
    (F : ∀ (w : World) (mg : Str → Option Value) (fa : Addr) (hh : Heap), YP w hh → hh.Ns mainGlobals mg → mg dd.name = some (.ref fa) → ∃ (K : PySem.W.Frag) (fd : FuncData) (cs : List (Addr × Addr)) (T : Tb), K.In hh ∧ (∀ p ∈ cs, hh.get? p.2 = some emT) ∧ (∀ p ∈ cs, K.lookup p.2 = none) ∧ (∀ p ∈ cs, PySem.W.CodeHd hh p.1 p.2) ∧
        (∀ q ∈ T.tb, ∃ p ∈ cs, p.2 = q.1) ∧ (∀ (s : Shared) (u : Value), BindsTo s fd ⟨[u], []⟩ [(x, u)]) ∧
        ∀ bb : Heap, K.In bb → bb.Ns mainGlobals mg → (∀ p ∈ cs, LamX.TabB bb mg p.1 p.2) → FnG True lw.prog w K mg bb (L2.CX lw.prog w) k fa fd [x] (spLaw K T)) : PySem.W.WalkO qq loose XP YP lw.row.toRowW dd [] (fun f vs => PySem.call f vs) := by
  refine Att.attach_callB h63 hdf fun w s0 s1 mg mb fa o pm cd doc a vs ns G Y ho hd hcd hmg hobj hints hlen hbits hg => ?_
  obtain ⟨K, fd, cs, T, KX, h1, h2, h3, h4, hb, hF⟩ := F w mg fa _ Y G.T.g hmg
  refine law_run KX G.T.g G.T.b G.T.builtins G.T.nolimit hg h1 h2 h3 G.T.bmain hobj hints (Nat.le_trans hlen (by decide)) ⟨hrm, fun _ => rfl⟩ hF hb (fun H hH hS => ⟨a, ns, rfl, hS, hlen, fun q hq => ?_, fun _ => rfl⟩) fun H e s' => cx_no H s1 e s'
  obtain ⟨p, hp, e⟩ := h4 q hq
  exact LamX.TabS.nil (e ▸ hH p hp)
/-! ### more kinds of facts -/
section
variable {oks : List Fct} {fn : List He5.DefA} {K : PySem.W.Frag} {h : Heap} {mg : Str → Option Value} {x y z : Str}
def fInt (x : Str) (i : Int) : Fct := fun K => (He.Fa.int x i).ok K
def fStr (x z : Str) : Fct := fun K => (He.Fa.str x z).ok K
theorem Tx.gint {i : Int} (t : Tx oks fn K mg) (j : Nat) (h : oks[j]? = some (fInt x i) := by rfl) : ∃ u, mg x = some (.int i u) := let ⟨_, X, G⟩ := t.g; He.int_ok X G (t.c.fact j h)
theorem Tx.gstr (t : Tx oks fn K mg) (j : Nat) (h : oks[j]? = some (fStr x z) := by rfl) : ∃ u, mg x = some (.str z u) := let ⟨_, X, G⟩ := t.g; He.str_ok X G (t.c.fact j h)
/-- an exception class of the text, with its own __init__ or without -/
def oexB (K : PySem.W.Frag) (C : Addr) : Bool := (match K.lookup C with
  | some ⟨.type "type", _, .cls cd, sl⟩ => (match cd.mro, sl.toList with
    | .ref C' :: bm, [_, _, _, _, some (.builtin n), _] => (C' == C) && (!(baOf n).isEmpty && (PySem.W.excTail (baOf n) bm && (cd.hasDict && !cd.hasDel)))
    | _, _ => false)
  | _ => false)
def fOex (x : Str) : Fct := fun K => oexB K (He.ga K x) && (He.eqO (PySem.W.findIn K (.ref (He.ga K x)) "__setattr__") (some (some (.builtin "object.__setattr__"))) && (decide (PySem.W.subIn K (.ref (He.ga K x)) (.type "BaseException") = some true) &&
  (decide (PySem.W.typeIn K (.ref (He.ga K x)) = some (.type "type")) && PySem.W.keepIn K (.ref (He.ga K x)))))
theorem oexB_ok {C : Addr} (q : oexB K C = true) : ∃ (B newId initId : String) (bmB : List Value) (nm q : Str) (N : Addr) (bs bm : List Value) (sn : List Str) (sub : List Value) (ab : Bool) (col : Option Bool) (dd : Option Addr) (k0 k1 k2 k3 k5 : Option Value), BaB B newId initId bmB ∧
    K.lookup C = some (excClassObj nm q C N bs bm true sn sub ab col dd k0 k1 k2 k3 k5 newId) ∧ PySem.W.excTail bmB bm = true := by
  unfold oexB at q
  split at q
  · rename_i dd cd sl ho
    split at q
    · rename_i C' bm k0 k1 k2 k3 n k5 hm hs
      simp only [Bool.and_eq_true, beq_iff_eq, Bool.not_eq_true'] at q
      obtain ⟨rfl, hn, hv, hdi, hdel⟩ := q
      obtain ⟨nm, bs, mro, nsp, qn, hdd, sn, sub, ab, col, del⟩ := cd
      dsimp only at hm hdel hdi
      subst hm hdel hdi
      obtain ⟨l⟩ := sl
      simp only at hs
      subst hs
      obtain ⟨B, ba⟩ := baOf_ok hn
      exact ⟨B, n, _, _, nm, qn, nsp, bs, bm, sn, sub, ab, col, dd, k0, k1, k2, k3, k5, ba, ho, hv⟩
    · cases q
  · cases q
theorem Tx.oex (t : Tx oks fn K mg) (j : Nat) (h : oks[j]? = some (fOex x) := by rfl) : OxG K (He.ga K x) := by
  have q := t.c.fact j h
  obtain ⟨q1, q⟩ := He.ba q
  obtain ⟨q2, q⟩ := He.ba q
  obtain ⟨q3, q⟩ := He.ba q
  obtain ⟨q4, q5⟩ := He.ba q
  exact ⟨oexB_ok q1, He.eqO_ok q2, of_decide_eq_true q3, of_decide_eq_true q4, q5⟩
def fXf (x : Str) : Fct := fun K => xfB K (He.ga K x)
theorem Tx.xf (t : Tx oks fn K mg) (j : Nat) (h : oks[j]? = some (fXf x) := by rfl) : XfC K (He.ga K x) := xfB_ok (t.c.fact j h)
/-- which of the classes cs an except clause that names x takes -/
def fExm (x : Str) (cs : List Str) (bs : List (Option Bool)) : Fct := fun K => (List.zip cs bs).all fun q => match q.2 with
  | some b => decide (PySem.W.exmOne K (.ref (He.ga K q.1)) (.ref (He.ga K x)) = some b)
  | none => true
theorem Tx.exm {cs : List (Str × List Str)} {tf : List Tab_} {bs : List (Option Bool)} (t : Tx oks fn K mg) (j : Nat) (hl : bs.length = cs.length) (h : oks[j]? = some (fExm x (cs.map (·.1)) bs) := by rfl) : ∀ e b, (bs[e]?).join = some b → PySem.W.exmOne K (.ref ((tbOf cs tf K).cls e)) (.ref (He.ga K x)) = some b := fun e b hb => by
  have q := t.c.fact j h
  cases hq : bs[e]? with
  | none => rw [hq] at hb; cases hb
  | some o =>
    rw [hq] at hb
    cases o with
    | none => cases hb
    | some b1 =>
      cases hb
      by_cases hk : e < cs.length
      · have he : (cs.getD e ("", [])) = cs[e] := by rw [List.getD_eq_getElem?_getD, List.getElem?_eq_getElem hk]; rfl
        have hz : (List.zip (cs.map (·.1)) bs)[e]? = some (cs[e].1, some b) := by
          rw [List.getElem?_zip_eq_some]
          exact ⟨by rw [List.getElem?_map, List.getElem?_eq_getElem hk]; rfl, hq⟩
        have := List.all_eq_true.mp q _ (List.mem_of_getElem? hz)
        show PySem.W.exmOne K (.ref (He.ga K (cs.getD e ("", [])).1)) _ = _
        rw [he]
        exact of_decide_eq_true this
      · have := (List.getElem?_eq_some_iff.mp hq).1
        omega
end
end DF

set_option Elab.async false
set_option linter.all false
set_option maxRecDepth 100000
set_option maxHeartbeats 4000000
namespace DF
open PySem PySem.Spec PyProof.Rows L2
/-! ### the Hook, the tables of the defs tf left out -/
/-- the addresses that are read: those behind the globals, and sys.modules -/
def asS (g : Addr → Option Obj) (n : Nat) : List Addr := sysModules :: He5.asA g n
abbrev AlY : Type := He.AlD × Bool
def obsYG (n : Nat) (oks : List Fct) (fn : List He5.DefA) (tf : List He.Defn) (g : Addr → Option Obj) : AlY := (obsZ oks fn (He.frT g (asS g n)), He.tabsB g tf (He.frT g (asS g n)))
structure SaysY (oks : List Fct) (fn : List He5.DefA) (tf : List He.Defn) (h : Heap) (K : PySem.W.Frag) : Prop where
  z : SaysZ oks fn K
  hd : ∀ q ∈ tf, PySem.W.codeHdIn K (He.cT K q).1 (He.cT K q).2 = true
  out : ∀ q ∈ tf, K.lookup (He.cT K q).2 = none
  em : ∀ q ∈ tf, h.get? (He.cT K q).2 = some emT
theorem saysY_of {n : Nat} {oks : List Fct} {fn : List He5.DefA} {tf : List He.Defn} {h : Heap} (e : obsYG n oks fn tf h.get? = (He5.valA fn, true)) : SaysY oks fn tf h (He.frT h.get? (asS h.get? n)) := by
  have t : He.tabsB h.get? tf (He.frT h.get? (asS h.get? n)) = true := congrArg (fun z : AlY => z.2) e
  have each : ∀ q ∈ tf, PySem.W.codeHdIn (He.frT h.get? (asS h.get? n)) (He.cT (He.frT h.get? (asS h.get? n)) q).1 (He.cT (He.frT h.get? (asS h.get? n)) q).2 = true ∧ ∃ o, h.get? (He.cT (He.frT h.get? (asS h.get? n)) q).2 = some o ∧ He.emptyTab o = true := fun q hq => by
    obtain ⟨t1, t2⟩ := He.ba (List.all_eq_true.mp t q hq)
    refine ⟨t1, ?_⟩
    cases z : h.get? (He.cT (He.frT h.get? (asS h.get? n)) q).2 with
    | none => rw [z] at t2; cases t2
    | some o => rw [z] at t2; exact ⟨o, rfl, t2⟩
  refine ⟨congrArg (fun z : AlY => z.1) e, fun q hq => (each q hq).1, fun q hq => ?_, fun q hq => ?_⟩
  · obtain ⟨_, o, z1, z2⟩ := each q hq
    exact He.frT_none z1 z2
  · obtain ⟨_, o, z1, z2⟩ := each q hq
    rw [z1, He.emptyTab_eq z2]
def hookY (n : Nat) (oks : List Fct) (fn : List He5.DefA) (tf : List He.Defn) : PySem.W.Hook where
  α := AlY
  obs := fun s => obsYG n oks fn tf s.heap.get?
  val := fun _ => (He5.valA fn, true)
  says := fun _ h => ∃ K : PySem.W.Frag, K.In h ∧ SaysY oks fn tf h K
  of := fun _ _ e => ⟨_, He.frT_in, saysY_of e⟩
  keeps := fun _ _ _ ⟨K, hK, c⟩ k => ⟨K, PySem.W.Frag.In.keeps hK k, ⟨c.z, c.hd, c.out, fun q hq => k _ _ (c.em q hq)⟩⟩
theorem obsYG_eq {n : Nat} {oks : List Fct} {fn : List He5.DefA} {tf : List He.Defn} {g : Addr → Option Obj} {s : Shared} (h : ∀ a, g a = s.heap.get? a) : obsYG n oks fn tf g = (hookY n oks fn tf).obs s := by
  have e : g = s.heap.get? := funext h
  rw [e] <;> rfl
/-- a table by its def -/
def tabQ (p : He.Defn) (q : Str) : Tab_ := fun K => ((He.cT K p).2, q)
theorem code_at {K : PySem.W.Frag} {x qual : Str} {pa : Arguments} {bd : List Stmt} {sc : Scope} {dvs : List V} {kws : List (Str × V)} {p : He.Defn} {fd : FuncData} (F : FunD K x qual pa bd sc dvs kws (He.fAd K p) fd) {cdv : Value} (h : fd.code = cdv) : cdv = .ref (He.cT K p).1 := by
  obtain ⟨oc, od, dV, kV, doc, pm, an, cd1, ct, osl, rfl, lk, hcd, _, _⟩ := F.ex
  obtain ⟨c1, e1⟩ := He.codeIn_ref hcd
  have h1 : cd1 = cdv := h
  have e2 := He.codeOf_eq (p := p) lk (c := c1) e1
  show cdv = .ref (He.codeOf K p)
  rw [e2, ← h1, e1]
def fSys : Fct := fun K => (match K.lookup sysModules with
  | some o => !(o.cls == .type "list")
  | none => false)
theorem Tx.sys {oks : List Fct} {fn : List He5.DefA} {K : PySem.W.Frag} {mg : Str → Option Value} (t : Tx oks fn K mg) (j : Nat) (h : oks[j]? = some fSys := by rfl) : SysK K := by
  have q := t.c.fact j h
  unfold fSys at q
  split at q
  · rename_i o ho
    exact ⟨o, ho, fun z => by rw [z] at q; simp at q⟩
  · cases q
end DF

set_option Elab.async false
set_option linter.all false
set_option maxRecDepth 100000
set_option maxHeartbeats 4000000
namespace DF
open PySem PySem.Spec PyProof.Rows L2
abbrev frzS (i : Nat) (g : Slots → M Out) : Slots → M Out := fun ρ => g (frz1 i ρ)
theorem Rm.deeper {gu : Prop} {k : Nat} {A : Around} (r : Rm gu (k + 1) A) (env : Env) : Rm gu k (A.deeper env) := ⟨r.room.deeper env, r.gd⟩
theorem CmpI.less {X : Cx} {T : Tb} {n m : Nat} {C : Addr} (h : CmpI X T m C) (hl : n ≤ m) : CmpI X T n C := ⟨h.1, fun k hk => h.2 k (Nat.lt_of_lt_of_le hk hl)⟩
end DF

set_option Elab.async false
set_option linter.all false
set_option maxRecDepth 100000
set_option maxHeartbeats 4000000
/-! DFS: the further parts worked out by simp. -/
namespace DF
open PySem L2
section
variable {α β : Type} {ρ : Slots} {pt : Pot}
@[simp] theorem e_intOf (i : Int) : intOf (.int i) = some i := rfl
@[simp] theorem e_chI (f1 f2 : Int → Int → Bool) (fa fb fc : Slots → M D) : chI f1 f2 fa fb fc ρ pt = bndR (fa ρ pt) fun x => bnd (fb ρ) fun y => bnd (opt (intOf x)) fun i => bnd (opt (intOf y)) fun j =>
  if f1 i j then bnd (fc ρ) fun z => bnd (opt (intOf z)) fun k => ret (.bl (f2 j k)) else ret (.bl false) := e_bnd _ _
@[simp] theorem e_raiS (ec n : Nat) (fa : Slots → M (List D)) : raiS ec n fa ρ pt = bndR (fa ρ pt) fun ds => if ds.length = n then fun pt => .exc ec ds pt else fail := e_bnd _ _
@[simp] theorem e_setS (i : Nat) (fi f : Slots → M D) : setS i fi f ρ pt = bndR (f ρ pt) fun d => bnd (opt (ownOf ρ[i]?)) fun ds => bnd (fi ρ) fun k => bnd (opt (intOf k)) fun k => bnd (opt (setL ds k d)) fun ds' => ret (.nx (ρ.set i (some (.own ds')))) := e_bnd _ _
@[simp] theorem e_frzS (i : Nat) (g : Slots → M Out) : frzS i g ρ pt = g (frz1 i ρ) pt := rfl
def tryK (n : Nat) (hs : List Ha) : Res Out → Res Out
  | .exc e fs p => catchS n hs e fs p
  | r => r
@[simp] theorem e_tryS (n : Nat) (g : Slots → M Out) (hs : List Ha) : tryS n g hs ρ pt = tryK n hs (g ρ pt) := by
  unfold tryS tryK
  cases g ρ pt <;> rfl
@[simp] theorem e_tryok (n : Nat) (hs : List Ha) (o : Out) : tryK n hs (.ok o pt) = .ok o pt := rfl
@[simp] theorem e_tryex (n : Nat) (hs : List Ha) (e : Nat) (fs : List D) : tryK n hs (.exc e fs pt) = catchS n hs e fs pt := rfl
@[simp] theorem e_xfE (i ec j : Nat) : xfE i ec j ρ pt = opt (exAt ec j ρ[i]?) pt := rfl
@[simp] theorem e_exAt (ec j : Nat) (fs : List D) : exAt ec j (some (some (.exv ec fs))) = fs[j]? := by simp [exAt]
@[simp] theorem e_endr (i : Nat) (d : D) : endH i (.ok (.rt d) pt) = .ok (.rt d) pt := rfl
def okR : Res D → Res D
  | .ok d p => .ok d p
  | _ => .stuck
@[simp] theorem e_okR (d : D) : okR (.ok d pt) = .ok d pt := rfl
@[simp] theorem e_lamc (hm : M D → M D) (fb : Slots → M D) : lamcE hm fb ρ pt = if noOwnA ρ then okR (hm (fb ρ) pt) else .stuck := by
  unfold lamcE
  cases h : noOwnA ρ with
  | true =>
    show (match hm (fb ρ) pt with
      | .ok d p => Res.ok d p
      | _ => .stuck) = okR (hm (fb ρ) pt)
    cases hm (fb ρ) pt <;> rfl
  | false => rfl
theorem e_lamM (n : Nat) (g : M D → Slots → M Out) (m : M D) : lamM n g m pt = bndR (g m (some .lam :: List.replicate n none) pt) finK := by
  unfold lamM bnd bndR
  cases g m (some .lam :: List.replicate n none) pt with
  | ok o q => cases o <;> rfl
  | _ => rfl
@[simp] theorem e_act (m : M D) : actE m ρ pt = if isLam ρ[0]? && noOwnA ρ then m pt else .stuck := by
  unfold actE
  split <;> rfl
@[simp] theorem e_isLam : isLam (some (some .lam)) = true := rfl
@[simp] theorem e_makeK (kc n n0 m : Nat) (fm : List D → M (List D)) (sel : List (Bool × Nat)) (dd : List D) (fa fk : Slots → M (List D)) : makeKE kc n n0 m fm sel dd fa fk ρ pt = bndR (fa ρ pt) fun ds => bnd (fk ρ) fun es =>
  if ds.length = n0 ∧ es.length = m ∧ (ds ++ pick sel dd es).length + 1 = n then bnd (fm (ds ++ pick sel dd es)) fun fs => ret (.obj kc fs) else fail := e_bnd _ _
@[simp] theorem e_binL (g : D → D → M (List D)) (fa fb : Slots → M D) : binL g fa fb ρ pt = bndR (fa ρ pt) fun x => bnd (fb ρ) fun y => g x y := e_bnd _ _
@[simp] theorem e_kD (nC : Nat) (i : List (Key × D)) : knd nC (.dct i) = some (.inl "dict") := rfl
@[simp] theorem e_ixS (x : Str) (i : Int) : ixM (.str x) (.int i) pt = opt (if x.length ≤ 1000000 then (atI x.cps.toList i).map fun n => .str ⟨#[n]⟩ else none) pt := rfl
@[simp] theorem e_itS (x : Str) : itemsOf (.str x) = some (chars x) := rfl
@[simp] theorem e_nonI (i : Int) : isN (.int i) .non = some (.bl false) := rfl
theorem e_lCat (a b : List D) (h : a.length + b.length ≤ 100000) : lCat (.lst a) (.lst b) pt = .ok (a ++ b) pt := by
  show (if a.length + b.length ≤ 100000 then ret (a ++ b) else fail) pt = _
  rw [if_pos h]
  rfl
/-- a comprehension without effects -/
theorem comp_pure {i : Nat} {t : Slots → M Bool} {f : Slots → M D} {p : D → Bool} {F : D → D} (hi : i < ρ.length) : ∀ (items acc : List D), (∀ d ∈ items, t (ρ.set i (some (.val d))) pt = .ok (p d) pt ∧ f (ρ.set i (some (.val d))) pt = .ok (F d) pt) → acc.length + items.length ≤ 100000 →
    compL (tgN i) t f ρ items acc pt = .ok (acc ++ (items.filter p).map F) pt
  | [], acc, _, _ => by simp
  | d :: items, acc, h, hl => by
    obtain ⟨h1, h2⟩ := h d List.mem_cons_self
    have ih := comp_pure (t := t) (f := f) (p := p) (F := F) hi items
    simp only [List.length_cons] at hl
    rw [e_compL]
    simp only [e_tgN, hi, if_true, e_some, e_bndok, e_bnd, e_noX, h1, e_noXok]
    cases hp : p d with
    | true =>
      rw [if_pos rfl]
      simp only [e_bnd, e_noX, h2, e_noXok, e_bndok]
      rw [if_pos (by omega), ih (acc ++ [F d]) (fun e he => h e (List.mem_cons_of_mem _ he)) (by simp; omega)]
      simp [hp]
    | false =>
      rw [if_neg (by simp), ih acc (fun e he => h e (List.mem_cons_of_mem _ he)) (by omega)]
      simp [hp]
end
end DF

set_option Elab.async false
set_option linter.all false
set_option maxRecDepth 100000
set_option maxHeartbeats 4000000
namespace DF
open PySem PySem.Spec PyProof.Rows L2
/-! ### exceptions as values: isinstance -/
section
open PySem.W PySem.Calls
variable {prog : Program} {w : World} {A : Around} {E : Value → Shared → Prop} {s : Shared} {K : Frag} {x D : Addr} {ox : Obj} {od : Option Obj}
theorem ex_class {Q : Option Value → Shared → Prop} (T : ExcC K D) (X : K.In s.heap) (I : InstAt s.heap x ox D od) (h : Q (some (.ref D)) { s with toks := s.toks + 1 }) : wpAny (model prog w) A (getAttr? (.ref x) "__class__") Q E s := by
  have isD : (clsIn K D).isSome = true := by obtain ⟨cd, hc, _⟩ := any_some T.hd; rw [hc]; rfl
  have fo : findObj K D od "__class__" = some (.bind (.builtin "getset_descriptor.__get__") (.builtin "object.__class__")) := by
    cases od with
    | none => exact findObj_dataN isD T.ha T.hn T.ht
    | some o => exact findObj_data isD T.ha T.hn T.ht
  obtain ⟨hp, g, d, t, os⟩ := s
  have K0 := I.type (M := model prog w)
  have K1 := looks_findIn (M := model prog w) X T.hg
  have K2 := looks_findIn (M := model prog w) X T.hk
  have K3 := looks_find (M := model prog w) X I fo
  have isE : Looks (model prog w) hp (isInstance (.ref x) (.type "BaseException")) true := K0.andThen (looks_subIn X T.hs)
  have b2 : (Value.builtin "BaseException.__getattribute__" == Value.builtin "object.__getattribute__") = false := by decide +kernel
  have b1 : (onTheHeap (Value.ref D) && Value.builtin "BaseException.__getattribute__" == Value.builtin "object.__getattribute__") = false := by rw [b2]; rfl
  have b0 : (false && onTheHeap (Value.builtin "BaseException.__getattribute__")) = false := rfl
  unfold getAttr? getAttrBy? getAttrBy
  refine wpAny_bind (wpAny_mkText (wpAny_bind (wpAny_attempt (wpAny_holding (wpAny_bind (K0.at (wpAny_bind (K1.at ?_))))))))
  show wpAny _ _ (if (onTheHeap (Value.ref D) && Value.builtin "BaseException.__getattribute__" == Value.builtin "object.__getattribute__") = true then _ else _) _ _ _
  rw [b1, if_neg Bool.false_ne_true]
  unfold getAttrByItsOwn hookBefore
  refine wpAny_bind ?_
  rw [if_pos (show onTheHeap (Value.ref D) = true from rfl)]
  refine K2.at (wpAny_bind (wpAny_attempt (wpAny_holding ?_)))
  unfold callGetattribute
  rw [b0, if_neg Bool.false_ne_true]
  unfold boundAndCalled
  rw [PySem.F.excAttr_ValueError.ga.bind (.ref x)]
  refine wpAny_bind (wpAny_pure ?_)
  show wpAny _ _ (call (.builtin "BaseException.__getattribute__") [.ref x, .str "__class__" t]) _ _ _
  refine wpAny_call (codeAny_call_builtin PySem.F.excAttr_ValueError.ga.plain PySem.F.entry_bexc_ga (@check_slot (model prog w) _ _ ⟨hp, g, d, t + 1, os⟩ "BaseException.__getattribute__" "BaseException" "__getattribute__" (.ref x) [.str "__class__" t] [] _ (by decide +kernel) (by decide +kernel) isE (PySem.F.args_bexc_ga (.ref x) (.str "__class__" t)) ?_))
  unfold Builtin.«object.__getattribute__»
  refine wpAny_bind (wpAny_of_eq (a := ((Value.ref x : Value), [Value.str "__class__" t])) (by first | rfl | (simp only [slotArgs]; rfl)) ?_)
  refine wpAny_bind (wpAny_pure (wpAny_bind (K0.at (wpAny_bind (K3.at ?_)))))
  show wpAny _ _ (holding [Value.builtin "object.__class__"] (call (.builtin "getset_descriptor.__get__") [.builtin "object.__class__", .ref x, .ref D]) >>= PySem.ret) _ _ _
  refine wpAny_bind (wpAny_holding (wpAny_call (class_get (s := ⟨hp, g, d, t + 1, os⟩) (ox := ox) (od := od) X I T.hm ?_)))
  refine wpAny_pure ?_
  show wpAny _ _ (handedOut (.ref D)) _ _ _
  rw [handedOut_of (v := .ref D) rfl]
  first
    | exact wpAny_pure (wpAny_pure h)
    | exact wpAny_pure h
    | exact wpAny_pure (wpAny_bind (wpAny_pure (wpAny_pure h)))
theorem ex_kit (T : ExcC K D) : KitX K (.ref x) (.ref D) (fun h => ∃ ox od, InstAt h x ox D od) where
  ty := fun _ _ _ ⟨_, _, I⟩ => I.type
  it := fun _ _ X _ => by
    obtain ⟨cd, hc, _⟩ := any_some T.hd
    unfold clsIn at hc
    split at hc
    · rename_i o1 o2 o3 o4 ho
      intro A1 Q1 E1 s1 k q
      unfold isType loadHead
      exact wpAny_bind (wpAny_loadPart (k _ _ (X _ _ ho)) (wpAny_pure q))
    · cases hc
  ne := fun h tp dd its n sl X at1 => by
    obtain ⟨cd, hc, _⟩ := any_some T.hd
    refine Bool.eq_false_iff.mpr fun q => ?_
    have e : D = tp := Value.ref.inj (beq_iff_eq.mp q)
    subst e
    unfold clsIn at hc
    split at hc
    · rename_i o1 o2 o3 o4 ho
      cases (X _ _ ho).symm.trans at1
    · cases hc
  ca := fun X ⟨_, _, I⟩ k => ex_class T X I k
end
def exAt0 (H : Hp) (a D : Addr) : Prop := ∃ dd, H a = some (exo a D dd) ∧ (dd = none ∨ ∃ d fl, dd = some d ∧ H d = some (exd d fl))
theorem ex_inst {P : Program} {w : World} {H : Hp} {h : Heap} {a D : Addr} (hok : HOk P w H h) (e : exAt0 H a D) : ∃ ox od, PySem.W.InstAt h a ox D od := by
  obtain ⟨dd, e1, e2⟩ := e
  obtain ⟨t1, ho⟩ := exo_at hok e1
  rcases e2 with rfl | ⟨d, fl, rfl, e2⟩
  · exact ⟨_, none, ho, rfl, rfl, trivial⟩
  · obtain ⟨mA, hns, _⟩ := exd_at hok e2
    obtain ⟨o, _, _, q, _⟩ := hns
    exact ⟨_, some o, ho, rfl, rfl, q⟩
def rIsx (K : PySem.W.Frag) : List V → Hp → VK → Prop := fun xs H Q => ∃ (a D : Addr) (c : V) (cv : Value) (b : Bool), xs = [.ref a, c] ∧ exAt0 H a D ∧ ExcC K D ∧ ClsV c cv ∧ PySem.W.kitOne K (.ref D) cv = some b ∧ Q (.bl b) H
theorem call_isx {X : Cx} : CallR X (.builtin "isinstance") (rIsx X.K) := by
  intro pins s σ H xs us Q I r h
  obtain ⟨a, D, c, cv, b, rfl, ea, T, hc, e, q⟩ := h
  obtain ⟨u1, u2, rfl, r1, r2⟩ := vals2 r
  cases hc.eq r2
  cases (show u1 = Value.ref a from r1)
  exact PySem.W.kia_one (ex_kit T) I.kIn (ex_inst I.hok ea) e (fun z => nomatch z) fun tk => ⟨.bl b, H, I.tok tk, rfl, q⟩
/-- the exception that was caught -/
def rIsv (K : PySem.W.Frag) (a : Addr) (cls : Value) (dd : Option Addr) : List V → Hp → VK → Prop := fun xs H Q => ∃ (D : Addr) (c : V) (cv : Value) (b : Bool), xs = [.ref a, c] ∧ cls = .ref D ∧ (dd = none ∨ ∃ d fl, dd = some d ∧ H d = some (.xd fl)) ∧ ExcC K D ∧ ClsV c cv ∧ PySem.W.kitOne K (.ref D) cv = some b ∧ Q (.bl b) H
theorem call_isv {X : Cx} {a : Addr} {oe : Obj} {cls : Value} {dd : Option Addr} {pn : List (Addr × Obj)} (hz : Zc cls dd oe) (hf : ∃ vs, oe.data = .fields vs) : CallR (X.suite a ((a, oe) :: pn)) (.builtin "isinstance") (rIsv X.K a cls dd) := by
  intro pins s σ H xs us Q I r h
  obtain ⟨D, c, cv, b, rfl, rfl, ed, T, hc, e, q⟩ := h
  obtain ⟨u1, u2, rfl, r1, r2⟩ := vals2 r
  cases hc.eq r2
  cases (show u1 = Value.ref a from r1)
  obtain ⟨ha, _⟩ := I.pin (a, oe) (List.mem_append_left _ List.mem_cons_self)
  obtain ⟨vs, hd⟩ := hf
  have J : ∃ ox od, PySem.W.InstAt s.heap a ox D od := by
    rcases ed with rfl | ⟨d, fl, rfl, ed⟩
    · exact ⟨oe, none, ha, hz.1, by unfold PySem.W.notCls; rw [hd] <;> rfl, by rw [hz.2]; trivial⟩
    · have hx : ObjOk X.prog X.w H s.heap d (.xd fl) := I.hok d _ ed
      obtain ⟨mA, hns, hr⟩ := hx
      obtain ⟨o, _, _, q2, _⟩ := hns
      exact ⟨oe, some o, ha, hz.1, by unfold PySem.W.notCls; rw [hd] <;> rfl, by rw [hz.2]; exact q2⟩
  exact PySem.W.kia_one (ex_kit T) I.kIn J e (fun z => nomatch z) fun tk => ⟨.bl b, H, I.tok tk, rfl, q⟩
section
variable {X : Cx} {c : Cy} {W : WX} {e o : Expr} {p pos : Pos} {fo : Slots → M D}
theorem ex_at {O : List (Nat × Addr)} {H : Hp} {k : Nat} {fs : List D} {v : V} (h : c.R (Hd (hid c O) H) (.ex k fs) v) : ∃ a, v = .ref a ∧ exAt0 H a (c.T.cls k) := by
  simp only [Cy.R, R] at h
  obtain ⟨a, dd, vs, rfl, e, _, _, q⟩ := h
  exact ⟨a, rfl, dd, Hd.le _ _ e, q.imp (·.1) fun ⟨d, fl, e1, e2, _⟩ => ⟨d, fl, e1, Hd.le _ _ e2⟩⟩
def exAns (ans : Nat → Option Bool) : D → Option D
  | .ex k _ => (ans k).map .bl
  | _ => none
def isxE (ans : Nat → Option Bool) (fo : Slots → M D) : Slots → M D := fun ρ => bnd (fo ρ) fun x => opt (exAns ans x)
theorem de_isx {y : Str} {ce : Expr} {cv : V} {u : Value} {ans : Nat → Option Bool} (ho : PE X e (dE c W fo)) (hce : PE X ce (tC cv)) (hu : ClsV cv u) (ha : ∀ k b, ans k = some b → ExcC X.K (c.T.cls k) ∧ PySem.W.kitOne X.K (.ref (c.T.cls k)) u = some b)
    (hm : X.mg y = none) (hv : bootBuiltins y = some (.builtin "isinstance")) (hg : Gl X y := by rfl) (hn : y ≠ "__name__" := by decide) (hdb : (y == ("__debug__" : Str)) = false := by decide)
    (he : starEach [e, ce] X.env = (false, eval e X.env) :: starEach [ce] X.env := by rfl) (he2 : starEach [ce] X.env = (false, eval ce X.env) :: starEach [] X.env := by rfl) (hpl : (backTo pos (starEach [ce] X.env)).any (·.1) = false := by rfl) :
    PE X (.Call (.Name y p) [e, ce] [] pos) (dE c W (isxE ans fo)) := by
  refine pe_imp (pe_callB call_isx hg hm hv (pa_cons ho (pa_cons hce pa_nil he2) he) hn hdb he hpl) fun σ H Q ⟨O, ρ, pt, r, q⟩ => ⟨O, ρ, pt, r, (Wg.bnd q).imp fun z p1 H1 _ s1 q v rv => ?_⟩
  obtain ⟨d, ed, q⟩ := Wg.opt q s1.pot
  unfold exAns at ed
  split at ed
  · rename_i k fs _
    cases eb : ans k with
    | none => rw [eb] at ed; cases ed
    | some b =>
      rw [eb] at ed
      cases ed
      obtain ⟨a, rfl, ea⟩ := ex_at rv
      exact ⟨a, _, cv, u, b, rfl, ea, (ha k b eb).1, hu, (ha k b eb).2, q _ (by simp [Cy.R, R])⟩
  · cases ed
def exvAns (ans : Nat → Option Bool) : Option (Option SV) → Option D
  | some (some (.exv k _)) => (ans k).map .bl
  | _ => none
def isvE (i : Nat) (ans : Nat → Option Bool) : Slots → M D := fun ρ => opt (exvAns ans ρ[i]?)
theorem de_isv {i : Nat} {n y : Str} {a : Addr} {oe : Obj} {cls : Value} {d : Option Addr} {pn : List (Addr × Obj)} {ce : Expr} {cv : V} {u : Value} {ans : Nat → Option Bool} {p2 : Pos} (hce : PE (X.suite a ((a, oe) :: pn)) ce (tC cv)) (hu : ClsV cv u)
    (ha : ∀ k b, ans k = some b → ExcC X.K (c.T.cls k) ∧ PySem.W.kitOne X.K (.ref (c.T.cls k)) u = some b) (hz : Zc cls d oe) (hf : ∃ vs, oe.data = .fields vs) (hm : X.mg y = none) (hv : bootBuiltins y = some (.builtin "isinstance"))
    (hN : X.N[i]? = some n := by rfl) (hvi : Vis X.env.scope n := by first | exact Or.inl rfl | exact Or.inr (Or.inl rfl) | exact Or.inr (Or.inr rfl)) (hd : (n == ("__debug__" : Str)) = false := by decide) (hcd : (n == ("__classdict__" : Str)) = false := by decide)
    (hg : Gl X y := by rfl) (hn : y ≠ "__name__" := by decide) (hdb : (y == ("__debug__" : Str)) = false := by decide)
    (he : starEach [.Name n p2, ce] X.env = (false, eval (.Name n p2) X.env) :: starEach [ce] X.env := by rfl) (he2 : starEach [ce] X.env = (false, eval ce X.env) :: starEach [] X.env := by rfl) (hpl : (backTo pos (starEach [ce] X.env)).any (·.1) = false := by rfl) :
    PE (X.suite a ((a, oe) :: pn)) (.Call (.Name y p) [.Name n p2, ce] [] pos) (dE { c with x := { c.x with a := a, cls := cls, d := d } } W (isvE i ans)) := by
  refine pe_imp (pe_callB (X := X.suite a ((a, oe) :: pn)) (call_isv hz hf) hg hm hv (pa_cons (pe_var (X := X.suite a ((a, oe) :: pn)) (i := i) hN hvi hd hcd) (pa_cons hce pa_nil he2) he) hn hdb he hpl) fun σ H Q ⟨O, ρ, pt, r, h⟩ => ?_
  obtain ⟨z, ez, q⟩ := Wg.opt h r.pot
  unfold exvAns at ez
  split at ez
  · rename_i k fs es
    cases eb : ans k with
    | none => rw [eb] at ez; cases ez
    | some b =>
      rw [eb] at ez
      cases ez
      obtain ⟨e1, e2, e3⟩ := r.sl i _ es
      refine ⟨.ref a, e1, ?_⟩
      refine ⟨_, cv, u, b, rfl, e2, ?_, (ha k b eb).1, hu, (ha k b eb).2, q _ (by simp [Cy.R, R])⟩
      exact e3.imp (·.2) fun ⟨d0, fl, vs, q1, q2, _⟩ => ⟨d0, fl, q1, Hd.le _ _ q2⟩
  · cases ez
/-! ### their fields -/
def tXv (K : PySem.W.Frag) (f : Str) (te : TE) : TE := fun σ H Q => te σ H fun x H1 => ∃ (a D d : Addr) (fl : List (Str × V)) (v : V), x = .ref a ∧ H1 a = some (exo a D (some d)) ∧ H1 d = some (exd d fl) ∧ ExcC K D ∧ NoAttr K D f ∧ fl.lookup f = some v ∧ Q v H1
theorem pe_xv {n : Str} {te : TE} (he : PE X e te) (hb : attributeBase e n X.env (eval e X.env) = eval e X.env := by rfl) : PE X (.Attribute e n pos) (tXv X.K n te) := by
  refine ⟨fun pins s σ H Q I h => attr_of hb (thn (he.run pins s σ H _ I h) fun u s1 ⟨x, H1, I1, rx, a, D, d, fl, v, ex, ea, ed, T, no, l, q⟩ => ?_)⟩
  subst ex
  obtain rfl : u = Value.ref a := rx
  obtain ⟨t1, ho⟩ := exo_at I1.hok ea
  obtain ⟨mA, hns, hr⟩ := exd_at I1.hok ed
  obtain ⟨od, hod, hl⟩ := lookIn_ns hns
  obtain ⟨u, hu, ru⟩ := RelO.some_of (v := v) (o := mA n) (by rw [← l]; exact hr n)
  have J : PySem.W.InstAt s1.heap a _ D (some od) := ⟨ho, rfl, rfl, hod⟩
  exact HandSPX.exc_get I1.kIn J T.hg T.hk T.hs (PySem.W.findObj_own T.hd no rfl (by rw [hl, hu])) (handed_of ru) ⟨v, H1, I1.tok _, ru, q⟩
def exFld (ix : Nat → Option Nat) : D → Option D
  | .ex k fs => (ix k).bind fun j => fs[j]?
  | _ => none
def xatE (ix : Nat → Option Nat) (fo : Slots → M D) : Slots → M D := fun ρ => bnd (fo ρ) fun x => opt (exFld ix x)
theorem de_xat {f : Str} {ix : Nat → Option Nat} (ho : PE X e (dE c W fo)) (ha : ∀ k j, ix k = some j → ExcC X.K (c.T.cls k) ∧ NoAttr X.K (c.T.cls k) f ∧ (c.T.names k)[j]? = some f) (hb : attributeBase e f X.env (eval e X.env) = eval e X.env := by rfl) :
    PE X (.Attribute e f pos) (dE c W (xatE ix fo)) := by
  refine pe_imp (pe_xv ho hb) fun σ H Q ⟨O, ρ, pt, r, q⟩ => ⟨O, ρ, pt, r, (Wg.bnd q).imp fun z p1 H1 _ s1 q v rv => ?_⟩
  obtain ⟨d, ed, hq⟩ := Wg.opt q s1.pot
  clear q
  unfold exFld at ed
  split at ed
  · rename_i k fs _
    cases ej : ix k with
    | none => rw [ej] at ed; cases ed
    | some j =>
      rw [ej] at ed
      simp only [Option.bind_some] at ed
      obtain ⟨T, no, hj⟩ := ha k j ej
      simp only [Cy.R, R] at rv
      obtain ⟨a, dd, vs, rfl, e1, _, rl, h⟩ := rv
      rcases h with ⟨_, rfl⟩ | ⟨d0, fl, rfl, e2, e3⟩
      · simp at ed
      · obtain ⟨v, ev, rv⟩ := RL.getD rl ed
        exact ⟨a, _, d0, fl, v, rfl, Hd.le _ _ e1, Hd.le _ _ e2, T, no, e3 j f v hj ev, hq v rv⟩
  · cases ed
end
end DF

set_option Elab.async false
set_option linter.all false
set_option maxRecDepth 100000
set_option maxHeartbeats 4000000
namespace DF
open PySem PySem.Spec PyProof.Rows L2
/-! ### exceptions as values: made -/
theorem kbn_of {K : PySem.W.Frag} {fd : FuncData} {ps : List Str} {n : Nat} (h : Binds K fd ps []) (hn : ps.length = n) : KBn K fd ps n [] (fun us _ => us ++ []) (fun vs _ => vs ++ []) :=
  ⟨fun s us ws X l1 _ => by
    have := h s us X (by rw [List.append_nil, l1, hn])
    simpa using this, fun r1 _ => r1.append .nil⟩
section
variable {gu : Prop} {X : Cx} {c : Cy} {W : WX} {CX : CXT} {k n : Nat} {fI C : Addr} {fd : FuncData} {ps ks : List Str} {sp : Sp} {g : List Value → List Value → List Value} {gV : List V → List V → List V}
theorem run_ox {pins : List (Addr × Obj)} {σ : L2.St} {H : Hp} {s : Shared} {Q : VK} {us ws : List Value} {vs zs : List V} (T : OxG X.K C) (me : Meth X.K C "__init__" fI) (F : FnG gu X.prog X.w X.K X.mg X.base CX k fI fd ps sp) (hr : Rm gu (k + 1) X.A) (hb : KBn X.K fd ps (n + 1) ks g gV) (hx : Passes CX X (fun _ _ _ => False))
    (I : Inv X pins σ H s) (r : Vals vs us) (rz : Vals zs ws) (l1 : vs.length = n) (l2 : zs.length = ks.length) (hn : n ≤ 1000)
    (h : ∀ a, H a = none → sp (gV (.ref a :: vs) zs) (upd H a (exo a C none)) (fun v H2 => v = .non ∧ Q (.ref a) H2) (fun _ _ _ => False)) :
    wpAny (model X.prog X.w) X.A (call (.ref C) us (ks.zip ws)) (EP X pins σ Q) X.xe s := by
  obtain ⟨B, nw, i, bmB, nm, q, N, bs, bm, sn, sub, ab, col, dd, k0, k1, k2, k3, k5, ba, hC, tl⟩ := T.cls
  obtain ⟨hp, g0, dr, tk, os⟩ := s
  have le : hp.objs.size ≤ hp.objs.size + 1 := Nat.le_succ _
  have hq := h (hp.objs.size + 1) (I.hok.fresh le)
  have up : ∀ b o, hp.get? b = some o → ((hp.push (PySem.W.kdv_tup us)).push (PySem.HandSPX.excO C hp.objs.size)).get? b = some o := fun b o z => Heap.get?_push_of_some _ (Heap.get?_push_of_some _ z)
  have at1 : ((hp.push (PySem.W.kdv_tup us)).push (PySem.HandSPX.excO C hp.objs.size)).get? (hp.objs.size + 1) = some (PySem.HandSPX.excO C hp.objs.size) := by heap_get
  have J := I.laid (t' := tk) (a := hp.objs.size + 1) (o := exo (hp.objs.size + 1) C none) up le (exo_ok at1)
  have r1 : Vals (V.ref (hp.objs.size + 1) :: vs) (Value.ref (hp.objs.size + 1) :: us) := .cons rfl r
  have lu : (Value.ref (hp.objs.size + 1) :: us).length = n + 1 := r1.length.symm.trans (congrArg (· + 1) l1)
  have hus : us.length ≤ sizeLine := by
    rw [← Paired.length r, sizeLine_eq, l1]
    omega
  have go := F.run _ X.stack _ _ ⟨Value.ref (hp.objs.size + 1) :: us, ks.zip ws⟩ _ _ _ (fun _ _ _ => False) (hr.make C us (ks.zip ws)) (J.env0.make C us (ks.zip ws)) (hb.to _ (Value.ref (hp.objs.size + 1) :: us) ws J.kIn lu (rz.length.symm.trans l2)) (hb.rel r1 rz) hq
  refine wpAny_call (xk_call ba.F (fun Y => PySem.W.excTail_contains Y bm tl) (I.kIn _ _ hC) (PySem.W.looks_findIn I.kIn me.at_) (fun self => PySem.W.bind_fn I.kIn self (beq_iff_eq.mp me.fn)) hus (codeAny_mono go fun r z hz => ?_))
  match r, hz with
  | .error er, hz => exact hx pins σ _ _ er z J hz
  | .ok (.ret u), hz =>
    obtain ⟨v, H', I3, rv, ev, q3⟩ := J.after hz
    subst ev
    exact ⟨rv, ⟨V.ref (hp.objs.size + 1), H', I3, rfl, q3⟩⟩
theorem upd_aba {H : Hp} {a d : Addr} {o1 o2 o3 : HO} (ne : d ≠ a) : upd (upd (upd H a o1) d o2) a o3 = upd (upd H d o2) a o3 := by
  funext b
  by_cases h1 : b = a
  · subst h1
    rw [upd_same, upd_same]
  · rw [upd_ne h1, upd_ne h1]
    by_cases h2 : b = d
    · subst h2
      rw [upd_same, upd_same]
    · rw [upd_ne h2, upd_ne h2, upd_ne h1]
theorem spX_of {σ : L2.St} {H : Hp} {O : List (Nat × Addr)} {ρ : Slots} {pt : Pot} {ec : Nat} {ds : List D} {ws : List V} {a : Addr} {Q : VK} {E : XK} (r : RS c O ρ σ H pt) (rl : c.RL (Hd (hid c O) H) ds ws) (hl : ds.length = (c.T.names ec).length) (ha : H a = none)
    (q : ∀ H', Stp c.T.tb c.p H H' pt → ∀ v, c.R (Hd (hid c O) H') (.ex ec ds) v → Q v H') : spX c.T ec (.ref a :: ws) (upd H a (exo a (c.T.cls ec) none)) (fun v H2 => v = .non ∧ Q (.ref a) H2) E := by
  refine ⟨a, ws, rfl, by rw [← RL.len rl, hl], upd_same, fun d fl hd ne hfl => ⟨rfl, ?_⟩⟩
  rw [upd_aba ne]
  have hd0 : H d = none := by rw [← upd_ne (H := H) (o := exo a (c.T.cls ec) none) ne]; exact hd
  have s1 : Stp c.T.tb c.p H (upd H d (exd d fl)) pt := Stp.new r.pot hd0
  have ha1 : upd H d (exd d fl) a = none := by rw [upd_ne (Ne.symm ne)]; exact ha
  have s2 := s1.newK (o := exo a (c.T.cls ec) (some d)) ha1
  have g : Gr (Hd (hid c O) H) (Hd (hid c O) (upd (upd H d (exd d fl)) a (exo a (c.T.cls ec) (some d)))) := (Hd.new hd0).trans (Hd.new ha1)
  refine q _ s2 _ ?_
  simp only [Cy.R, R]
  refine ⟨a, some d, ws, rfl, Hd.at_new (fun z => r.fresh ha z) rfl, hl, RL.gr g rl, .inr ⟨d, fl, rfl, Hd.out (fun z => r.fresh hd0 z) (by rw [upd_ne ne, upd_same]) rfl, hfl⟩⟩
def exKE (ec n n0 m : Nat) (sel : List (Bool × Nat)) (fa fk : Slots → M (List D)) : Slots → M D := fun ρ => bnd (fa ρ) fun ds => bnd (fk ρ) fun es =>
  if ds.length = n0 ∧ es.length = m ∧ (ds ++ pick sel [] es).length = n then ret (.ex ec (ds ++ pick sel [] es)) else fail
def exPE (ec n : Nat) (fa : Slots → M (List D)) : Slots → M D := fun ρ => bnd (fa ρ) fun ds => if ds.length = n then ret (.ex ec ds) else fail
variable {x : Str} {p pos : Pos} {e : Expr} {es : List Expr} {kws : List Keyword} {fa fk : Slots → M (List D)} {ec m : Nat} {sel : List (Bool × Nat)}
/-- C(e, ..) -/
theorem de_exP (tk : Takes X W) (T : OxG X.K (c.T.cls ec)) (me : Meth X.K (c.T.cls ec) "__init__" fI) (F : FnG gu X.prog X.w X.K X.mg X.base (L2.CX X.prog X.w) k fI fd ps (spX c.T ec)) (hr : Rm gu (k + 1) X.A) (hb : Binds X.K fd ps []) (hm : X.mg x = some (.ref (c.T.cls ec))) (hn : (c.T.names ec).length = n) (ha : PA X (e :: es) (dA c W fa))
    (hps : ps.length = n + 1 := by rfl) (hn1 : n ≤ 1000 := by decide) (hg : Gl X x := by rfl) (hdb : (x == ("__debug__" : Str)) = false := by decide) (he : starEach (e :: es) X.env = (false, eval e X.env) :: starEach es X.env := by rfl) (hpl : (backTo pos (starEach es X.env)).any (·.1) = false := by rfl) :
    PE X (.Call (.Name x p) (e :: es) [] pos) (dE c W (exPE ec n fa)) := by
  refine ⟨fun pins s σ H Q I h => wpAny_Call_Name_kw (ld_glob I hg hm ?_ hdb)⟩
  have h2 : dA c W fa σ H fun vs H1 => vs.length = n ∧ ∀ a, H1 a = none → spX c.T ec (.ref a :: (vs ++ [])) (upd H1 a (exo a (c.T.cls ec) none)) (fun v H2 => v = .non ∧ Q (.ref a) H2) (fun _ _ _ => False) := by
    obtain ⟨O, ρ, pt, r, q⟩ := h
    refine ⟨O, ρ, pt, r, (Wg.bnd q).imp fun ds p1 H1 _ s1 q vs rl => ?_⟩
    by_cases hl : ds.length = n
    · rw [if_pos hl] at q
      refine ⟨(RL.len rl).symm.trans hl, fun a hfa => ?_⟩
      rw [List.append_nil]
      exact spX_of (r.stp s1) rl (hl.trans hn.symm) hfa q
    · rw [if_neg hl] at q
      exact q.elim
  refine PySem.W.callWith_K (h₀ := X.base) I.ok.mod.kin T.kp (thn (ha.run pos pins s σ H _ I h2) fun us s1 ⟨vs, H1, I1, r1, l1, q1⟩ => ⟨I1.kIn, ?_⟩) he hpl
  exact run_ox (ks := []) (ws := []) (zs := []) T me F hr (kbn_of hb hps) passL I1 r1 .nil l1 rfl hn1 q1
/-- C(k = e, ..) -/
theorem de_exK0 (tk : Takes X W) (T : OxG X.K (c.T.cls ec)) (me : Meth X.K (c.T.cls ec) "__init__" fI) (F : FnG gu X.prog X.w X.K X.mg X.base (L2.CX X.prog X.w) k fI fd ps (spX c.T ec)) (hr : Rm gu (k + 1) X.A) (hm : X.mg x = some (.ref (c.T.cls ec))) (hn : (c.T.names ec).length = n)
    (hb : KBn X.K fd ps 1 ks g (fun vs zs => vs ++ pick sel [] zs)) (hkw : PK X kws (dA c W fk)) (hg : Gl X x := by rfl)
    (hall : (backToKw pos (keywordEach kws X.env)).all (·.1.isSome) = true := by rfl) (hks : (backToKw pos (keywordEach kws X.env)).filterMap (·.1) = ks := by rfl) (hl : ks.length = m := by rfl) (hdb : (x == ("__debug__" : Str)) = false := by decide)
    (hpl : ((backTo pos (starEach [] X.env)).any (·.1) || (backToKw pos (keywordEach kws X.env)).any (·.1.isNone)) = false := by rfl) :
    PE X (.Call (.Name x p) [] kws pos) (dE c W (exKE ec n 0 m sel nilA fk)) := by
  subst hl
  refine ⟨fun pins s σ H Q I h => wpAny_Call_Name_kw (ld_glob I hg hm ?_ hdb)⟩
  have h2 : dA c W fk σ H fun zs H2 => zs.length = ks.length ∧ ∀ a, H2 a = none → spX c.T ec (.ref a :: ([] ++ pick sel [] zs)) (upd H2 a (exo a (c.T.cls ec) none)) (fun v H3 => v = .non ∧ Q (.ref a) H3) (fun _ _ _ => False) := by
    obtain ⟨O, ρ, pt, r, q⟩ := h
    refine ⟨O, ρ, pt, r, ?_⟩
    have q1 : Wg c W σ H (fun d _ H' => ∀ v, c.R (Hd (hid c O) H') d v → Q v H') (bnd (fk ρ) (fun es => if ([] : List D).length = 0 ∧ es.length = ks.length ∧ ([] ++ pick sel [] es).length = n then ret (.ex ec ([] ++ pick sel [] es)) else fail) pt) := q
    refine (Wg.bnd q1).imp fun es p1 H1 _ s1 q zs rz => ?_
    by_cases hc : ([] : List D).length = 0 ∧ es.length = ks.length ∧ ([] ++ pick sel [] es).length = n
    · rw [if_pos hc] at q
      refine ⟨(RL.len rz).symm.trans hc.2.1, fun a hfa => ?_⟩
      exact spX_of (r.stp s1) (RL.app RL.nil (rl_pick RL.nil rz sel)) (hc.2.2.trans hn.symm) hfa q
    · rw [if_neg hc] at q
      exact q.elim
  refine PySem.W.callWith_KW0 (h₀ := X.base) I.ok.mod.kin T.kp hall ?_ hpl
  refine thn (hkw.run pos pins s σ H _ I h2) fun ws s2 ⟨zs, H2, I2, rz, l2, q2⟩ => ⟨I2.kIn, ?_⟩
  rw [hks]
  exact run_ox (n := 0) (us := []) (vs := []) T me F hr hb passL I2 .nil rz rfl l2 (by decide) q2
end
/-! ### classes without an __init__ of their own -/
structure OxN (K : PySem.W.Frag) (C : Addr) : Prop where
  cls : ∃ (B newId initId : String) (bmB : List Value) (nm q : Str) (N : Addr) (bs bm : List Value) (sn : List Str) (sub : List Value) (ab : Bool) (col : Option Bool) (dd : Option Addr) (k0 k1 k2 k3 k5 : Option Value), BaB B newId initId bmB ∧
    K.lookup C = some (excClassObj nm q C N bs bm true sn sub ab col dd k0 k1 k2 k3 k5 newId) ∧ PySem.W.excTail bmB bm = true ∧ PySem.W.findIn K (.ref C) "__init__" = some (some (.builtin initId))
  kp : PySem.W.keepIn K (.ref C) = true
section
variable {X : Cx} {c : Cy} {W : WX} {x : Str} {p pos : Pos} {ec : Nat}
/-- C() -/
theorem de_ex0 (T : OxN X.K (c.T.cls ec)) (hm : X.mg x = some (.ref (c.T.cls ec))) (hn : c.T.names ec = []) (hg : Gl X x := by rfl) (hdb : (x == ("__debug__" : Str)) = false := by decide) : PE X (.Call (.Name x p) [] [] pos) (dE c W (fun _ => ret (.ex ec []))) := by
  refine ⟨fun pins s σ H Q I h => wpAny_Call_Name_kw (ld_glob I hg hm (PySem.W.callWith_K0 I.kIn T.kp ?_) hdb)⟩
  obtain ⟨B, nw, i, bmB, nm, q, N, bs, bm, sn, sub, ab, col, dd, k0, k1, k2, k3, k5, ba, hC, tl, hi⟩ := T.cls
  obtain ⟨O, ρ, pt, r, hw⟩ := h
  obtain ⟨hp, g0, dr, tk, os⟩ := s
  refine PySem.W.call_B ba.F (fun Y => PySem.W.excTail_contains Y bm tl) (I.kIn _ _ hC) (PySem.W.looks_findIn I.kIn hi) (Nat.zero_le _) fun h1 up e1 _ => ?_
  have le : hp.objs.size ≤ hp.objs.size + 1 := Nat.le_succ _
  have fr : H (hp.objs.size + 1) = none := I.hok.fresh le
  have J := I.laid (t' := tk) (a := hp.objs.size + 1) (o := exo (hp.objs.size + 1) (c.T.cls ec) none) up le (exo_ok e1)
  refine ⟨.ref (hp.objs.size + 1), _, J, rfl, hw _ (Stp.new r.pot fr) _ ?_⟩
  simp only [Cy.R, R]
  exact ⟨_, none, [], rfl, Hd.at_new (fun z => r.fresh fr z) rfl, by rw [hn]; rfl, RL.nil, .inl ⟨rfl, trivial⟩⟩
end
/-! ### the facts -/
section
variable {oks : List Fct} {fn : List He5.DefA} {K : PySem.W.Frag} {h : Heap} {mg : Str → Option Value} {x y z : Str}
def newOf (K : PySem.W.Frag) (C : Addr) : String := (match K.lookup C with
  | some ⟨_, _, _, sl⟩ => (match sl.toList with
    | [_, _, _, _, some (.builtin n), _] => n
    | _ => "")
  | _ => "")
def fOxn (x : Str) : Fct := fun K => oexB K (He.ga K x) && (He.eqO (PySem.W.findIn K (.ref (He.ga K x)) "__init__") (some (some (.builtin (inOf (newOf K (He.ga K x)))))) && PySem.W.keepIn K (.ref (He.ga K x)))
theorem oxnB_ok {C : Addr} (q : oexB K C = true) (q2 : PySem.W.findIn K (.ref C) "__init__" = some (some (.builtin (inOf (newOf K C))))) : ∃ (B newId initId : String) (bmB : List Value) (nm q : Str) (N : Addr) (bs bm : List Value) (sn : List Str) (sub : List Value) (ab : Bool) (col : Option Bool) (dd : Option Addr) (k0 k1 k2 k3 k5 : Option Value), BaB B newId initId bmB ∧
    K.lookup C = some (excClassObj nm q C N bs bm true sn sub ab col dd k0 k1 k2 k3 k5 newId) ∧ PySem.W.excTail bmB bm = true ∧ PySem.W.findIn K (.ref C) "__init__" = some (some (.builtin initId)) := by
  unfold oexB at q
  split at q
  · rename_i dd cd sl ho
    split at q
    · rename_i C' bm k0 k1 k2 k3 n k5 hm hs
      simp only [Bool.and_eq_true, beq_iff_eq, Bool.not_eq_true'] at q
      obtain ⟨rfl, hn, hv, hdi, hdel⟩ := q
      obtain ⟨nm, bs, mro, nsp, qn, hdd, sn, sub, ab, col, del⟩ := cd
      dsimp only at hm hdel hdi
      subst hm hdel hdi
      obtain ⟨l⟩ := sl
      simp only at hs
      subst hs
      obtain ⟨B, ba⟩ := baOf_ok hn
      have en : newOf K C' = n := by unfold newOf; rw [ho]
      rw [en] at q2
      exact ⟨B, n, _, _, nm, qn, nsp, bs, bm, sn, sub, ab, col, dd, k0, k1, k2, k3, k5, ba, ho, hv, q2⟩
    · cases q
  · cases q
theorem Tx.oxn (t : Tx oks fn K mg) (j : Nat) (h : oks[j]? = some (fOxn x) := by rfl) : OxN K (He.ga K x) := by
  have q := t.c.fact j h
  obtain ⟨q1, q⟩ := He.ba q
  obtain ⟨q2, q3⟩ := He.ba q
  exact ⟨oxnB_ok q1 (He.eqO_ok q2), q3⟩
/-- its instances can be asked -/
def fExc (x : Str) : Fct := fun K => xfB K (He.ga K x) && (He.eqO (PySem.W.findIn K (.ref (He.ga K x)) "__class__") (some (some (.builtin "object.__class__"))) && (He.eqO (PySem.W.specialIn K (.builtin "object.__class__") "__get__") (some (some (.builtin "getset_descriptor.__get__"))) &&
  (decide (PySem.W.takesIn K (.builtin "object.__class__") = some true) && decide (PySem.W.mroIn K (He.ga K x) (.type "object") = some true))))
theorem Tx.exc (t : Tx oks fn K mg) (j : Nat) (h : oks[j]? = some (fExc x) := by rfl) : ExcC K (He.ga K x) := by
  have q := t.c.fact j h
  obtain ⟨q1, q⟩ := He.ba q
  obtain ⟨q2, q⟩ := He.ba q
  obtain ⟨q3, q⟩ := He.ba q
  obtain ⟨q4, q5⟩ := He.ba q
  have X := xfB_ok q1
  exact ⟨X.ga, X.gg, X.exC, X.hdC, He.eqO_ok q2, He.eqO_ok q3, of_decide_eq_true q4, of_decide_eq_true q5⟩
end
end DF

set_option Elab.async false
set_option linter.all false
set_option maxRecDepth 100000
set_option maxHeartbeats 4000000
namespace DF
open PySem PySem.Spec PyProof.Rows L2
/-! ### try: raise C(..) except B as e: a suite that goes on -/
def freeAt (i : Nat) (ρ : Slots) : Bool := match ρ[i]? with
  | some (some s) => !isOwn s
  | some none => true
  | none => false
def offS (i : Nat) : Out → M Out
  | .nx ρ => if freeAt i ρ = true ∧ (ρ.set i none).all plainV = true then ret (.nx (ρ.set i none)) else fail
  | .rt d => ret (.rt d)
  | _ => fail
def noR {α : Type} (m : M α) : M α := fun pt => match m pt with
  | .ok a p => .ok a p
  | _ => .stuck
def tryrS (ec n i : Nat) (fa : Slots → M (List D)) (g : Slots → M Out) : Slots → M Out := fun ρ => bnd (noR (fa ρ)) fun ds =>
  if ds.length = n ∧ freeAt i ρ = true ∧ ρ.all plainV = true then bnd (noR (g (ρ.set i (some (.exv ec ds))))) (offS i) else fail
section
variable {X : Cx} {c : Cy} {W : WX} {σ : L2.St} {H H' : Hp} {O : List (Nat × Addr)} {ρ : Slots} {pt pt' : Pot}
theorem freeAt_ne {i : Nat} (h : freeAt i ρ = true) (r : RS c O ρ σ H pt) : ∀ q ∈ O, q.1 ≠ i := fun q hq z => by
  obtain ⟨s, e, o⟩ := r.ow q hq
  unfold freeAt at h
  rw [← z, e] at h
  simp [o] at h
theorem freeAt_lt {i : Nat} (h : freeAt i ρ = true) : i < ρ.length := by
  unfold freeAt at h
  by_cases z : i < ρ.length
  · exact z
  · rw [List.getElem?_eq_none (by omega)] at h
    cases h
/-- a slot that is not own is set anew -/
theorem RS.setF {i : Nat} {s : Option SV} {x : Option V} (r : RS c O ρ σ H pt) (h : freeAt i ρ = true) (hs : ∀ s1, s = some s1 → SlotOk c O H i (some x) s1) : RS c O (ρ.set i s) (σ.set i x) H pt := by
  have hi := freeAt_lt h
  refine ⟨r.pot, fun a o n h m => r.ext a o n h m, r.hp, r.hS, r.new, r.nd, r.nf, by rw [List.length_set, List.length_set, r.len], fun q hq => ?_, fun j s1 hj => ?_⟩
  · rw [List.getElem?_set_ne (Ne.symm (freeAt_ne h r q hq))]
    exact r.ow q hq
  · by_cases ej : j = i
    · subst ej
      rw [List.getElem?_set_self hi] at hj
      rw [List.getElem?_set_self (by rw [← r.len]; exact hi)]
      exact hs s1 (Option.some.inj hj)
    · rw [List.getElem?_set_ne (Ne.symm ej)] at hj ⊢
      exact r.sl j s1 hj
theorem ds_tryr {ec n i k : Nat} {x y nm : Str} {cv : Value} {e : Expr} {es : List Expr} {p pos1 pos2 p3 p4 pos : Pos} {fI : Addr} {fd : FuncData} {ps : List Str} {fa : Slots → M (List D)} {g : Slots → M Out} {st : Stmt} {sts : List Stmt} (nd : X.N.Nodup) (tk : Takes X W) (T1 : OxG X.K (c.T.cls ec)) (me : Meth X.K (c.T.cls ec) "__init__" fI)
    (F1 : FnOk X.prog X.w X.K X.mg X.base (L2.CX X.prog X.w) k fI fd ps (spX c.T ec)) (hr : Room (k + 1) X.A) (hb : Binds X.K fd ps []) (hm : X.mg x = some (.ref (c.T.cls ec))) (hn : (c.T.names ec).length = n)
    (ha : ∀ (pn : List (Addr × Obj)) (xe : Value → Shared → Prop), PA (X.tr pn xe) (e :: es) (dA c W0 fa)) (hcn : Names X y cv) (hy : PySem.W.exmOne X.K (.ref (c.T.cls ec)) cv = some true) (hi : X.N[i]? = some nm) (hl : X.env.kindOf nm = some .local)
    (su : ∀ (a : Addr) (oe : Obj) (cls : Value) (d : Option Addr) (pn : List (Addr × Obj)), Zc cls d oe → (∃ vs, oe.data = .fields vs) → PSs (X.suite a ((a, oe) :: pn)) (st :: sts) (dS { c with x := { c.x with a := a, cls := cls, d := d } } W0 g))
    (hc : X.calm = true := by rfl) (hn1 : n ≤ 1000 := by decide) (hg : Gl X x := by rfl) (hst : X.stack = X.env :: X.outer := by rfl) (hef : X.env.frame = some X.env.locals := by rfl)
    (hdb : (x == ("__debug__" : Str)) = false := by decide) (he : starEach (e :: es) X.env = (false, eval e X.env) :: starEach es X.env := by rfl) (hpl : (backTo pos1 (starEach es X.env)).any (·.1) = false := by rfl) :
    PS X (.Try [.Raise (some (.Call (.Name x p) (e :: es) [] pos1)) none pos2] [.ExceptHandler (some (.Name y p3)) (some nm) (st :: sts) p4] [] [] pos) (dS c W (tryrS ec n i fa g)) := by
  refine ps_imp (try_named (tb := fun W1 => fun _ σ H => tMkO (c.T.cls ec) (spX c.T ec) [] (dA c W0 fa) σ H fun cls d H' => W1 cls d σ H') hst hef nd tk (fun W1 pn xe tk1 po => pss_one (ps_raise (X := X.tr pn xe) hc tk1 (pmk_ox (X := X.tr pn xe) T1 me F1 hr hb passL hg hm (ha pn xe) hdb he hpl))) (.cons hcn hi hl su .nil)) fun E σ H ⟨O, ρ, pt, r, h⟩ => ⟨O, ρ, pt, r, ?_⟩
  unfold tryrS DF.bnd noR at h
  cases ea : fa ρ pt with
  | stuck => rw [ea] at h; exact h.elim
  | exc e1 fs1 p1 => rw [ea] at h; exact h.elim
  | ok ds p1 =>
    rw [ea] at h
    intro H1 s1 vs rl
    simp only at h
    by_cases hz : ds.length = n ∧ freeAt i ρ = true ∧ ρ.all plainV = true
    · rw [if_pos hz] at h
      obtain ⟨hlen, hfr, hpv⟩ := hz
      have lv := RL.len rl
      have r1 := r.stp s1
      refine ⟨by omega, fun a hfa => ⟨a, vs, by rw [List.append_nil], by rw [← lv, hlen, hn], upd_same, fun d fl hd ne hfl => ⟨rfl, d, fl, upd_same, by rw [upd_ne ne, upd_same], by rw [← upd_ne (H := H1) (o := exo a (c.T.cls ec) none) ne]; exact hd, ?_⟩⟩⟩
      have hd1 : H1 d = none := by rw [← upd_ne (H := H1) (o := exo a (c.T.cls ec) none) ne]; exact hd
      rw [del_upd hfa ne]
      have s2 := Stp.new (o := .xd fl) r1.pot hd1
      have r2 := r1.stp s2
      refine ⟨true, hy, fun _ b hb => ?_, fun z => by cases z⟩
      have rc : RS { c with x := { c.x with a := b, cls := .ref (c.T.cls ec), d := some d } } O ρ σ (upd H1 d (.xd fl)) p1 := r2.x_ (c := { c with x := { c.x with a := b, cls := .ref (c.T.cls ec), d := some d } }) rfl ⟨rfl, rfl, rfl⟩ hpv
      have g1 : Gr (Hd (hid c O) H1) (Hd (hid c O) (upd H1 d (.xd fl))) := Hd.new hd1
      have r3 : RS { c with x := { c.x with a := b, cls := .ref (c.T.cls ec), d := some d } } O (ρ.set i (some (.exv ec ds))) (σ.set i (some (.ref b))) (upd H1 d (.xd fl)) p1 := rc.setF hfr fun sv hsv => by
        cases hsv
        exact ⟨rfl, rfl, .inr ⟨d, fl, vs, rfl, Hd.at_new (fun z => r1.fresh hd1 z), hfl, by rw [hlen, hn], RL.gr g1 rl⟩⟩
      refine ⟨O, _, p1, r3, ?_⟩
      have mv : Mv c O H O (upd H1 d (.xd fl)) := (s1.mv r.hp).trans (s2.mv r.hp)
      cases eg : g (ρ.set i (some (.exv ec ds))) p1 with
      | stuck => rw [eg] at h; exact h.elim
      | exc e1 fs1 p2 => rw [eg] at h; exact h.elim
      | ok o p2 =>
        rw [eg] at h
        cases o with
        | bk _ => exact h.elim
        | ct _ => exact h.elim
        | rt d1 => exact fun v H2 f2 rv => h v H2 ⟨f2.pot, fun a o n h m => f2.ext a o n h m, f2.hS⟩ rv
        | nx ρ1 =>
          intro O2 σ2 H2 rs mv2
          unfold offS at h
          simp only at h
          by_cases hq : freeAt i ρ1 = true ∧ (ρ1.set i none).all plainV = true
          · rw [if_pos hq] at h
            have r4 := rs.setF (s := none) (x := none) hq.1 (fun s1 z => nomatch z)
            have r5 : RS c O2 (ρ1.set i none) (σ2.set i none) H2 p2 := RS.x_ r4 rfl ⟨rfl, rfl, rfl⟩ hq.2
            exact h O2 _ H2 r5 (mv.trans mv2)
          · rw [if_neg hq] at h
            exact h.elim
    · rw [if_neg hz] at h
      exact h.elim
end
end DF

set_option Elab.async false
set_option linter.all false
set_option maxRecDepth 100000
set_option maxHeartbeats 4000000
namespace DF
open PySem PySem.Spec PyProof.Rows L2
section
variable {X : Cx} {c : Cy} {W : WX} {pos p1 p2 : Pos}
/-! ### a list times an int -/
theorem RL.rep {K : PySem.W.Frag} {T : Tb} {p : Addr} {H : Hp} {ds : List D} {vs : List V} (h : RL K T p H ds vs) : ∀ n : Nat, RL K T p H (List.replicate n ds).flatten (List.replicate n vs).flatten
  | 0 => RL.nil
  | n + 1 => by
    rw [List.replicate_succ, List.replicate_succ, List.flatten_cons, List.flatten_cons]
    exact RL.app h (RL.rep h n)
def lRep : D → D → M (List D)
  | .lst xs, .int k => if 0 ≤ k ∧ k ≤ 1000 ∧ xs.length ≤ 100 then ret (List.replicate k.toNat xs).flatten else fail
  | _, _ => fail
theorem od_lRep : OpL X c W (binaryOp .Mult) lRep := ⟨_, op_rep, fun σ O ρ pt p1 H H1 Q x y v w rs s1 rx ry q => by
  cases x with
  | lst xs =>
    cases y with
    | int k =>
      simp only [lRep] at q
      by_cases hz : 0 ≤ k ∧ k ≤ 1000 ∧ xs.length ≤ 100
      · rw [if_pos hz] at q
        obtain ⟨a, vs, rfl, ha, ra⟩ := rx.lst
        rw [ry.int]
        refine ⟨a, k, vs, rfl, rfl, ha, by omega, by omega, ?_, fun l hl => new_lst rs s1 (RL.rep ra k.toNat) hl q⟩
        rw [← RL.len ra, sizeLine_eq]
        have h1 : xs.length * k.toNat ≤ 100 * 1000 := Nat.mul_le_mul hz.2.2 (by omega)
        omega
      · rw [if_neg hz] at q
        exact q.elim
    | _ => exact q.elim
  | _ => exact q.elim⟩
def mulU : D → D → M D := orM (pu iMul) (boxM lRep)
theorem od_mulU : OpD X c W (binaryOp .Mult) mulU := od_iMul.or od_lRep.d
/-! ### {k: i} -/
theorem de_dct1 {k : Str} {i : Int} {j1 j2 : Nat} : PE X (.Dict [some (.Constant (.str k) j1 p1)] [.Constant (.int i) j2 p2] pos) (dE c W (cE (.dct [(.inr k, .int i)]))) := by
  refine pe_imp (pe_disp (pps_cons (pe_str (x := k)) (pe_int (i := i)) pps_nil) rfl rfl (by intro z; cases z) (show 1 ≤ 15 by decide)) fun σ H Q ⟨O, ρ, pt, r, q⟩ l hl => ?_
  refine ⟨upd_same, [(.inr k, .int i)], rfl, (show 1 ≤ 15 by decide), ?_⟩
  have e : upd (upd H l (.dK [])) l (.dK (mergeK [] [(.inr k, .int i)])) = upd H l (.dK [(.inr k, .int i)]) := by
    funext b
    by_cases hb : b = l
    · subst hb
      rw [upd_same, upd_same]
      rfl
    · rw [upd_ne hb, upd_ne hb, upd_ne hb]
  rw [e]
  refine q _ (Stp.new r.pot hl) _ ?_
  simp only [Cy.R, R]
  exact ⟨l, _, rfl, Hd.at_new (r.fresh hl), by simp [RK, R]⟩
end
/-! ### which class an exception stands under -/
section
variable {oks : List Fct} {fn : List He5.DefA} {K : PySem.W.Frag} {h : Heap} {mg : Str → Option Value} {x y z : Str}
/-- of the classes cs: which stand under u -/
def fKit (u : PySem.W.Frag → Value) (cs : List Str) (bs : List (Option Bool)) : Fct := fun K => (List.zip cs bs).all fun q => match q.2 with
  | some b => decide (PySem.W.kitOne K (.ref (He.ga K q.1)) (u K) = some b)
  | none => true
theorem Tx.kit {cs : List (Str × List Str)} {tf : List Tab_} {bs : List (Option Bool)} {u : PySem.W.Frag → Value} (t : Tx oks fn K mg) (j : Nat) (hl : bs.length = cs.length) (h : oks[j]? = some (fKit u (cs.map (·.1)) bs) := by rfl) : ∀ e b, (bs[e]?).join = some b → PySem.W.kitOne K (.ref ((tbOf cs tf K).cls e)) (u K) = some b := fun e b hb => by
  have q := t.c.fact j h
  cases hq : bs[e]? with
  | none => rw [hq] at hb; cases hb
  | some o =>
    rw [hq] at hb
    cases o with
    | none => cases hb
    | some b1 =>
      cases hb
      have hk : e < cs.length := by
        have := (List.getElem?_eq_some_iff.mp hq).1
        omega
      have he : (cs.getD e ("", [])) = cs[e] := by rw [List.getD_eq_getElem?_getD, List.getElem?_eq_getElem hk]; rfl
      have hz : (List.zip (cs.map (·.1)) bs)[e]? = some (cs[e].1, some b) := by
        rw [List.getElem?_zip_eq_some]
        exact ⟨by rw [List.getElem?_map, List.getElem?_eq_getElem hk]; rfl, hq⟩
      have := List.all_eq_true.mp q _ (List.mem_of_getElem? hz)
      show PySem.W.kitOne K (.ref (He.ga K (cs.getD e ("", [])).1)) _ = _
      rw [he]
      exact of_decide_eq_true this
/-- all of these classes' instances can be asked -/
def fExcs (cs : List Str) (bs : List Bool) : Fct := fun K => (List.zip cs bs).all fun q => !q.2 || fExc q.1 K
theorem Tx.excs {cs : List (Str × List Str)} {tf : List Tab_} {bs : List Bool} (t : Tx oks fn K mg) (j : Nat) (hl : bs.length = cs.length) (h : oks[j]? = some (fExcs (cs.map (·.1)) bs) := by rfl) : ∀ e, bs[e]? = some true → ExcC K ((tbOf cs tf K).cls e) := fun e hq => by
  have q := t.c.fact j h
  have hk : e < cs.length := by
    have := (List.getElem?_eq_some_iff.mp hq).1
    omega
  have he : (cs.getD e ("", [])) = cs[e] := by rw [List.getD_eq_getElem?_getD, List.getElem?_eq_getElem hk]; rfl
  have hz : (List.zip (cs.map (·.1)) bs)[e]? = some (cs[e].1, true) := by
    rw [List.getElem?_zip_eq_some]
    exact ⟨by rw [List.getElem?_map, List.getElem?_eq_getElem hk]; rfl, hq⟩
  have q1 : fExc cs[e].1 K = true := by simpa using List.all_eq_true.mp q _ (List.mem_of_getElem? hz)
  show ExcC K (He.ga K (cs.getD e ("", [])).1)
  rw [he]
  unfold fExc at q1
  obtain ⟨q1, q⟩ := He.ba q1
  obtain ⟨q2, q⟩ := He.ba q
  obtain ⟨q3, q⟩ := He.ba q
  obtain ⟨q4, q5⟩ := He.ba q
  have X := xfB_ok q1
  exact ⟨X.ga, X.gg, X.exC, X.hdC, He.eqO_ok q2, He.eqO_ok q3, of_decide_eq_true q4, of_decide_eq_true q5⟩
def fNoats (f : Str) (cs : List Str) (bs : List (Option Nat)) : Fct := fun K => (List.zip cs bs).all fun q => q.2.isNone || fNoat q.1 f K
theorem Tx.xats {cs : List (Str × List Str)} {tf : List Tab_} {f : Str} {bs : List Bool} {ixs : List (Option Nat)} (t : Tx oks fn K mg) (j1 j2 : Nat) (hb : bs.length = cs.length) (ht : bs.all id = true) (hl : ixs.length = cs.length) (hn : ((cs.zip ixs).all fun q => match q.2 with | some j => decide (q.1.2[j]? = some f) | none => true) = true)
    (h1 : oks[j1]? = some (fExcs (cs.map (·.1)) bs) := by rfl) (h2 : oks[j2]? = some (fNoats f (cs.map (·.1)) ixs) := by rfl) : ∀ k j, (ixs[k]?).join = some j → ExcC K ((tbOf cs tf K).cls k) ∧ NoAttr K ((tbOf cs tf K).cls k) f ∧ ((tbOf cs tf K).names k)[j]? = some f := fun k j hj => by
  cases hq : ixs[k]? with
  | none => rw [hq] at hj; cases hj
  | some o =>
    rw [hq] at hj
    have ho : o = some j := hj
    subst ho
    have hk : k < cs.length := by
      have := (List.getElem?_eq_some_iff.mp hq).1
      omega
    have he : (cs.getD k ("", [])) = cs[k] := by rw [List.getD_eq_getElem?_getD, List.getElem?_eq_getElem hk]; rfl
    have hbk : bs[k]? = some true := by
      have hk2 : k < bs.length := by omega
      rw [List.getElem?_eq_getElem hk2]
      have := List.all_eq_true.mp ht _ (List.getElem_mem hk2)
      simpa using this
    refine ⟨t.excs j1 hb h1 k hbk, ?_, ?_⟩
    · have q := t.c.fact j2 h2
      have hz : (List.zip (cs.map (·.1)) ixs)[k]? = some (cs[k].1, some j) := by
        rw [List.getElem?_zip_eq_some]
        exact ⟨by rw [List.getElem?_map, List.getElem?_eq_getElem hk]; rfl, hq⟩
      have q1 : fNoat cs[k].1 f K = true := by simpa using List.all_eq_true.mp q _ (List.mem_of_getElem? hz)
      show NoAttr K (He.ga K (cs.getD k ("", [])).1) f
      rw [he]
      exact He.noat_ok q1
    · have hz : (List.zip cs ixs)[k]? = some (cs[k], some j) := by
        rw [List.getElem?_zip_eq_some]
        exact ⟨List.getElem?_eq_getElem hk, hq⟩
      have q1 := List.all_eq_true.mp hn _ (List.mem_of_getElem? hz)
      show ((cs.getD k ("", [])).2)[j]? = some f
      rw [he]
      exact of_decide_eq_true q1
theorem Tx.isx {cs : List (Str × List Str)} {tf : List Tab_} {bs : List Bool} {as : List (Option Bool)} {u : PySem.W.Frag → Value} (t : Tx oks fn K mg) (j1 j2 : Nat) (hb : bs.length = cs.length) (ht : bs.all id = true) (hl : as.length = cs.length)
    (h1 : oks[j1]? = some (fExcs (cs.map (·.1)) bs) := by rfl) (h2 : oks[j2]? = some (fKit u (cs.map (·.1)) as) := by rfl) : ∀ k b, (as[k]?).join = some b → ExcC K ((tbOf cs tf K).cls k) ∧ PySem.W.kitOne K (.ref ((tbOf cs tf K).cls k)) (u K) = some b := fun k b hj => by
  refine ⟨t.excs j1 hb h1 k ?_, t.kit j2 hl h2 k b hj⟩
  have hk2 : k < bs.length := by
    cases hq : as[k]? with
    | none => rw [hq] at hj; cases hj
    | some o =>
      have := (List.getElem?_eq_some_iff.mp hq).1
      omega
  rw [List.getElem?_eq_getElem hk2]
  have := List.all_eq_true.mp ht _ (List.getElem_mem hk2)
  simpa using this
end
/-- every parameter is given, some by keywords -/
theorem kbP {K : PySem.W.Frag} {x qual : Str} {params : Arguments} {body : List Stmt} {scope : Scope} {kws : List (Str × V)} {f : Addr} {fd : FuncData} {ps : List Str} (F : FunD K x qual params body scope [] kws f fd) (n : Nat) (ks : List Str) (sel : List (Bool × Nat))
    (h : ∀ (kV doc pm : Value) (an : Option Addr) (cdv ct : Value) (us ws : List Value), us.length = n → ws.length = ks.length → bindArgs (PySem.W.fnOf x qual params body scope .none kV doc pm an cdv ct) ⟨us, ks.zip ws⟩ = pure (ps.zip (us ++ pick sel [] ws))) :
    ∃ mv : List Value, KBn K fd ps n ks (fun us ws => us ++ pick sel mv ws) (fun vs zs => vs ++ pick sel [] zs) := by
  obtain ⟨oc, od, dV, kV, doc, pm, an, cdv, ct, osl, rfl, lk, hcd, hD, hK⟩ := F.ex
  rcases hD with ⟨_, rfl⟩ | ⟨e, _⟩
  · exact ⟨[], ⟨fun s us ws _ l1 l2 => .of_eq (h kV doc pm an cdv ct us ws l1 l2), fun r1 r2 => r1.append (vals_pick .nil r2 sel)⟩⟩
  · exact absurd rfl e
theorem bo_ValueError : bootBuiltins "ValueError" = some (.type "ValueError") := by decide +kernel
theorem bo_LookupError : bootBuiltins "LookupError" = some (.type "LookupError") := by decide +kernel
theorem bo_RuntimeError : bootBuiltins "RuntimeError" = some (.type "RuntimeError") := by decide +kernel
theorem bo_ArithmeticError : bootBuiltins "ArithmeticError" = some (.type "ArithmeticError") := by decide +kernel
end DF

set_option Elab.async false
set_option linter.all false
set_option maxRecDepth 100000
set_option maxHeartbeats 4000000
namespace DF
open PySem PySem.Spec PyProof.Rows L2
/-! ### which class stands under which, by the rows of ancestors -/
section
variable {K : PySem.W.Frag}
def mroB (K : PySem.W.Frag) : List Value → List Str → List String → Bool
  | .ref a :: r, y :: ys, ts => (a == He.ga K y) && mroB K r ys ts
  | .type n :: r, [], t :: ts => (n == t) && mroB K r [] ts
  | [], [], [] => true
  | _, _, _ => false
theorem mroB_ok : ∀ {l : List Value} {ys : List Str} {ts : List String}, mroB K l ys ts = true → l = ys.map (fun y => Value.ref (He.ga K y)) ++ ts.map Value.type
  | .ref a :: r, y :: ys, ts, h => by
    simp only [mroB, Bool.and_eq_true, beq_iff_eq] at h
    rw [mroB_ok h.2, h.1]
    rfl
  | .type n :: r, [], t :: ts, h => by
    simp only [mroB, Bool.and_eq_true, beq_iff_eq] at h
    rw [mroB_ok h.2, h.1]
    rfl
  | [], [], [], _ => rfl
abbrev MTab := List (Str × List Str × List String)
def mro1 (K : PySem.W.Frag) (q : Str × List Str × List String) : Bool := match K.lookup (He.ga K q.1) with
  | some ⟨.type "type", _, .cls cd, _⟩ => mroB K cd.mro q.2.1 q.2.2
  | _ => false
def fMros (tab : MTab) : Fct := fun K => tab.all (mro1 K)
/-- the addresses of the names rise -/
def rise (K : PySem.W.Frag) : Addr → List Str → Bool
  | _, [] => true
  | a, y :: ys => Nat.blt a (He.ga K y) && rise K (He.ga K y) ys
def fRise (ns : List Str) : Fct := fun K => rise K 0 ns
theorem rise_lt : ∀ {ns : List Str} {a : Addr}, rise K a ns = true → ∀ y ∈ ns, a < He.ga K y
  | y :: ys, a, h, z, hz => by
    simp only [rise, Bool.and_eq_true] at h
    have h1 : a < He.ga K y := Nat.le_of_ble_eq_true h.1
    rcases List.mem_cons.mp hz with e | e
    · rw [e]; exact h1
    · exact Nat.lt_trans h1 (rise_lt h.2 z e)
theorem rise_inj : ∀ {ns : List Str} {a : Addr}, rise K a ns = true → ∀ y ∈ ns, ∀ z ∈ ns, He.ga K y = He.ga K z → y = z
  | x :: ys, a, h, y, hy, z, hz, e => by
    simp only [rise, Bool.and_eq_true] at h
    rcases List.mem_cons.mp hy with e1 | e1 <;> rcases List.mem_cons.mp hz with e2 | e2
    · rw [e1, e2]
    · subst e1
      exact absurd e (Nat.ne_of_lt (rise_lt h.2 z e2))
    · subst e2
      exact absurd e.symm (Nat.ne_of_lt (rise_lt h.2 y e1))
    · exact rise_inj h.2 y e1 z e2 e
theorem mro1_cls {q : Str × List Str × List String} (h : mro1 K q = true) : ∃ cd, PySem.W.clsIn K (He.ga K q.1) = some cd ∧ PySem.W.typeIn K (.ref (He.ga K q.1)) = some (.type "type") ∧ cd.mro = q.2.1.map (fun y => Value.ref (He.ga K y)) ++ q.2.2.map Value.type := by
  unfold mro1 at h
  split at h
  · rename_i dd cd sl ho
    refine ⟨cd, ?_, ?_, mroB_ok h⟩
    · unfold PySem.W.clsIn
      rw [ho]
    · show (K.lookup _).map _ = _
      rw [ho]
      rfl
  · cases h
/-- what the rows say of x under y -/
def under (q : Str × List Str × List String) (y : Str) : Bool := q.2.1.contains y
theorem kit_ref {tab : MTab} {ns : List Str} {q p : Str × List Str × List String} (hm : fMros tab K = true) (hr : fRise ns K = true) (hq : q ∈ tab) (hp : p ∈ tab) (hn : p.1 ∈ ns) (hs : ∀ y ∈ q.2.1, y ∈ ns) (h1 : q.1 ∈ q.2.1) : PySem.W.kitOne K (.ref (He.ga K q.1)) (.ref (He.ga K p.1)) = some (q.2.1.contains p.1) := by
  obtain ⟨cd, a1, a2, a3⟩ := mro1_cls (List.all_eq_true.mp hm q hq)
  obtain ⟨ce, b1, b2, b3⟩ := mro1_cls (List.all_eq_true.mp hm p hp)
  unfold PySem.W.kitOne
  by_cases e : He.ga K q.1 = He.ga K p.1
  · have e1 : q.1 = p.1 := rise_inj hr q.1 (hs _ h1) p.1 hn e
    have : q.2.1.contains p.1 = true := by
      rw [← e1]
      exact List.elem_eq_true_of_mem h1
    rw [this, e, if_pos (by simp)]
  · rw [if_neg (by simpa using e)]
    unfold PySem.W.kitCls
    simp only [b1, b2, Option.isSome_some, Bool.true_and]
    rw [if_pos (by simp)]
    show PySem.W.mroIn K (He.ga K q.1) (.ref (He.ga K p.1)) = _
    unfold PySem.W.mroIn
    rw [a1]
    have ne : cd.mro.isEmpty = false := by
      rw [a3]
      cases hz : q.2.1 with
      | nil => rw [hz] at h1; cases h1
      | cons a b => rfl
    simp only [Option.bind_some, ne]
    rw [if_neg (by simp), a3]
    congr 1
    rw [Bool.eq_iff_iff]
    simp only [List.contains_iff_mem, List.mem_append, List.mem_map]
    constructor
    · rintro (⟨y, hy, e2⟩ | ⟨t, _, e2⟩)
      · have e3 : He.ga K y = He.ga K p.1 := by injection e2
        rw [← rise_inj hr y (hs y hy) p.1 hn e3]
        exact hy
      · cases e2
    · intro h
      exact .inl ⟨p.1, h, rfl⟩
theorem kit_type {tab : MTab} {q : Str × List Str × List String} {T : String} (hm : fMros tab K = true) (hq : q ∈ tab) (h1 : q.1 ∈ q.2.1) (hT : PySem.W.kitMeta T = true) : PySem.W.kitOne K (.ref (He.ga K q.1)) (.type T) = some (q.2.2.contains T) := by
  obtain ⟨cd, a1, a2, a3⟩ := mro1_cls (List.all_eq_true.mp hm q hq)
  unfold PySem.W.kitOne
  rw [if_neg (by simp)]
  unfold PySem.W.kitCls
  simp only [hT]
  rw [if_pos trivial]
  show PySem.W.mroIn K (He.ga K q.1) (.type T) = _
  unfold PySem.W.mroIn
  rw [a1]
  have ne : cd.mro.isEmpty = false := by
    rw [a3]
    cases hz : q.2.1 with
    | nil => rw [hz] at h1; cases h1
    | cons a b => rfl
  simp only [Option.bind_some, ne]
  rw [if_neg (by simp), a3]
  congr 1
  rw [Bool.eq_iff_iff]
  simp only [List.contains_iff_mem, List.mem_append, List.mem_map]
  constructor
  · rintro (⟨y, hy, e2⟩ | ⟨t, ht, e2⟩)
    · cases e2
    · cases e2; exact ht
  · intro h
    exact .inr ⟨T, h, rfl⟩
/-- the table holds itself together -/
def tabOk (tab : MTab) : Bool := tab.all fun q => q.2.1.contains q.1 && q.2.1.all fun y => (tab.map (·.1)).contains y
def askR (tab : MTab) (y : Str) (cs : List Str) (bs : List (Option Bool)) : Bool := (tab.map (·.1)).contains y && (List.zip cs bs).all fun q => match q.2 with
  | some b => (match tab.find? (fun z => z.1 == q.1) with
    | some z => z.2.1.contains y == b
    | none => false)
  | none => true
def askT (tab : MTab) (T : String) (cs : List Str) (bs : List (Option Bool)) : Bool := PySem.W.kitMeta T && (List.zip cs bs).all fun q => match q.2 with
  | some b => (match tab.find? (fun z => z.1 == q.1) with
    | some z => z.2.2.contains T == b
    | none => false)
  | none => true
theorem kitR_of {tab : MTab} {y : Str} {cs : List Str} {bs : List (Option Bool)} (hm : fMros tab K = true) (hr : fRise (tab.map (·.1)) K = true) (ho : tabOk tab = true) (h : askR tab y cs bs = true) : fKit (fun K => .ref (He.ga K y)) cs bs K = true := by
  unfold askR at h
  obtain ⟨h0, h⟩ := He.ba h
  refine List.all_eq_true.mpr fun q hq => ?_
  have := List.all_eq_true.mp h q hq
  obtain ⟨x, o⟩ := q
  cases o with
  | none => rfl
  | some b =>
    simp only at this ⊢
    split at this
    · rename_i z hz
      have hz1 := List.mem_of_find?_eq_some hz
      have hz2 : z.1 = x := by simpa using List.find?_some hz
      have hy : y ∈ tab.map (·.1) := List.mem_of_elem_eq_true h0
      obtain ⟨p, hp, ep⟩ := List.mem_map.mp hy
      have o1 := List.all_eq_true.mp ho z hz1
      obtain ⟨o2, o3⟩ := He.ba o1
      have k := kit_ref (q := z) (p := p) hm hr hz1 hp (List.mem_map.mpr ⟨p, hp, rfl⟩) (fun w hw => List.mem_of_elem_eq_true (List.all_eq_true.mp o3 w hw)) (List.mem_of_elem_eq_true o2)
      have ep1 : p.1 = y := ep
      rw [hz2, ep1, beq_iff_eq.mp this] at k
      exact decide_eq_true k
    · cases this
theorem kitT_of {tab : MTab} {T : String} {cs : List Str} {bs : List (Option Bool)} (hm : fMros tab K = true) (ho : tabOk tab = true) (h : askT tab T cs bs = true) : fKit (fun _ => .type T) cs bs K = true := by
  unfold askT at h
  obtain ⟨h0, h⟩ := He.ba h
  refine List.all_eq_true.mpr fun q hq => ?_
  have := List.all_eq_true.mp h q hq
  obtain ⟨x, o⟩ := q
  cases o with
  | none => rfl
  | some b =>
    simp only at this ⊢
    split at this
    · rename_i z hz
      have hz1 := List.mem_of_find?_eq_some hz
      have hz2 : z.1 = x := by simpa using List.find?_some hz
      have o1 := List.all_eq_true.mp ho z hz1
      obtain ⟨o2, o3⟩ := He.ba o1
      have k := kit_type (q := z) (T := T) hm hz1 (List.mem_of_elem_eq_true o2) h0
      rw [hz2, beq_iff_eq.mp this] at k
      exact decide_eq_true k
    · cases this
/-- of the facts of a def's field: the one row for all -/
theorem noats_of {f : Str} : ∀ {cs : List Str} {bs : List (Option Nat)}, (∀ q ∈ List.zip cs bs, q.2.isNone = false → fNoat q.1 f K = true) → fNoats f cs bs K = true := fun h => List.all_eq_true.mpr fun q hq => by
  cases e : q.2.isNone with
  | true => rfl
  | false => simpa using h q hq e
end
/-! ### the Hook at given addresses -/
def rngA : Nat → Nat → List Addr
  | 0, _ => []
  | k + 1, a => a :: rngA k (a + 1)
def obsLG (as : List Addr) (oks : List Fct) (fn : List He5.DefA) (tf : List He.Defn) (g : Addr → Option Obj) : AlY := (obsZ oks fn (He.frT g as), He.tabsB g tf (He.frT g as))
theorem saysL_of {as : List Addr} {oks : List Fct} {fn : List He5.DefA} {tf : List He.Defn} {h : Heap} (e : obsLG as oks fn tf h.get? = (He5.valA fn, true)) : SaysY oks fn tf h (He.frT h.get? as) := by
  have t : He.tabsB h.get? tf (He.frT h.get? as) = true := congrArg (fun z : AlY => z.2) e
  have each : ∀ q ∈ tf, PySem.W.codeHdIn (He.frT h.get? as) (He.cT (He.frT h.get? as) q).1 (He.cT (He.frT h.get? as) q).2 = true ∧ ∃ o, h.get? (He.cT (He.frT h.get? as) q).2 = some o ∧ He.emptyTab o = true := fun q hq => by
    obtain ⟨t1, t2⟩ := He.ba (List.all_eq_true.mp t q hq)
    refine ⟨t1, ?_⟩
    cases z : h.get? (He.cT (He.frT h.get? as) q).2 with
    | none => rw [z] at t2; cases t2
    | some o => rw [z] at t2; exact ⟨o, rfl, t2⟩
  refine ⟨congrArg (fun z : AlY => z.1) e, fun q hq => (each q hq).1, fun q hq => ?_, fun q hq => ?_⟩
  · obtain ⟨_, o, z1, z2⟩ := each q hq
    exact He.frT_none z1 z2
  · obtain ⟨_, o, z1, z2⟩ := each q hq
    rw [z1, He.emptyTab_eq z2]
def hookL (as : List Addr) (oks : List Fct) (fn : List He5.DefA) (tf : List He.Defn) : PySem.W.Hook where
  α := AlY
  obs := fun s => obsLG as oks fn tf s.heap.get?
  val := fun _ => (He5.valA fn, true)
  says := fun _ h => ∃ K : PySem.W.Frag, K.In h ∧ SaysY oks fn tf h K
  of := fun _ _ e => ⟨_, He.frT_in, saysL_of e⟩
  keeps := fun _ _ _ ⟨K, hK, c⟩ k => ⟨K, PySem.W.Frag.In.keeps hK k, ⟨c.z, c.hd, c.out, fun q hq => k _ _ (c.em q hq)⟩⟩
theorem obsLG_eq {as : List Addr} {oks : List Fct} {fn : List He5.DefA} {tf : List He.Defn} {g : Addr → Option Obj} {s : Shared} (h : ∀ a, g a = s.heap.get? a) : obsLG as oks fn tf g = (hookL as oks fn tf).obs s := by
  have e : g = s.heap.get? := funext h
  rw [e] <;> rfl
/-! ### the run in parts -/
/-- a part of the facts at the end of the top -/
def EndIs (r : PySem.W.OpenRow) (as : List Addr) (M : Nat) (oks : List Fct) (w : World) : Prop := ∀ os : OsState, (HandSHeadRun.endF (HandSHeadRun.stepQ (HandSHeadRun.denQ HandSHeadRun.tabQ) r.prog w) M r.prog w os).map (fun s => oks.all fun f => f (He.frT (HandSHeadRun.getT s) as)) = some true
theorem run_add {r : PySem.W.OpenRow} {q : Program} {as : List Addr} {M : Nat} {oks oks2 : List Fct} {fn : List He5.DefA} {tf : List He.Defn} {loose : List Str} {w : World} (h1 : HandSHeadRun.RunEq r q (hookL as oks fn tf) (fun s => obsLG as oks fn tf (HandSHeadRun.getT s)) M loose w) (h2 : EndIs r as M oks2 w) :
    HandSHeadRun.RunEq r q (hookL as (oks2 ++ oks) fn tf) (fun s => obsLG as (oks2 ++ oks) fn tf (HandSHeadRun.getT s)) M loose w := fun os => by
  have a := h1 os
  have b := h2 os
  cases e : HandSHeadRun.endF (HandSHeadRun.stepQ (HandSHeadRun.denQ HandSHeadRun.tabQ) r.prog w) M r.prog w os with
  | none => rw [e] at b; cases b
  | some s =>
    rw [e] at a b
    simp only [Option.map_some] at a b ⊢
    have a := Option.some.inj a
    have b := Option.some.inj b
    injection a with a1 a
    injection a with a2 a3
    rw [a1, a2]
    congr 3
    refine Eq.trans ?_ a3
    show obsLG as (oks2 ++ oks) fn tf _ = obsLG as oks fn tf _
    unfold obsLG obsZ
    rw [List.all_append, b, Bool.true_and]
/-- some defs at the end of the top -/
def EndFn (r : PySem.W.OpenRow) (as : List Addr) (M : Nat) (fn : List He5.DefA) (w : World) : Prop := ∀ os : OsState, (HandSHeadRun.endF (HandSHeadRun.stepQ (HandSHeadRun.denQ HandSHeadRun.tabQ) r.prog w) M r.prog w os).map (fun s => obsZ [] fn (He.frT (HandSHeadRun.getT s) as)) = some (He5.valA fn)
theorem run_fn {r : PySem.W.OpenRow} {q : Program} {as : List Addr} {M : Nat} {oks : List Fct} {fn fn2 : List He5.DefA} {tf : List He.Defn} {loose : List Str} {w : World} (h1 : HandSHeadRun.RunEq r q (hookL as oks fn tf) (fun s => obsLG as oks fn tf (HandSHeadRun.getT s)) M loose w) (h2 : EndFn r as M fn2 w) :
    HandSHeadRun.RunEq r q (hookL as oks (fn2 ++ fn) tf) (fun s => obsLG as oks (fn2 ++ fn) tf (HandSHeadRun.getT s)) M loose w := fun os => by
  have a := h1 os
  have b := h2 os
  cases e : HandSHeadRun.endF (HandSHeadRun.stepQ (HandSHeadRun.denQ HandSHeadRun.tabQ) r.prog w) M r.prog w os with
  | none => rw [e] at b; cases b
  | some s =>
    rw [e] at a b
    simp only [Option.map_some] at a b ⊢
    have a := Option.some.inj a
    have b := Option.some.inj b
    injection a with a1 a
    injection a with a2 a3
    rw [a1, a2]
    congr 3
    have b1 : (([] : List Fct).all (fun f => f (He.frT (HandSHeadRun.getT s) as)) && fn2.all fun d => d.ok (He.frT (HandSHeadRun.getT s) as)) = true := congrArg (fun z : He.AlD => z.1) b
    have b2 : (fn2.map fun d => He5.fnA (He.frT (HandSHeadRun.getT s) as) (d.at_ (He.frT (HandSHeadRun.getT s) as))) = fn2.map He5.DefA.val := congrArg (fun z : He.AlD => z.2) b
    have a4 : obsZ oks fn (He.frT (HandSHeadRun.getT s) as) = He5.valA fn := congrArg (fun z : AlY => z.1) a3
    have a5 : He.tabsB (HandSHeadRun.getT s) tf (He.frT (HandSHeadRun.getT s) as) = true := congrArg (fun z : AlY => z.2) a3
    have c1 : ((oks.all fun f => f (He.frT (HandSHeadRun.getT s) as)) && fn.all fun d => d.ok (He.frT (HandSHeadRun.getT s) as)) = true := congrArg (fun z : He.AlD => z.1) a4
    have c2 : (fn.map fun d => He5.fnA (He.frT (HandSHeadRun.getT s) as) (d.at_ (He.frT (HandSHeadRun.getT s) as))) = fn.map He5.DefA.val := congrArg (fun z : He.AlD => z.2) a4
    show obsLG as oks (fn2 ++ fn) tf _ = (He5.valA (fn2 ++ fn), true)
    unfold obsLG obsZ He5.valA
    obtain ⟨c3, c4⟩ := He.ba c1
    rw [a5, List.all_append, (He.ba b1).2, c3, c4, List.map_append, List.map_append, b2, c2]
    rfl
theorem allc {K : PySem.W.Frag} {f : Fct} {fs : List Fct} (h : f K = true) (hs : (fs.all fun f => f K) = true) : ((f :: fs).all fun f => f K) = true := by
  rw [List.all_cons, h, hs]
  rfl
theorem alln {K : PySem.W.Frag} : (([] : List Fct).all fun f => f K) = true := rfl
theorem says_of {K : PySem.W.Frag} {oks oks2 : List Fct} {fn : List He5.DefA} (c : SaysZ oks2 fn K) (h : (oks.all fun f => f K) = true) : SaysZ oks fn K := by
  unfold SaysZ obsZ at c ⊢
  rw [← c]
  have c1 : ((oks2.all fun f => f K) && fn.all fun d => d.ok K) = true := congrArg (fun z : He.AlD => z.1) c
  rw [h, (He.ba c1).1]
theorem nz {K : PySem.W.Frag} {f : Str} : fNoats f [] [] K = true := rfl
theorem no {K : PySem.W.Frag} {f x : Str} {cs : List Str} {bs : List (Option Nat)} (h : fNoats f cs bs K = true) : fNoats f (x :: cs) (none :: bs) K = true := by
  unfold fNoats at h ⊢
  rw [List.zip_cons_cons, List.all_cons, h]
  rfl
theorem nc {K : PySem.W.Frag} {f x : Str} {i : Nat} {cs : List Str} {bs : List (Option Nat)} (h1 : fNoat x f K = true) (h : fNoats f cs bs K = true) : fNoats f (x :: cs) (some i :: bs) K = true := by
  unfold fNoats at h ⊢
  rw [List.zip_cons_cons, List.all_cons, h]
  simp [h1]
end DF

set_option Elab.async false
set_option linter.all false
set_option maxRecDepth 100000
set_option maxHeartbeats 4000000
namespace LW
open PySem L2 DF
def top (i : Nat) : Stmt := PySem.Challenge.pw_stitchsizes_k14_errors_created.main.body.getD i (.Pass ⟨0, 0, 0, 0⟩)
def cls_ : List (Str × List Str) := ("InvalidName", ["value"]) :: ("InvalidNumber", ["value"]) :: ("InvalidKind", ["value"]) :: ("InvalidWord", ["value"]) :: ("InvalidCounts", ["value"]) :: ("InvalidSection", ["value"]) :: ("InvalidEdge", ["value"]) :: ("InvalidWay", ["value"]) :: ("InvalidSketch", ["value"]) :: ("InvalidPattern", ["value"]) :: ("InvalidForm", ["value"]) :: ("InvalidPoint", ["value"]) :: ("InvalidFamily", ["value"]) :: ("InvalidCommand", ["value"]) :: ("InvalidParts", ["position"]) :: ("InvalidTexts", ["position"]) :: ("InvalidRows", ["position"]) :: ("InvalidCastOn", ["position"]) :: ("InvalidSteps", ["position"]) :: ("InvalidBlock", ["position"]) :: ("InvalidStretches", ["position"]) :: ("InvalidSchedules", ["position"]) :: ("InvalidCell", ["position"]) :: ("BelowZero", ["position"]) :: ("UnknownKind", ["name"]) :: ("NoBack", ["name"]) :: ("NoMirror", ["name"]) :: ("UnknownPattern", ["name"]) :: ("NoRow", ["number"]) :: ("InvalidText", ["problem"]) :: ("InvalidLine", ["line"]) :: ("NotThrough", ["outcome"]) :: ("InvalidBook", ["problem", "name"]) :: ("NotFitting", ["section", "loops"]) :: ("TooMany", ["what", "limit"]) :: ("InvalidBooks", []) :: ("NothingToUndo", []) :: []
def nms_ : List Str := cls_.map (·.1)
def tabs_ : List Tab_ := []
def tfs_ : List He.Defn := []
def TBs (K : PySem.W.Frag) (mg : Str → Option Value) (base : Heap) : Prop := ∀ (i : Nat) (p : He.Defn), tfs_[i]? = some p → LamX.TabB base mg (He.cT K p).1 (He.cT K p).2
def kit_InvalidKind : List (Option Bool) := some false :: some false :: some true :: some false :: some false :: some false :: some false :: some false :: some false :: some false :: some false :: some false :: some false :: some false :: some false :: some false :: some false :: some false :: some false :: some false :: some false :: some false :: some false :: some false :: some false :: some false :: some false :: some false :: some false :: some false :: some false :: some false :: some false :: some false :: some false :: some false :: some false :: []
def xcs_ : List Bool := true :: true :: true :: true :: true :: true :: true :: true :: true :: true :: true :: true :: true :: true :: true :: true :: true :: true :: true :: true :: true :: true :: true :: true :: true :: true :: true :: true :: true :: true :: true :: true :: true :: true :: true :: true :: true :: []
def kit_InvalidNumber : List (Option Bool) := some false :: some true :: some false :: some false :: some false :: some false :: some false :: some false :: some false :: some false :: some false :: some false :: some false :: some false :: some false :: some false :: some false :: some false :: some false :: some false :: some false :: some false :: some false :: some false :: some false :: some false :: some false :: some false :: some false :: some false :: some false :: some false :: some false :: some false :: some false :: some false :: some false :: []
def kit_InvalidName : List (Option Bool) := some true :: some false :: some false :: some false :: some false :: some false :: some false :: some false :: some false :: some false :: some false :: some false :: some false :: some false :: some false :: some false :: some false :: some false :: some false :: some false :: some false :: some false :: some false :: some false :: some false :: some false :: some false :: some false :: some false :: some false :: some false :: some false :: some false :: some false :: some false :: some false :: some false :: []
def kit_InvalidSection : List (Option Bool) := some false :: some false :: some false :: some false :: some false :: some true :: some false :: some false :: some false :: some false :: some false :: some false :: some false :: some false :: some false :: some false :: some false :: some false :: some false :: some false :: some false :: some false :: some false :: some false :: some false :: some false :: some false :: some false :: some false :: some false :: some false :: some false :: some false :: some false :: some false :: some false :: some false :: []
def kit_InvalidCounts : List (Option Bool) := some false :: some false :: some false :: some false :: some true :: some false :: some false :: some false :: some false :: some false :: some false :: some false :: some false :: some false :: some false :: some false :: some false :: some false :: some false :: some false :: some false :: some false :: some false :: some false :: some false :: some false :: some false :: some false :: some false :: some false :: some false :: some false :: some false :: some false :: some false :: some false :: some false :: []
def kit_InvalidWord : List (Option Bool) := some false :: some false :: some false :: some true :: some false :: some false :: some false :: some false :: some false :: some false :: some false :: some false :: some false :: some false :: some false :: some false :: some false :: some false :: some false :: some false :: some false :: some false :: some false :: some false :: some false :: some false :: some false :: some false :: some false :: some false :: some false :: some false :: some false :: some false :: some false :: some false :: some false :: []
def kit_InvalidSketch : List (Option Bool) := some false :: some false :: some false :: some false :: some false :: some false :: some false :: some false :: some true :: some false :: some false :: some false :: some false :: some false :: some false :: some false :: some false :: some false :: some false :: some false :: some false :: some false :: some false :: some false :: some false :: some false :: some false :: some false :: some false :: some false :: some false :: some false :: some false :: some false :: some false :: some false :: some false :: []
def kit_InvalidWay : List (Option Bool) := some false :: some false :: some false :: some false :: some false :: some false :: some false :: some true :: some false :: some false :: some false :: some false :: some false :: some false :: some false :: some false :: some false :: some false :: some false :: some false :: some false :: some false :: some false :: some false :: some false :: some false :: some false :: some false :: some false :: some false :: some false :: some false :: some false :: some false :: some false :: some false :: some false :: []
def kit_InvalidEdge : List (Option Bool) := some false :: some false :: some false :: some false :: some false :: some false :: some true :: some false :: some false :: some false :: some false :: some false :: some false :: some false :: some false :: some false :: some false :: some false :: some false :: some false :: some false :: some false :: some false :: some false :: some false :: some false :: some false :: some false :: some false :: some false :: some false :: some false :: some false :: some false :: some false :: some false :: some false :: []
def kit_InvalidPoint : List (Option Bool) := some false :: some false :: some false :: some false :: some false :: some false :: some false :: some false :: some false :: some false :: some false :: some true :: some false :: some false :: some false :: some false :: some false :: some false :: some false :: some false :: some false :: some false :: some false :: some false :: some false :: some false :: some false :: some false :: some false :: some false :: some false :: some false :: some false :: some false :: some false :: some false :: some false :: []
def kit_InvalidForm : List (Option Bool) := some false :: some false :: some false :: some false :: some false :: some false :: some false :: some false :: some false :: some false :: some true :: some false :: some false :: some false :: some false :: some false :: some false :: some false :: some false :: some false :: some false :: some false :: some false :: some false :: some false :: some false :: some false :: some false :: some false :: some false :: some false :: some false :: some false :: some false :: some false :: some false :: some false :: []
def kit_InvalidPattern : List (Option Bool) := some false :: some false :: some false :: some false :: some false :: some false :: some false :: some false :: some false :: some true :: some false :: some false :: some false :: some false :: some false :: some false :: some false :: some false :: some false :: some false :: some false :: some false :: some false :: some false :: some false :: some false :: some false :: some false :: some false :: some false :: some false :: some false :: some false :: some false :: some false :: some false :: some false :: []
def kit_InvalidCommand : List (Option Bool) := some false :: some false :: some false :: some false :: some false :: some false :: some false :: some false :: some false :: some false :: some false :: some false :: some false :: some true :: some false :: some false :: some false :: some false :: some false :: some false :: some false :: some false :: some false :: some false :: some false :: some false :: some false :: some false :: some false :: some false :: some false :: some false :: some false :: some false :: some false :: some false :: some false :: []
def kit_InvalidFamily : List (Option Bool) := some false :: some false :: some false :: some false :: some false :: some false :: some false :: some false :: some false :: some false :: some false :: some false :: some true :: some false :: some false :: some false :: some false :: some false :: some false :: some false :: some false :: some false :: some false :: some false :: some false :: some false :: some false :: some false :: some false :: some false :: some false :: some false :: some false :: some false :: some false :: some false :: some false :: []
def kit_InvalidRows : List (Option Bool) := some false :: some false :: some false :: some false :: some false :: some false :: some false :: some false :: some false :: some false :: some false :: some false :: some false :: some false :: some false :: some false :: some true :: some false :: some false :: some false :: some false :: some false :: some false :: some false :: some false :: some false :: some false :: some false :: some false :: some false :: some false :: some false :: some false :: some false :: some false :: some false :: some false :: []
def kit_InvalidTexts : List (Option Bool) := some false :: some false :: some false :: some false :: some false :: some false :: some false :: some false :: some false :: some false :: some false :: some false :: some false :: some false :: some false :: some true :: some false :: some false :: some false :: some false :: some false :: some false :: some false :: some false :: some false :: some false :: some false :: some false :: some false :: some false :: some false :: some false :: some false :: some false :: some false :: some false :: some false :: []
def kit_InvalidParts : List (Option Bool) := some false :: some false :: some false :: some false :: some false :: some false :: some false :: some false :: some false :: some false :: some false :: some false :: some false :: some false :: some true :: some false :: some false :: some false :: some false :: some false :: some false :: some false :: some false :: some false :: some false :: some false :: some false :: some false :: some false :: some false :: some false :: some false :: some false :: some false :: some false :: some false :: some false :: []
def kit_InvalidBlock : List (Option Bool) := some false :: some false :: some false :: some false :: some false :: some false :: some false :: some false :: some false :: some false :: some false :: some false :: some false :: some false :: some false :: some false :: some false :: some false :: some false :: some true :: some false :: some false :: some false :: some false :: some false :: some false :: some false :: some false :: some false :: some false :: some false :: some false :: some false :: some false :: some false :: some false :: some false :: []
def kit_InvalidSteps : List (Option Bool) := some false :: some false :: some false :: some false :: some false :: some false :: some false :: some false :: some false :: some false :: some false :: some false :: some false :: some false :: some false :: some false :: some false :: some false :: some true :: some false :: some false :: some false :: some false :: some false :: some false :: some false :: some false :: some false :: some false :: some false :: some false :: some false :: some false :: some false :: some false :: some false :: some false :: []
def kit_InvalidCastOn : List (Option Bool) := some false :: some false :: some false :: some false :: some false :: some false :: some false :: some false :: some false :: some false :: some false :: some false :: some false :: some false :: some false :: some false :: some false :: some true :: some false :: some false :: some false :: some false :: some false :: some false :: some false :: some false :: some false :: some false :: some false :: some false :: some false :: some false :: some false :: some false :: some false :: some false :: some false :: []
def kit_InvalidSchedules : List (Option Bool) := some false :: some false :: some false :: some false :: some false :: some false :: some false :: some false :: some false :: some false :: some false :: some false :: some false :: some false :: some false :: some false :: some false :: some false :: some false :: some false :: some false :: some true :: some false :: some false :: some false :: some false :: some false :: some false :: some false :: some false :: some false :: some false :: some false :: some false :: some false :: some false :: some false :: []
def kit_InvalidStretches : List (Option Bool) := some false :: some false :: some false :: some false :: some false :: some false :: some false :: some false :: some false :: some false :: some false :: some false :: some false :: some false :: some false :: some false :: some false :: some false :: some false :: some false :: some true :: some false :: some false :: some false :: some false :: some false :: some false :: some false :: some false :: some false :: some false :: some false :: some false :: some false :: some false :: some false :: some false :: []
def kit_BelowZero : List (Option Bool) := some false :: some false :: some false :: some false :: some false :: some false :: some false :: some false :: some false :: some false :: some false :: some false :: some false :: some false :: some false :: some false :: some false :: some false :: some false :: some false :: some false :: some false :: some false :: some true :: some false :: some false :: some false :: some false :: some false :: some false :: some false :: some false :: some false :: some false :: some false :: some false :: some false :: []
def kit_InvalidCell : List (Option Bool) := some false :: some false :: some false :: some false :: some false :: some false :: some false :: some false :: some false :: some false :: some false :: some false :: some false :: some false :: some false :: some false :: some false :: some false :: some false :: some false :: some false :: some false :: some true :: some false :: some false :: some false :: some false :: some false :: some false :: some false :: some false :: some false :: some false :: some false :: some false :: some false :: some false :: []
def kit_NoMirror : List (Option Bool) := some false :: some false :: some false :: some false :: some false :: some false :: some false :: some false :: some false :: some false :: some false :: some false :: some false :: some false :: some false :: some false :: some false :: some false :: some false :: some false :: some false :: some false :: some false :: some false :: some false :: some false :: some true :: some false :: some false :: some false :: some false :: some false :: some false :: some false :: some false :: some false :: some false :: []
def kit_NoBack : List (Option Bool) := some false :: some false :: some false :: some false :: some false :: some false :: some false :: some false :: some false :: some false :: some false :: some false :: some false :: some false :: some false :: some false :: some false :: some false :: some false :: some false :: some false :: some false :: some false :: some false :: some false :: some true :: some false :: some false :: some false :: some false :: some false :: some false :: some false :: some false :: some false :: some false :: some false :: []
def kit_UnknownKind : List (Option Bool) := some false :: some false :: some false :: some false :: some false :: some false :: some false :: some false :: some false :: some false :: some false :: some false :: some false :: some false :: some false :: some false :: some false :: some false :: some false :: some false :: some false :: some false :: some false :: some false :: some true :: some false :: some false :: some false :: some false :: some false :: some false :: some false :: some false :: some false :: some false :: some false :: some false :: []
def kit_UnknownPattern : List (Option Bool) := some false :: some false :: some false :: some false :: some false :: some false :: some false :: some false :: some false :: some false :: some false :: some false :: some false :: some false :: some false :: some false :: some false :: some false :: some false :: some false :: some false :: some false :: some false :: some false :: some false :: some false :: some false :: some true :: some false :: some false :: some false :: some false :: some false :: some false :: some false :: some false :: some false :: []
def kit_InvalidLine : List (Option Bool) := some false :: some false :: some false :: some false :: some false :: some false :: some false :: some false :: some false :: some false :: some false :: some false :: some false :: some false :: some false :: some false :: some false :: some false :: some false :: some false :: some false :: some false :: some false :: some false :: some false :: some false :: some false :: some false :: some false :: some false :: some true :: some false :: some false :: some false :: some false :: some false :: some false :: []
def kit_InvalidText : List (Option Bool) := some false :: some false :: some false :: some false :: some false :: some false :: some false :: some false :: some false :: some false :: some false :: some false :: some false :: some false :: some false :: some false :: some false :: some false :: some false :: some false :: some false :: some false :: some false :: some false :: some false :: some false :: some false :: some false :: some false :: some true :: some false :: some false :: some false :: some false :: some false :: some false :: some false :: []
def kit_NoRow : List (Option Bool) := some false :: some false :: some false :: some false :: some false :: some false :: some false :: some false :: some false :: some false :: some false :: some false :: some false :: some false :: some false :: some false :: some false :: some false :: some false :: some false :: some false :: some false :: some false :: some false :: some false :: some false :: some false :: some false :: some true :: some false :: some false :: some false :: some false :: some false :: some false :: some false :: some false :: []
def kit_NotFitting : List (Option Bool) := some false :: some false :: some false :: some false :: some false :: some false :: some false :: some false :: some false :: some false :: some false :: some false :: some false :: some false :: some false :: some false :: some false :: some false :: some false :: some false :: some false :: some false :: some false :: some false :: some false :: some false :: some false :: some false :: some false :: some false :: some false :: some false :: some false :: some true :: some false :: some false :: some false :: []
def kit_InvalidBook : List (Option Bool) := some false :: some false :: some false :: some false :: some false :: some false :: some false :: some false :: some false :: some false :: some false :: some false :: some false :: some false :: some false :: some false :: some false :: some false :: some false :: some false :: some false :: some false :: some false :: some false :: some false :: some false :: some false :: some false :: some false :: some false :: some false :: some false :: some true :: some false :: some false :: some false :: some false :: []
def kit_NotThrough : List (Option Bool) := some false :: some false :: some false :: some false :: some false :: some false :: some false :: some false :: some false :: some false :: some false :: some false :: some false :: some false :: some false :: some false :: some false :: some false :: some false :: some false :: some false :: some false :: some false :: some false :: some false :: some false :: some false :: some false :: some false :: some false :: some false :: some true :: some false :: some false :: some false :: some false :: some false :: []
def kit_NothingToUndo : List (Option Bool) := some false :: some false :: some false :: some false :: some false :: some false :: some false :: some false :: some false :: some false :: some false :: some false :: some false :: some false :: some false :: some false :: some false :: some false :: some false :: some false :: some false :: some false :: some false :: some false :: some false :: some false :: some false :: some false :: some false :: some false :: some false :: some false :: some false :: some false :: some false :: some false :: some true :: []
def kit_InvalidBooks : List (Option Bool) := some false :: some false :: some false :: some false :: some false :: some false :: some false :: some false :: some false :: some false :: some false :: some false :: some false :: some false :: some false :: some false :: some false :: some false :: some false :: some false :: some false :: some false :: some false :: some false :: some false :: some false :: some false :: some false :: some false :: some false :: some false :: some false :: some false :: some false :: some false :: some true :: some false :: []
def kit_TooMany : List (Option Bool) := some false :: some false :: some false :: some false :: some false :: some false :: some false :: some false :: some false :: some false :: some false :: some false :: some false :: some false :: some false :: some false :: some false :: some false :: some false :: some false :: some false :: some false :: some false :: some false :: some false :: some false :: some false :: some false :: some false :: some false :: some false :: some false :: some false :: some false :: some true :: some false :: some false :: []
def kit_StateError : List (Option Bool) := some false :: some false :: some false :: some false :: some false :: some false :: some false :: some false :: some false :: some false :: some false :: some false :: some false :: some false :: some false :: some false :: some false :: some false :: some false :: some false :: some false :: some false :: some false :: some true :: some false :: some false :: some false :: some false :: some false :: some false :: some false :: some true :: some false :: some true :: some false :: some false :: some true :: []
def kit_MissingError : List (Option Bool) := some false :: some false :: some false :: some false :: some false :: some false :: some false :: some false :: some false :: some false :: some false :: some false :: some false :: some false :: some false :: some false :: some false :: some false :: some false :: some false :: some false :: some false :: some false :: some false :: some true :: some true :: some true :: some true :: some true :: some false :: some false :: some false :: some false :: some false :: some false :: some false :: some false :: []
def kit_StitchError : List (Option Bool) := some true :: some true :: some true :: some true :: some true :: some true :: some true :: some true :: some true :: some true :: some true :: some true :: some true :: some true :: some true :: some true :: some true :: some true :: some true :: some true :: some true :: some true :: some true :: some false :: some false :: some false :: some false :: some false :: some false :: some true :: some true :: some false :: some true :: some false :: some false :: some true :: some false :: []
def kit_LookupError : List (Option Bool) := some false :: some false :: some false :: some false :: some false :: some false :: some false :: some false :: some false :: some false :: some false :: some false :: some false :: some false :: some false :: some false :: some false :: some false :: some false :: some false :: some false :: some false :: some false :: some false :: some true :: some true :: some true :: some true :: some true :: some false :: some false :: some false :: some false :: some false :: some false :: some false :: some false :: []
def kit_ValueError : List (Option Bool) := some true :: some true :: some true :: some true :: some true :: some true :: some true :: some true :: some true :: some true :: some true :: some true :: some true :: some true :: some true :: some true :: some true :: some true :: some true :: some true :: some true :: some true :: some true :: some false :: some false :: some false :: some false :: some false :: some false :: some true :: some true :: some false :: some true :: some false :: some false :: some true :: some false :: []
def kit_LimitError : List (Option Bool) := some false :: some false :: some false :: some false :: some false :: some false :: some false :: some false :: some false :: some false :: some false :: some false :: some false :: some false :: some false :: some false :: some false :: some false :: some false :: some false :: some false :: some false :: some false :: some false :: some false :: some false :: some false :: some false :: some false :: some false :: some false :: some false :: some false :: some false :: some true :: some false :: some false :: []
def kit_ArithmeticError : List (Option Bool) := some false :: some false :: some false :: some false :: some false :: some false :: some false :: some false :: some false :: some false :: some false :: some false :: some false :: some false :: some false :: some false :: some false :: some false :: some false :: some false :: some false :: some false :: some false :: some false :: some false :: some false :: some false :: some false :: some false :: some false :: some false :: some false :: some false :: some false :: some true :: some false :: some false :: []
def kit_RuntimeError : List (Option Bool) := some false :: some false :: some false :: some false :: some false :: some false :: some false :: some false :: some false :: some false :: some false :: some false :: some false :: some false :: some false :: some false :: some false :: some false :: some false :: some false :: some false :: some false :: some false :: some true :: some false :: some false :: some false :: some false :: some false :: some false :: some false :: some true :: some false :: some true :: some false :: some false :: some true :: []
def exm_StitchError_InvalidBook : List (Option Bool) := none :: none :: none :: none :: none :: none :: none :: none :: none :: none :: none :: none :: none :: none :: none :: none :: none :: none :: none :: none :: none :: none :: none :: none :: none :: none :: none :: none :: none :: none :: none :: none :: some true :: none :: none :: none :: none :: []
def exm_MissingError_UnknownPattern : List (Option Bool) := none :: none :: none :: none :: none :: none :: none :: none :: none :: none :: none :: none :: none :: none :: none :: none :: none :: none :: none :: none :: none :: none :: none :: none :: none :: none :: none :: some true :: none :: none :: none :: none :: none :: none :: none :: none :: none :: []
def exm_StateError_NotFitting : List (Option Bool) := none :: none :: none :: none :: none :: none :: none :: none :: none :: none :: none :: none :: none :: none :: none :: none :: none :: none :: none :: none :: none :: none :: none :: none :: none :: none :: none :: none :: none :: none :: none :: none :: none :: some true :: none :: none :: none :: []
def exm_LimitError_TooMany : List (Option Bool) := none :: none :: none :: none :: none :: none :: none :: none :: none :: none :: none :: none :: none :: none :: none :: none :: none :: none :: none :: none :: none :: none :: none :: none :: none :: none :: none :: none :: none :: none :: none :: none :: none :: none :: some true :: none :: none :: []
def ix_value : List (Option Nat) := some 0 :: some 0 :: some 0 :: some 0 :: some 0 :: some 0 :: some 0 :: some 0 :: some 0 :: some 0 :: some 0 :: some 0 :: some 0 :: some 0 :: none :: none :: none :: none :: none :: none :: none :: none :: none :: none :: none :: none :: none :: none :: none :: none :: none :: none :: none :: none :: none :: none :: none :: []
def ix_position : List (Option Nat) := none :: none :: none :: none :: none :: none :: none :: none :: none :: none :: none :: none :: none :: none :: some 0 :: some 0 :: some 0 :: some 0 :: some 0 :: some 0 :: some 0 :: some 0 :: some 0 :: some 0 :: none :: none :: none :: none :: none :: none :: none :: none :: none :: none :: none :: none :: none :: []
def ix_name : List (Option Nat) := none :: none :: none :: none :: none :: none :: none :: none :: none :: none :: none :: none :: none :: none :: none :: none :: none :: none :: none :: none :: none :: none :: none :: none :: some 0 :: some 0 :: some 0 :: some 0 :: none :: none :: none :: none :: some 1 :: none :: none :: none :: none :: []
def ix_problem : List (Option Nat) := none :: none :: none :: none :: none :: none :: none :: none :: none :: none :: none :: none :: none :: none :: none :: none :: none :: none :: none :: none :: none :: none :: none :: none :: none :: none :: none :: none :: none :: some 0 :: none :: none :: some 0 :: none :: none :: none :: none :: []
def ix_number : List (Option Nat) := none :: none :: none :: none :: none :: none :: none :: none :: none :: none :: none :: none :: none :: none :: none :: none :: none :: none :: none :: none :: none :: none :: none :: none :: none :: none :: none :: none :: some 0 :: none :: none :: none :: none :: none :: none :: none :: none :: []
def ix_outcome : List (Option Nat) := none :: none :: none :: none :: none :: none :: none :: none :: none :: none :: none :: none :: none :: none :: none :: none :: none :: none :: none :: none :: none :: none :: none :: none :: none :: none :: none :: none :: none :: none :: none :: some 0 :: none :: none :: none :: none :: none :: []
def ix_line : List (Option Nat) := none :: none :: none :: none :: none :: none :: none :: none :: none :: none :: none :: none :: none :: none :: none :: none :: none :: none :: none :: none :: none :: none :: none :: none :: none :: none :: none :: none :: none :: none :: some 0 :: none :: none :: none :: none :: none :: none :: []
def ix_loops : List (Option Nat) := none :: none :: none :: none :: none :: none :: none :: none :: none :: none :: none :: none :: none :: none :: none :: none :: none :: none :: none :: none :: none :: none :: none :: none :: none :: none :: none :: none :: none :: none :: none :: none :: none :: some 1 :: none :: none :: none :: []
def ix_section : List (Option Nat) := none :: none :: none :: none :: none :: none :: none :: none :: none :: none :: none :: none :: none :: none :: none :: none :: none :: none :: none :: none :: none :: none :: none :: none :: none :: none :: none :: none :: none :: none :: none :: none :: none :: some 0 :: none :: none :: none :: []
def ix_limit : List (Option Nat) := none :: none :: none :: none :: none :: none :: none :: none :: none :: none :: none :: none :: none :: none :: none :: none :: none :: none :: none :: none :: none :: none :: none :: none :: none :: none :: none :: none :: none :: none :: none :: none :: none :: none :: some 1 :: none :: none :: []
def ix_what : List (Option Nat) := none :: none :: none :: none :: none :: none :: none :: none :: none :: none :: none :: none :: none :: none :: none :: none :: none :: none :: none :: none :: none :: none :: none :: none :: none :: none :: none :: none :: none :: none :: none :: none :: none :: none :: some 0 :: none :: none :: []
abbrev s__law_pot : Stmt := top 43
abbrev s_law : Stmt := top 56
abbrev s__law_draw : Stmt := top 44
abbrev s__law_pick : Stmt := top 45
abbrev s__law_thing : Stmt := top 46
abbrev s_InvalidTextszz_initzz : Stmt := inClass (top 9) 0
abbrev s_InvalidPartszz_initzz : Stmt := inClass (top 7) 0
abbrev s_InvalidCastOnzz_initzz : Stmt := inClass (top 15) 0
abbrev s_InvalidRowszz_initzz : Stmt := inClass (top 13) 0
abbrev s_InvalidBlockzz_initzz : Stmt := inClass (top 17) 0
abbrev s_InvalidStepszz_initzz : Stmt := inClass (top 16) 0
abbrev s_InvalidScheduleszz_initzz : Stmt := inClass (top 19) 0
abbrev s_InvalidStretcheszz_initzz : Stmt := inClass (top 18) 0
abbrev s_InvalidCellzz_initzz : Stmt := inClass (top 25) 0
abbrev s_BelowZerozz_initzz : Stmt := inClass (top 38) 0
abbrev s__law_by_position : Stmt := top 48
abbrev s_InvalidNumberzz_initzz : Stmt := inClass (top 3) 0
abbrev s_InvalidNamezz_initzz : Stmt := inClass (top 2) 0
abbrev s_InvalidWordzz_initzz : Stmt := inClass (top 6) 0
abbrev s_InvalidKindzz_initzz : Stmt := inClass (top 4) 0
abbrev s_InvalidSectionzz_initzz : Stmt := inClass (top 11) 0
abbrev s_InvalidCountszz_initzz : Stmt := inClass (top 10) 0
abbrev s_InvalidWayzz_initzz : Stmt := inClass (top 14) 0
abbrev s_InvalidEdgezz_initzz : Stmt := inClass (top 12) 0
abbrev s_InvalidPatternzz_initzz : Stmt := inClass (top 21) 0
abbrev s_InvalidSketchzz_initzz : Stmt := inClass (top 20) 0
abbrev s_InvalidPointzz_initzz : Stmt := inClass (top 24) 0
abbrev s_InvalidFormzz_initzz : Stmt := inClass (top 23) 0
abbrev s_InvalidCommandzz_initzz : Stmt := inClass (top 28) 0
abbrev s_InvalidFamilyzz_initzz : Stmt := inClass (top 26) 0
abbrev s__law_by_value : Stmt := top 47
abbrev s_InvalidTextzz_initzz : Stmt := inClass (top 8) 0
abbrev s_NoRowzz_initzz : Stmt := inClass (top 33) 0
abbrev s_NotThroughzz_initzz : Stmt := inClass (top 37) 0
abbrev s_InvalidLinezz_initzz : Stmt := inClass (top 27) 0
abbrev s_InvalidBookzz_initzz : Stmt := inClass (top 5) 0
abbrev s_NotFittingzz_initzz : Stmt := inClass (top 36) 0
abbrev s_TooManyzz_initzz : Stmt := inClass (top 41) 0
abbrev s__law_others : Stmt := top 50
abbrev s_NoBackzz_initzz : Stmt := inClass (top 31) 0
abbrev s_UnknownKindzz_initzz : Stmt := inClass (top 30) 0
abbrev s_UnknownPatternzz_initzz : Stmt := inClass (top 34) 0
abbrev s_NoMirrorzz_initzz : Stmt := inClass (top 32) 0
abbrev s__law_by_name : Stmt := top 49
abbrev s__law_marks : Stmt := top 51
abbrev s__law_base_right : Stmt := top 52
abbrev s__law_raised : Stmt := top 54
abbrev s__law_fields_right : Stmt := top 53
abbrev s__law_right : Stmt := top 55
def oks : List Fct := fFree "range" ::
  fFree "divmod" ::
  fFree "int" ::
  fGlo "_law_draw" ::
  fFree "len" ::
  fGlo "_law_pick" ::
  fGlo "_law_thing" ::
  fGlo "InvalidTexts" ::
  fOex "InvalidTexts" ::
  fNoat "InvalidTexts" "position" ::
  fMeth "InvalidTexts" "__init__" ::
  fGlo "InvalidParts" ::
  fOex "InvalidParts" ::
  fNoat "InvalidParts" "position" ::
  fMeth "InvalidParts" "__init__" ::
  fGlo "InvalidCastOn" ::
  fOex "InvalidCastOn" ::
  fNoat "InvalidCastOn" "position" ::
  fMeth "InvalidCastOn" "__init__" ::
  fGlo "InvalidRows" ::
  fOex "InvalidRows" ::
  fNoat "InvalidRows" "position" ::
  fMeth "InvalidRows" "__init__" ::
  fGlo "InvalidBlock" ::
  fOex "InvalidBlock" ::
  fNoat "InvalidBlock" "position" ::
  fMeth "InvalidBlock" "__init__" ::
  fGlo "InvalidSteps" ::
  fOex "InvalidSteps" ::
  fNoat "InvalidSteps" "position" ::
  fMeth "InvalidSteps" "__init__" ::
  fGlo "InvalidSchedules" ::
  fOex "InvalidSchedules" ::
  fNoat "InvalidSchedules" "position" ::
  fMeth "InvalidSchedules" "__init__" ::
  fGlo "InvalidStretches" ::
  fOex "InvalidStretches" ::
  fNoat "InvalidStretches" "position" ::
  fMeth "InvalidStretches" "__init__" ::
  fGlo "InvalidCell" ::
  fOex "InvalidCell" ::
  fNoat "InvalidCell" "position" ::
  fMeth "InvalidCell" "__init__" ::
  fGlo "BelowZero" ::
  fOex "BelowZero" ::
  fNoat "BelowZero" "position" ::
  fMeth "BelowZero" "__init__" ::
  fGlo "_law_by_position" ::
  fGlo "InvalidNumber" ::
  fOex "InvalidNumber" ::
  fNoat "InvalidNumber" "value" ::
  fMeth "InvalidNumber" "__init__" ::
  fGlo "InvalidName" ::
  fOex "InvalidName" ::
  fNoat "InvalidName" "value" ::
  fMeth "InvalidName" "__init__" ::
  fGlo "InvalidWord" ::
  fOex "InvalidWord" ::
  fNoat "InvalidWord" "value" ::
  fMeth "InvalidWord" "__init__" ::
  fGlo "InvalidKind" ::
  fOex "InvalidKind" ::
  fNoat "InvalidKind" "value" ::
  fMeth "InvalidKind" "__init__" ::
  fGlo "InvalidSection" ::
  fOex "InvalidSection" ::
  fNoat "InvalidSection" "value" ::
  fMeth "InvalidSection" "__init__" ::
  fGlo "InvalidCounts" ::
  fOex "InvalidCounts" ::
  fNoat "InvalidCounts" "value" ::
  fMeth "InvalidCounts" "__init__" ::
  fGlo "InvalidWay" ::
  fOex "InvalidWay" ::
  fNoat "InvalidWay" "value" ::
  fMeth "InvalidWay" "__init__" ::
  fGlo "InvalidEdge" ::
  fOex "InvalidEdge" ::
  fNoat "InvalidEdge" "value" ::
  fMeth "InvalidEdge" "__init__" ::
  fGlo "InvalidPattern" ::
  fOex "InvalidPattern" ::
  fNoat "InvalidPattern" "value" ::
  fMeth "InvalidPattern" "__init__" ::
  fGlo "InvalidSketch" ::
  fOex "InvalidSketch" ::
  fNoat "InvalidSketch" "value" ::
  fMeth "InvalidSketch" "__init__" ::
  fGlo "InvalidPoint" ::
  fOex "InvalidPoint" ::
  fNoat "InvalidPoint" "value" ::
  fMeth "InvalidPoint" "__init__" ::
  fGlo "InvalidForm" ::
  fOex "InvalidForm" ::
  fNoat "InvalidForm" "value" ::
  fMeth "InvalidForm" "__init__" ::
  fGlo "InvalidCommand" ::
  fOex "InvalidCommand" ::
  fNoat "InvalidCommand" "value" ::
  fMeth "InvalidCommand" "__init__" ::
  fGlo "InvalidFamily" ::
  fOex "InvalidFamily" ::
  fNoat "InvalidFamily" "value" ::
  fMeth "InvalidFamily" "__init__" ::
  fGlo "_law_by_value" ::
  fGlo "InvalidText" ::
  fOex "InvalidText" ::
  fNoat "InvalidText" "problem" ::
  fMeth "InvalidText" "__init__" ::
  fGlo "NoRow" ::
  fOex "NoRow" ::
  fNoat "NoRow" "number" ::
  fMeth "NoRow" "__init__" ::
  fGlo "NotThrough" ::
  fOex "NotThrough" ::
  fNoat "NotThrough" "outcome" ::
  fMeth "NotThrough" "__init__" ::
  fGlo "InvalidLine" ::
  fOex "InvalidLine" ::
  fNoat "InvalidLine" "line" ::
  fMeth "InvalidLine" "__init__" ::
  fGlo "InvalidBook" ::
  fOex "InvalidBook" ::
  fNoat "InvalidBook" "problem" ::
  fNoat "InvalidBook" "name" ::
  fMeth "InvalidBook" "__init__" ::
  fGlo "NotFitting" ::
  fOex "NotFitting" ::
  fNoat "NotFitting" "section" ::
  fNoat "NotFitting" "loops" ::
  fMeth "NotFitting" "__init__" ::
  fGlo "TooMany" ::
  fOex "TooMany" ::
  fNoat "TooMany" "what" ::
  fNoat "TooMany" "limit" ::
  fMeth "TooMany" "__init__" ::
  fGlo "NothingToUndo" ::
  fOxn "NothingToUndo" ::
  fGlo "InvalidBooks" ::
  fOxn "InvalidBooks" ::
  fGlo "_law_others" ::
  fGlo "NoBack" ::
  fOex "NoBack" ::
  fNoat "NoBack" "name" ::
  fMeth "NoBack" "__init__" ::
  fGlo "UnknownKind" ::
  fOex "UnknownKind" ::
  fNoat "UnknownKind" "name" ::
  fMeth "UnknownKind" "__init__" ::
  fGlo "UnknownPattern" ::
  fOex "UnknownPattern" ::
  fNoat "UnknownPattern" "name" ::
  fMeth "UnknownPattern" "__init__" ::
  fGlo "NoMirror" ::
  fOex "NoMirror" ::
  fNoat "NoMirror" "name" ::
  fMeth "NoMirror" "__init__" ::
  fGlo "_law_by_name" ::
  fFree "enumerate" ::
  fExcs nms_ xcs_ ::
  fKit (fun K => .ref (He.ga K "InvalidKind")) nms_ kit_InvalidKind ::
  fFree "isinstance" ::
  fKit (fun K => .ref (He.ga K "InvalidNumber")) nms_ kit_InvalidNumber ::
  fKit (fun K => .ref (He.ga K "InvalidName")) nms_ kit_InvalidName ::
  fKit (fun K => .ref (He.ga K "InvalidSection")) nms_ kit_InvalidSection ::
  fKit (fun K => .ref (He.ga K "InvalidCounts")) nms_ kit_InvalidCounts ::
  fKit (fun K => .ref (He.ga K "InvalidWord")) nms_ kit_InvalidWord ::
  fKit (fun K => .ref (He.ga K "InvalidSketch")) nms_ kit_InvalidSketch ::
  fKit (fun K => .ref (He.ga K "InvalidWay")) nms_ kit_InvalidWay ::
  fKit (fun K => .ref (He.ga K "InvalidEdge")) nms_ kit_InvalidEdge ::
  fKit (fun K => .ref (He.ga K "InvalidPoint")) nms_ kit_InvalidPoint ::
  fKit (fun K => .ref (He.ga K "InvalidForm")) nms_ kit_InvalidForm ::
  fKit (fun K => .ref (He.ga K "InvalidPattern")) nms_ kit_InvalidPattern ::
  fKit (fun K => .ref (He.ga K "InvalidCommand")) nms_ kit_InvalidCommand ::
  fKit (fun K => .ref (He.ga K "InvalidFamily")) nms_ kit_InvalidFamily ::
  fKit (fun K => .ref (He.ga K "InvalidRows")) nms_ kit_InvalidRows ::
  fKit (fun K => .ref (He.ga K "InvalidTexts")) nms_ kit_InvalidTexts ::
  fKit (fun K => .ref (He.ga K "InvalidParts")) nms_ kit_InvalidParts ::
  fKit (fun K => .ref (He.ga K "InvalidBlock")) nms_ kit_InvalidBlock ::
  fKit (fun K => .ref (He.ga K "InvalidSteps")) nms_ kit_InvalidSteps ::
  fKit (fun K => .ref (He.ga K "InvalidCastOn")) nms_ kit_InvalidCastOn ::
  fKit (fun K => .ref (He.ga K "InvalidSchedules")) nms_ kit_InvalidSchedules ::
  fKit (fun K => .ref (He.ga K "InvalidStretches")) nms_ kit_InvalidStretches ::
  fKit (fun K => .ref (He.ga K "BelowZero")) nms_ kit_BelowZero ::
  fKit (fun K => .ref (He.ga K "InvalidCell")) nms_ kit_InvalidCell ::
  fKit (fun K => .ref (He.ga K "NoMirror")) nms_ kit_NoMirror ::
  fKit (fun K => .ref (He.ga K "NoBack")) nms_ kit_NoBack ::
  fKit (fun K => .ref (He.ga K "UnknownKind")) nms_ kit_UnknownKind ::
  fKit (fun K => .ref (He.ga K "UnknownPattern")) nms_ kit_UnknownPattern ::
  fKit (fun K => .ref (He.ga K "InvalidLine")) nms_ kit_InvalidLine ::
  fKit (fun K => .ref (He.ga K "InvalidText")) nms_ kit_InvalidText ::
  fKit (fun K => .ref (He.ga K "NoRow")) nms_ kit_NoRow ::
  fKit (fun K => .ref (He.ga K "NotFitting")) nms_ kit_NotFitting ::
  fKit (fun K => .ref (He.ga K "InvalidBook")) nms_ kit_InvalidBook ::
  fKit (fun K => .ref (He.ga K "NotThrough")) nms_ kit_NotThrough ::
  fKit (fun K => .ref (He.ga K "NothingToUndo")) nms_ kit_NothingToUndo ::
  fKit (fun K => .ref (He.ga K "InvalidBooks")) nms_ kit_InvalidBooks ::
  fKit (fun K => .ref (He.ga K "TooMany")) nms_ kit_TooMany ::
  fGlo "_law_marks" ::
  fGlo "StateError" ::
  fKit (fun K => .ref (He.ga K "StateError")) nms_ kit_StateError ::
  fGlo "MissingError" ::
  fKit (fun K => .ref (He.ga K "MissingError")) nms_ kit_MissingError ::
  fGlo "StitchError" ::
  fKit (fun K => .ref (He.ga K "StitchError")) nms_ kit_StitchError ::
  fFree "LookupError" ::
  fKit (fun _ => .type "LookupError") nms_ kit_LookupError ::
  fFree "ValueError" ::
  fKit (fun _ => .type "ValueError") nms_ kit_ValueError ::
  fGlo "LimitError" ::
  fKit (fun K => .ref (He.ga K "LimitError")) nms_ kit_LimitError ::
  fFree "ArithmeticError" ::
  fKit (fun _ => .type "ArithmeticError") nms_ kit_ArithmeticError ::
  fFree "RuntimeError" ::
  fKit (fun _ => .type "RuntimeError") nms_ kit_RuntimeError ::
  fGlo "_law_base_right" ::
  fExm "StitchError" nms_ exm_StitchError_InvalidBook ::
  fExm "MissingError" nms_ exm_MissingError_UnknownPattern ::
  fExm "StateError" nms_ exm_StateError_NotFitting ::
  fExm "LimitError" nms_ exm_LimitError_TooMany ::
  fGlo "_law_raised" ::
  fNoats "value" nms_ ix_value ::
  fSys ::
  fFree "repr" ::
  fFree "all" ::
  fNoats "position" nms_ ix_position ::
  fNoats "name" nms_ ix_name ::
  fNoats "problem" nms_ ix_problem ::
  fNoats "number" nms_ ix_number ::
  fNoats "outcome" nms_ ix_outcome ::
  fNoats "line" nms_ ix_line ::
  fNoats "loops" nms_ ix_loops ::
  fNoats "section" nms_ ix_section ::
  fNoats "limit" nms_ ix_limit ::
  fNoats "what" nms_ ix_what ::
  fGlo "_law_fields_right" ::
  fGlo "_law_pot" ::
  fGlo "law" ::
  fFree "max" ::
  fFree "min" ::
  fFree "abs" ::
  fGlo "_law_right" ::
  []
def d__law_draw : He5.DefA := ⟨fun K => (He.ga K "_law_draw"), "_law_draw", "_law_draw", defArgs s__law_draw, defBody s__law_draw, defScope s__law_draw, [], []⟩
def d__law_pick : He5.DefA := ⟨fun K => (He.ga K "_law_pick"), "_law_pick", "_law_pick", defArgs s__law_pick, defBody s__law_pick, defScope s__law_pick, [], []⟩
def d__law_thing : He5.DefA := ⟨fun K => (He.ga K "_law_thing"), "_law_thing", "_law_thing", defArgs s__law_thing, defBody s__law_thing, defScope s__law_thing, [], []⟩
def d_InvalidTextszz_initzz : He5.DefA := ⟨fun K => (He.ma K (He.ga K "InvalidTexts") "__init__"), "__init__", "InvalidTexts.__init__", defArgs s_InvalidTextszz_initzz, defBody s_InvalidTextszz_initzz, defScope s_InvalidTextszz_initzz, [], []⟩
def d_InvalidPartszz_initzz : He5.DefA := ⟨fun K => (He.ma K (He.ga K "InvalidParts") "__init__"), "__init__", "InvalidParts.__init__", defArgs s_InvalidPartszz_initzz, defBody s_InvalidPartszz_initzz, defScope s_InvalidPartszz_initzz, [], []⟩
def d_InvalidCastOnzz_initzz : He5.DefA := ⟨fun K => (He.ma K (He.ga K "InvalidCastOn") "__init__"), "__init__", "InvalidCastOn.__init__", defArgs s_InvalidCastOnzz_initzz, defBody s_InvalidCastOnzz_initzz, defScope s_InvalidCastOnzz_initzz, [], []⟩
def d_InvalidRowszz_initzz : He5.DefA := ⟨fun K => (He.ma K (He.ga K "InvalidRows") "__init__"), "__init__", "InvalidRows.__init__", defArgs s_InvalidRowszz_initzz, defBody s_InvalidRowszz_initzz, defScope s_InvalidRowszz_initzz, [], []⟩
def d_InvalidBlockzz_initzz : He5.DefA := ⟨fun K => (He.ma K (He.ga K "InvalidBlock") "__init__"), "__init__", "InvalidBlock.__init__", defArgs s_InvalidBlockzz_initzz, defBody s_InvalidBlockzz_initzz, defScope s_InvalidBlockzz_initzz, [], []⟩
def d_InvalidStepszz_initzz : He5.DefA := ⟨fun K => (He.ma K (He.ga K "InvalidSteps") "__init__"), "__init__", "InvalidSteps.__init__", defArgs s_InvalidStepszz_initzz, defBody s_InvalidStepszz_initzz, defScope s_InvalidStepszz_initzz, [], []⟩
def d_InvalidScheduleszz_initzz : He5.DefA := ⟨fun K => (He.ma K (He.ga K "InvalidSchedules") "__init__"), "__init__", "InvalidSchedules.__init__", defArgs s_InvalidScheduleszz_initzz, defBody s_InvalidScheduleszz_initzz, defScope s_InvalidScheduleszz_initzz, [], []⟩
def d_InvalidStretcheszz_initzz : He5.DefA := ⟨fun K => (He.ma K (He.ga K "InvalidStretches") "__init__"), "__init__", "InvalidStretches.__init__", defArgs s_InvalidStretcheszz_initzz, defBody s_InvalidStretcheszz_initzz, defScope s_InvalidStretcheszz_initzz, [], []⟩
def d_InvalidCellzz_initzz : He5.DefA := ⟨fun K => (He.ma K (He.ga K "InvalidCell") "__init__"), "__init__", "InvalidCell.__init__", defArgs s_InvalidCellzz_initzz, defBody s_InvalidCellzz_initzz, defScope s_InvalidCellzz_initzz, [], []⟩
def d_BelowZerozz_initzz : He5.DefA := ⟨fun K => (He.ma K (He.ga K "BelowZero") "__init__"), "__init__", "BelowZero.__init__", defArgs s_BelowZerozz_initzz, defBody s_BelowZerozz_initzz, defScope s_BelowZerozz_initzz, [], []⟩
def d__law_by_position : He5.DefA := ⟨fun K => (He.ga K "_law_by_position"), "_law_by_position", "_law_by_position", defArgs s__law_by_position, defBody s__law_by_position, defScope s__law_by_position, [], []⟩
def d_InvalidNumberzz_initzz : He5.DefA := ⟨fun K => (He.ma K (He.ga K "InvalidNumber") "__init__"), "__init__", "InvalidNumber.__init__", defArgs s_InvalidNumberzz_initzz, defBody s_InvalidNumberzz_initzz, defScope s_InvalidNumberzz_initzz, [], []⟩
def d_InvalidNamezz_initzz : He5.DefA := ⟨fun K => (He.ma K (He.ga K "InvalidName") "__init__"), "__init__", "InvalidName.__init__", defArgs s_InvalidNamezz_initzz, defBody s_InvalidNamezz_initzz, defScope s_InvalidNamezz_initzz, [], []⟩
def d_InvalidWordzz_initzz : He5.DefA := ⟨fun K => (He.ma K (He.ga K "InvalidWord") "__init__"), "__init__", "InvalidWord.__init__", defArgs s_InvalidWordzz_initzz, defBody s_InvalidWordzz_initzz, defScope s_InvalidWordzz_initzz, [], []⟩
def d_InvalidKindzz_initzz : He5.DefA := ⟨fun K => (He.ma K (He.ga K "InvalidKind") "__init__"), "__init__", "InvalidKind.__init__", defArgs s_InvalidKindzz_initzz, defBody s_InvalidKindzz_initzz, defScope s_InvalidKindzz_initzz, [], []⟩
def d_InvalidSectionzz_initzz : He5.DefA := ⟨fun K => (He.ma K (He.ga K "InvalidSection") "__init__"), "__init__", "InvalidSection.__init__", defArgs s_InvalidSectionzz_initzz, defBody s_InvalidSectionzz_initzz, defScope s_InvalidSectionzz_initzz, [], []⟩
def d_InvalidCountszz_initzz : He5.DefA := ⟨fun K => (He.ma K (He.ga K "InvalidCounts") "__init__"), "__init__", "InvalidCounts.__init__", defArgs s_InvalidCountszz_initzz, defBody s_InvalidCountszz_initzz, defScope s_InvalidCountszz_initzz, [], []⟩
def d_InvalidWayzz_initzz : He5.DefA := ⟨fun K => (He.ma K (He.ga K "InvalidWay") "__init__"), "__init__", "InvalidWay.__init__", defArgs s_InvalidWayzz_initzz, defBody s_InvalidWayzz_initzz, defScope s_InvalidWayzz_initzz, [], []⟩
def d_InvalidEdgezz_initzz : He5.DefA := ⟨fun K => (He.ma K (He.ga K "InvalidEdge") "__init__"), "__init__", "InvalidEdge.__init__", defArgs s_InvalidEdgezz_initzz, defBody s_InvalidEdgezz_initzz, defScope s_InvalidEdgezz_initzz, [], []⟩
def d_InvalidPatternzz_initzz : He5.DefA := ⟨fun K => (He.ma K (He.ga K "InvalidPattern") "__init__"), "__init__", "InvalidPattern.__init__", defArgs s_InvalidPatternzz_initzz, defBody s_InvalidPatternzz_initzz, defScope s_InvalidPatternzz_initzz, [], []⟩
def d_InvalidSketchzz_initzz : He5.DefA := ⟨fun K => (He.ma K (He.ga K "InvalidSketch") "__init__"), "__init__", "InvalidSketch.__init__", defArgs s_InvalidSketchzz_initzz, defBody s_InvalidSketchzz_initzz, defScope s_InvalidSketchzz_initzz, [], []⟩
def d_InvalidPointzz_initzz : He5.DefA := ⟨fun K => (He.ma K (He.ga K "InvalidPoint") "__init__"), "__init__", "InvalidPoint.__init__", defArgs s_InvalidPointzz_initzz, defBody s_InvalidPointzz_initzz, defScope s_InvalidPointzz_initzz, [], []⟩
def d_InvalidFormzz_initzz : He5.DefA := ⟨fun K => (He.ma K (He.ga K "InvalidForm") "__init__"), "__init__", "InvalidForm.__init__", defArgs s_InvalidFormzz_initzz, defBody s_InvalidFormzz_initzz, defScope s_InvalidFormzz_initzz, [], []⟩
def d_InvalidCommandzz_initzz : He5.DefA := ⟨fun K => (He.ma K (He.ga K "InvalidCommand") "__init__"), "__init__", "InvalidCommand.__init__", defArgs s_InvalidCommandzz_initzz, defBody s_InvalidCommandzz_initzz, defScope s_InvalidCommandzz_initzz, [], []⟩
def d_InvalidFamilyzz_initzz : He5.DefA := ⟨fun K => (He.ma K (He.ga K "InvalidFamily") "__init__"), "__init__", "InvalidFamily.__init__", defArgs s_InvalidFamilyzz_initzz, defBody s_InvalidFamilyzz_initzz, defScope s_InvalidFamilyzz_initzz, [], []⟩
def d__law_by_value : He5.DefA := ⟨fun K => (He.ga K "_law_by_value"), "_law_by_value", "_law_by_value", defArgs s__law_by_value, defBody s__law_by_value, defScope s__law_by_value, [], []⟩
def d_InvalidTextzz_initzz : He5.DefA := ⟨fun K => (He.ma K (He.ga K "InvalidText") "__init__"), "__init__", "InvalidText.__init__", defArgs s_InvalidTextzz_initzz, defBody s_InvalidTextzz_initzz, defScope s_InvalidTextzz_initzz, [], []⟩
def d_NoRowzz_initzz : He5.DefA := ⟨fun K => (He.ma K (He.ga K "NoRow") "__init__"), "__init__", "NoRow.__init__", defArgs s_NoRowzz_initzz, defBody s_NoRowzz_initzz, defScope s_NoRowzz_initzz, [], []⟩
def d_NotThroughzz_initzz : He5.DefA := ⟨fun K => (He.ma K (He.ga K "NotThrough") "__init__"), "__init__", "NotThrough.__init__", defArgs s_NotThroughzz_initzz, defBody s_NotThroughzz_initzz, defScope s_NotThroughzz_initzz, [], []⟩
def d_InvalidLinezz_initzz : He5.DefA := ⟨fun K => (He.ma K (He.ga K "InvalidLine") "__init__"), "__init__", "InvalidLine.__init__", defArgs s_InvalidLinezz_initzz, defBody s_InvalidLinezz_initzz, defScope s_InvalidLinezz_initzz, [], []⟩
def d_InvalidBookzz_initzz : He5.DefA := ⟨fun K => (He.ma K (He.ga K "InvalidBook") "__init__"), "__init__", "InvalidBook.__init__", defArgs s_InvalidBookzz_initzz, defBody s_InvalidBookzz_initzz, defScope s_InvalidBookzz_initzz, [], []⟩
def d_NotFittingzz_initzz : He5.DefA := ⟨fun K => (He.ma K (He.ga K "NotFitting") "__init__"), "__init__", "NotFitting.__init__", defArgs s_NotFittingzz_initzz, defBody s_NotFittingzz_initzz, defScope s_NotFittingzz_initzz, [], []⟩
def d_TooManyzz_initzz : He5.DefA := ⟨fun K => (He.ma K (He.ga K "TooMany") "__init__"), "__init__", "TooMany.__init__", defArgs s_TooManyzz_initzz, defBody s_TooManyzz_initzz, defScope s_TooManyzz_initzz, [], []⟩
def d__law_others : He5.DefA := ⟨fun K => (He.ga K "_law_others"), "_law_others", "_law_others", defArgs s__law_others, defBody s__law_others, defScope s__law_others, [], []⟩
def d_NoBackzz_initzz : He5.DefA := ⟨fun K => (He.ma K (He.ga K "NoBack") "__init__"), "__init__", "NoBack.__init__", defArgs s_NoBackzz_initzz, defBody s_NoBackzz_initzz, defScope s_NoBackzz_initzz, [], []⟩
def d_UnknownKindzz_initzz : He5.DefA := ⟨fun K => (He.ma K (He.ga K "UnknownKind") "__init__"), "__init__", "UnknownKind.__init__", defArgs s_UnknownKindzz_initzz, defBody s_UnknownKindzz_initzz, defScope s_UnknownKindzz_initzz, [], []⟩
def d_UnknownPatternzz_initzz : He5.DefA := ⟨fun K => (He.ma K (He.ga K "UnknownPattern") "__init__"), "__init__", "UnknownPattern.__init__", defArgs s_UnknownPatternzz_initzz, defBody s_UnknownPatternzz_initzz, defScope s_UnknownPatternzz_initzz, [], []⟩
def d_NoMirrorzz_initzz : He5.DefA := ⟨fun K => (He.ma K (He.ga K "NoMirror") "__init__"), "__init__", "NoMirror.__init__", defArgs s_NoMirrorzz_initzz, defBody s_NoMirrorzz_initzz, defScope s_NoMirrorzz_initzz, [], []⟩
def d__law_by_name : He5.DefA := ⟨fun K => (He.ga K "_law_by_name"), "_law_by_name", "_law_by_name", defArgs s__law_by_name, defBody s__law_by_name, defScope s__law_by_name, [], []⟩
def d__law_marks : He5.DefA := ⟨fun K => (He.ga K "_law_marks"), "_law_marks", "_law_marks", defArgs s__law_marks, defBody s__law_marks, defScope s__law_marks, [], []⟩
def d__law_base_right : He5.DefA := ⟨fun K => (He.ga K "_law_base_right"), "_law_base_right", "_law_base_right", defArgs s__law_base_right, defBody s__law_base_right, defScope s__law_base_right, [], []⟩
def d__law_raised : He5.DefA := ⟨fun K => (He.ga K "_law_raised"), "_law_raised", "_law_raised", defArgs s__law_raised, defBody s__law_raised, defScope s__law_raised, [], []⟩
def d__law_fields_right : He5.DefA := ⟨fun K => (He.ga K "_law_fields_right"), "_law_fields_right", "_law_fields_right", defArgs s__law_fields_right, defBody s__law_fields_right, defScope s__law_fields_right, [], []⟩
def d__law_right : He5.DefA := ⟨fun K => (He.ga K "_law_right"), "_law_right", "_law_right", defArgs s__law_right, defBody s__law_right, defScope s__law_right, [], []⟩
def d__law_pot : He5.DefA := ⟨fun K => (He.ga K "_law_pot"), "_law_pot", "_law_pot", defArgs s__law_pot, defBody s__law_pot, defScope s__law_pot, [], []⟩
def d_law : He5.DefA := ⟨fun K => (He.ga K "law"), "law", "law", defArgs s_law, defBody s_law, defScope s_law, [], []⟩
def fns : List He5.DefA := [d__law_draw, d__law_pick, d__law_thing, d_InvalidTextszz_initzz, d_InvalidPartszz_initzz, d_InvalidCastOnzz_initzz, d_InvalidRowszz_initzz, d_InvalidBlockzz_initzz, d_InvalidStepszz_initzz, d_InvalidScheduleszz_initzz, d_InvalidStretcheszz_initzz, d_InvalidCellzz_initzz, d_BelowZerozz_initzz, d__law_by_position, d_InvalidNumberzz_initzz, d_InvalidNamezz_initzz, d_InvalidWordzz_initzz, d_InvalidKindzz_initzz, d_InvalidSectionzz_initzz, d_InvalidCountszz_initzz, d_InvalidWayzz_initzz, d_InvalidEdgezz_initzz, d_InvalidPatternzz_initzz, d_InvalidSketchzz_initzz, d_InvalidPointzz_initzz, d_InvalidFormzz_initzz, d_InvalidCommandzz_initzz, d_InvalidFamilyzz_initzz, d__law_by_value, d_InvalidTextzz_initzz, d_NoRowzz_initzz, d_NotThroughzz_initzz, d_InvalidLinezz_initzz, d_InvalidBookzz_initzz, d_NotFittingzz_initzz, d_TooManyzz_initzz, d__law_others, d_NoBackzz_initzz, d_UnknownKindzz_initzz, d_UnknownPatternzz_initzz, d_NoMirrorzz_initzz, d__law_by_name, d__law_marks, d__law_base_right, d__law_raised, d__law_fields_right, d__law_right, d__law_pot, d_law]
abbrev TX (K : PySem.W.Frag) (mg : Str → Option Value) : Prop := Tx oks fns K mg
section
variable {P : Program} {w : World} {K : PySem.W.Frag} {mg : Str → Option Value} {base : Heap}
theorem u__law_draw (t : TX K mg) : FunD K "_law_draw" "_law_draw" (defArgs s__law_draw) (defBody s__law_draw) (defScope s__law_draw) [] [] (He.ga K "_law_draw") (fdAt K (He.ga K "_law_draw")) := t.c.def_ 0 (d := d__law_draw) rfl
theorem u__law_pick (t : TX K mg) : FunD K "_law_pick" "_law_pick" (defArgs s__law_pick) (defBody s__law_pick) (defScope s__law_pick) [] [] (He.ga K "_law_pick") (fdAt K (He.ga K "_law_pick")) := t.c.def_ 1 (d := d__law_pick) rfl
theorem u__law_thing (t : TX K mg) : FunD K "_law_thing" "_law_thing" (defArgs s__law_thing) (defBody s__law_thing) (defScope s__law_thing) [] [] (He.ga K "_law_thing") (fdAt K (He.ga K "_law_thing")) := t.c.def_ 2 (d := d__law_thing) rfl
theorem u_InvalidTextszz_initzz (t : TX K mg) : FunD K "__init__" "InvalidTexts.__init__" (defArgs s_InvalidTextszz_initzz) (defBody s_InvalidTextszz_initzz) (defScope s_InvalidTextszz_initzz) [] [] (He.ma K (He.ga K "InvalidTexts") "__init__") (fdAt K (He.ma K (He.ga K "InvalidTexts") "__init__")) := t.c.def_ 3 (d := d_InvalidTextszz_initzz) rfl
theorem u_InvalidPartszz_initzz (t : TX K mg) : FunD K "__init__" "InvalidParts.__init__" (defArgs s_InvalidPartszz_initzz) (defBody s_InvalidPartszz_initzz) (defScope s_InvalidPartszz_initzz) [] [] (He.ma K (He.ga K "InvalidParts") "__init__") (fdAt K (He.ma K (He.ga K "InvalidParts") "__init__")) := t.c.def_ 4 (d := d_InvalidPartszz_initzz) rfl
theorem u_InvalidCastOnzz_initzz (t : TX K mg) : FunD K "__init__" "InvalidCastOn.__init__" (defArgs s_InvalidCastOnzz_initzz) (defBody s_InvalidCastOnzz_initzz) (defScope s_InvalidCastOnzz_initzz) [] [] (He.ma K (He.ga K "InvalidCastOn") "__init__") (fdAt K (He.ma K (He.ga K "InvalidCastOn") "__init__")) := t.c.def_ 5 (d := d_InvalidCastOnzz_initzz) rfl
theorem u_InvalidRowszz_initzz (t : TX K mg) : FunD K "__init__" "InvalidRows.__init__" (defArgs s_InvalidRowszz_initzz) (defBody s_InvalidRowszz_initzz) (defScope s_InvalidRowszz_initzz) [] [] (He.ma K (He.ga K "InvalidRows") "__init__") (fdAt K (He.ma K (He.ga K "InvalidRows") "__init__")) := t.c.def_ 6 (d := d_InvalidRowszz_initzz) rfl
theorem u_InvalidBlockzz_initzz (t : TX K mg) : FunD K "__init__" "InvalidBlock.__init__" (defArgs s_InvalidBlockzz_initzz) (defBody s_InvalidBlockzz_initzz) (defScope s_InvalidBlockzz_initzz) [] [] (He.ma K (He.ga K "InvalidBlock") "__init__") (fdAt K (He.ma K (He.ga K "InvalidBlock") "__init__")) := t.c.def_ 7 (d := d_InvalidBlockzz_initzz) rfl
theorem u_InvalidStepszz_initzz (t : TX K mg) : FunD K "__init__" "InvalidSteps.__init__" (defArgs s_InvalidStepszz_initzz) (defBody s_InvalidStepszz_initzz) (defScope s_InvalidStepszz_initzz) [] [] (He.ma K (He.ga K "InvalidSteps") "__init__") (fdAt K (He.ma K (He.ga K "InvalidSteps") "__init__")) := t.c.def_ 8 (d := d_InvalidStepszz_initzz) rfl
theorem u_InvalidScheduleszz_initzz (t : TX K mg) : FunD K "__init__" "InvalidSchedules.__init__" (defArgs s_InvalidScheduleszz_initzz) (defBody s_InvalidScheduleszz_initzz) (defScope s_InvalidScheduleszz_initzz) [] [] (He.ma K (He.ga K "InvalidSchedules") "__init__") (fdAt K (He.ma K (He.ga K "InvalidSchedules") "__init__")) := t.c.def_ 9 (d := d_InvalidScheduleszz_initzz) rfl
theorem u_InvalidStretcheszz_initzz (t : TX K mg) : FunD K "__init__" "InvalidStretches.__init__" (defArgs s_InvalidStretcheszz_initzz) (defBody s_InvalidStretcheszz_initzz) (defScope s_InvalidStretcheszz_initzz) [] [] (He.ma K (He.ga K "InvalidStretches") "__init__") (fdAt K (He.ma K (He.ga K "InvalidStretches") "__init__")) := t.c.def_ 10 (d := d_InvalidStretcheszz_initzz) rfl
theorem u_InvalidCellzz_initzz (t : TX K mg) : FunD K "__init__" "InvalidCell.__init__" (defArgs s_InvalidCellzz_initzz) (defBody s_InvalidCellzz_initzz) (defScope s_InvalidCellzz_initzz) [] [] (He.ma K (He.ga K "InvalidCell") "__init__") (fdAt K (He.ma K (He.ga K "InvalidCell") "__init__")) := t.c.def_ 11 (d := d_InvalidCellzz_initzz) rfl
theorem u_BelowZerozz_initzz (t : TX K mg) : FunD K "__init__" "BelowZero.__init__" (defArgs s_BelowZerozz_initzz) (defBody s_BelowZerozz_initzz) (defScope s_BelowZerozz_initzz) [] [] (He.ma K (He.ga K "BelowZero") "__init__") (fdAt K (He.ma K (He.ga K "BelowZero") "__init__")) := t.c.def_ 12 (d := d_BelowZerozz_initzz) rfl
theorem u__law_by_position (t : TX K mg) : FunD K "_law_by_position" "_law_by_position" (defArgs s__law_by_position) (defBody s__law_by_position) (defScope s__law_by_position) [] [] (He.ga K "_law_by_position") (fdAt K (He.ga K "_law_by_position")) := t.c.def_ 13 (d := d__law_by_position) rfl
theorem u_InvalidNumberzz_initzz (t : TX K mg) : FunD K "__init__" "InvalidNumber.__init__" (defArgs s_InvalidNumberzz_initzz) (defBody s_InvalidNumberzz_initzz) (defScope s_InvalidNumberzz_initzz) [] [] (He.ma K (He.ga K "InvalidNumber") "__init__") (fdAt K (He.ma K (He.ga K "InvalidNumber") "__init__")) := t.c.def_ 14 (d := d_InvalidNumberzz_initzz) rfl
theorem u_InvalidNamezz_initzz (t : TX K mg) : FunD K "__init__" "InvalidName.__init__" (defArgs s_InvalidNamezz_initzz) (defBody s_InvalidNamezz_initzz) (defScope s_InvalidNamezz_initzz) [] [] (He.ma K (He.ga K "InvalidName") "__init__") (fdAt K (He.ma K (He.ga K "InvalidName") "__init__")) := t.c.def_ 15 (d := d_InvalidNamezz_initzz) rfl
theorem u_InvalidWordzz_initzz (t : TX K mg) : FunD K "__init__" "InvalidWord.__init__" (defArgs s_InvalidWordzz_initzz) (defBody s_InvalidWordzz_initzz) (defScope s_InvalidWordzz_initzz) [] [] (He.ma K (He.ga K "InvalidWord") "__init__") (fdAt K (He.ma K (He.ga K "InvalidWord") "__init__")) := t.c.def_ 16 (d := d_InvalidWordzz_initzz) rfl
theorem u_InvalidKindzz_initzz (t : TX K mg) : FunD K "__init__" "InvalidKind.__init__" (defArgs s_InvalidKindzz_initzz) (defBody s_InvalidKindzz_initzz) (defScope s_InvalidKindzz_initzz) [] [] (He.ma K (He.ga K "InvalidKind") "__init__") (fdAt K (He.ma K (He.ga K "InvalidKind") "__init__")) := t.c.def_ 17 (d := d_InvalidKindzz_initzz) rfl
theorem u_InvalidSectionzz_initzz (t : TX K mg) : FunD K "__init__" "InvalidSection.__init__" (defArgs s_InvalidSectionzz_initzz) (defBody s_InvalidSectionzz_initzz) (defScope s_InvalidSectionzz_initzz) [] [] (He.ma K (He.ga K "InvalidSection") "__init__") (fdAt K (He.ma K (He.ga K "InvalidSection") "__init__")) := t.c.def_ 18 (d := d_InvalidSectionzz_initzz) rfl
theorem u_InvalidCountszz_initzz (t : TX K mg) : FunD K "__init__" "InvalidCounts.__init__" (defArgs s_InvalidCountszz_initzz) (defBody s_InvalidCountszz_initzz) (defScope s_InvalidCountszz_initzz) [] [] (He.ma K (He.ga K "InvalidCounts") "__init__") (fdAt K (He.ma K (He.ga K "InvalidCounts") "__init__")) := t.c.def_ 19 (d := d_InvalidCountszz_initzz) rfl
theorem u_InvalidWayzz_initzz (t : TX K mg) : FunD K "__init__" "InvalidWay.__init__" (defArgs s_InvalidWayzz_initzz) (defBody s_InvalidWayzz_initzz) (defScope s_InvalidWayzz_initzz) [] [] (He.ma K (He.ga K "InvalidWay") "__init__") (fdAt K (He.ma K (He.ga K "InvalidWay") "__init__")) := t.c.def_ 20 (d := d_InvalidWayzz_initzz) rfl
theorem u_InvalidEdgezz_initzz (t : TX K mg) : FunD K "__init__" "InvalidEdge.__init__" (defArgs s_InvalidEdgezz_initzz) (defBody s_InvalidEdgezz_initzz) (defScope s_InvalidEdgezz_initzz) [] [] (He.ma K (He.ga K "InvalidEdge") "__init__") (fdAt K (He.ma K (He.ga K "InvalidEdge") "__init__")) := t.c.def_ 21 (d := d_InvalidEdgezz_initzz) rfl
theorem u_InvalidPatternzz_initzz (t : TX K mg) : FunD K "__init__" "InvalidPattern.__init__" (defArgs s_InvalidPatternzz_initzz) (defBody s_InvalidPatternzz_initzz) (defScope s_InvalidPatternzz_initzz) [] [] (He.ma K (He.ga K "InvalidPattern") "__init__") (fdAt K (He.ma K (He.ga K "InvalidPattern") "__init__")) := t.c.def_ 22 (d := d_InvalidPatternzz_initzz) rfl
theorem u_InvalidSketchzz_initzz (t : TX K mg) : FunD K "__init__" "InvalidSketch.__init__" (defArgs s_InvalidSketchzz_initzz) (defBody s_InvalidSketchzz_initzz) (defScope s_InvalidSketchzz_initzz) [] [] (He.ma K (He.ga K "InvalidSketch") "__init__") (fdAt K (He.ma K (He.ga K "InvalidSketch") "__init__")) := t.c.def_ 23 (d := d_InvalidSketchzz_initzz) rfl
theorem u_InvalidPointzz_initzz (t : TX K mg) : FunD K "__init__" "InvalidPoint.__init__" (defArgs s_InvalidPointzz_initzz) (defBody s_InvalidPointzz_initzz) (defScope s_InvalidPointzz_initzz) [] [] (He.ma K (He.ga K "InvalidPoint") "__init__") (fdAt K (He.ma K (He.ga K "InvalidPoint") "__init__")) := t.c.def_ 24 (d := d_InvalidPointzz_initzz) rfl
theorem u_InvalidFormzz_initzz (t : TX K mg) : FunD K "__init__" "InvalidForm.__init__" (defArgs s_InvalidFormzz_initzz) (defBody s_InvalidFormzz_initzz) (defScope s_InvalidFormzz_initzz) [] [] (He.ma K (He.ga K "InvalidForm") "__init__") (fdAt K (He.ma K (He.ga K "InvalidForm") "__init__")) := t.c.def_ 25 (d := d_InvalidFormzz_initzz) rfl
theorem u_InvalidCommandzz_initzz (t : TX K mg) : FunD K "__init__" "InvalidCommand.__init__" (defArgs s_InvalidCommandzz_initzz) (defBody s_InvalidCommandzz_initzz) (defScope s_InvalidCommandzz_initzz) [] [] (He.ma K (He.ga K "InvalidCommand") "__init__") (fdAt K (He.ma K (He.ga K "InvalidCommand") "__init__")) := t.c.def_ 26 (d := d_InvalidCommandzz_initzz) rfl
theorem u_InvalidFamilyzz_initzz (t : TX K mg) : FunD K "__init__" "InvalidFamily.__init__" (defArgs s_InvalidFamilyzz_initzz) (defBody s_InvalidFamilyzz_initzz) (defScope s_InvalidFamilyzz_initzz) [] [] (He.ma K (He.ga K "InvalidFamily") "__init__") (fdAt K (He.ma K (He.ga K "InvalidFamily") "__init__")) := t.c.def_ 27 (d := d_InvalidFamilyzz_initzz) rfl
theorem u__law_by_value (t : TX K mg) : FunD K "_law_by_value" "_law_by_value" (defArgs s__law_by_value) (defBody s__law_by_value) (defScope s__law_by_value) [] [] (He.ga K "_law_by_value") (fdAt K (He.ga K "_law_by_value")) := t.c.def_ 28 (d := d__law_by_value) rfl
theorem u_InvalidTextzz_initzz (t : TX K mg) : FunD K "__init__" "InvalidText.__init__" (defArgs s_InvalidTextzz_initzz) (defBody s_InvalidTextzz_initzz) (defScope s_InvalidTextzz_initzz) [] [] (He.ma K (He.ga K "InvalidText") "__init__") (fdAt K (He.ma K (He.ga K "InvalidText") "__init__")) := t.c.def_ 29 (d := d_InvalidTextzz_initzz) rfl
theorem u_NoRowzz_initzz (t : TX K mg) : FunD K "__init__" "NoRow.__init__" (defArgs s_NoRowzz_initzz) (defBody s_NoRowzz_initzz) (defScope s_NoRowzz_initzz) [] [] (He.ma K (He.ga K "NoRow") "__init__") (fdAt K (He.ma K (He.ga K "NoRow") "__init__")) := t.c.def_ 30 (d := d_NoRowzz_initzz) rfl
theorem u_NotThroughzz_initzz (t : TX K mg) : FunD K "__init__" "NotThrough.__init__" (defArgs s_NotThroughzz_initzz) (defBody s_NotThroughzz_initzz) (defScope s_NotThroughzz_initzz) [] [] (He.ma K (He.ga K "NotThrough") "__init__") (fdAt K (He.ma K (He.ga K "NotThrough") "__init__")) := t.c.def_ 31 (d := d_NotThroughzz_initzz) rfl
theorem u_InvalidLinezz_initzz (t : TX K mg) : FunD K "__init__" "InvalidLine.__init__" (defArgs s_InvalidLinezz_initzz) (defBody s_InvalidLinezz_initzz) (defScope s_InvalidLinezz_initzz) [] [] (He.ma K (He.ga K "InvalidLine") "__init__") (fdAt K (He.ma K (He.ga K "InvalidLine") "__init__")) := t.c.def_ 32 (d := d_InvalidLinezz_initzz) rfl
theorem u_InvalidBookzz_initzz (t : TX K mg) : FunD K "__init__" "InvalidBook.__init__" (defArgs s_InvalidBookzz_initzz) (defBody s_InvalidBookzz_initzz) (defScope s_InvalidBookzz_initzz) [] [] (He.ma K (He.ga K "InvalidBook") "__init__") (fdAt K (He.ma K (He.ga K "InvalidBook") "__init__")) := t.c.def_ 33 (d := d_InvalidBookzz_initzz) rfl
theorem u_NotFittingzz_initzz (t : TX K mg) : FunD K "__init__" "NotFitting.__init__" (defArgs s_NotFittingzz_initzz) (defBody s_NotFittingzz_initzz) (defScope s_NotFittingzz_initzz) [] [] (He.ma K (He.ga K "NotFitting") "__init__") (fdAt K (He.ma K (He.ga K "NotFitting") "__init__")) := t.c.def_ 34 (d := d_NotFittingzz_initzz) rfl
theorem u_TooManyzz_initzz (t : TX K mg) : FunD K "__init__" "TooMany.__init__" (defArgs s_TooManyzz_initzz) (defBody s_TooManyzz_initzz) (defScope s_TooManyzz_initzz) [] [] (He.ma K (He.ga K "TooMany") "__init__") (fdAt K (He.ma K (He.ga K "TooMany") "__init__")) := t.c.def_ 35 (d := d_TooManyzz_initzz) rfl
theorem u__law_others (t : TX K mg) : FunD K "_law_others" "_law_others" (defArgs s__law_others) (defBody s__law_others) (defScope s__law_others) [] [] (He.ga K "_law_others") (fdAt K (He.ga K "_law_others")) := t.c.def_ 36 (d := d__law_others) rfl
theorem u_NoBackzz_initzz (t : TX K mg) : FunD K "__init__" "NoBack.__init__" (defArgs s_NoBackzz_initzz) (defBody s_NoBackzz_initzz) (defScope s_NoBackzz_initzz) [] [] (He.ma K (He.ga K "NoBack") "__init__") (fdAt K (He.ma K (He.ga K "NoBack") "__init__")) := t.c.def_ 37 (d := d_NoBackzz_initzz) rfl
theorem u_UnknownKindzz_initzz (t : TX K mg) : FunD K "__init__" "UnknownKind.__init__" (defArgs s_UnknownKindzz_initzz) (defBody s_UnknownKindzz_initzz) (defScope s_UnknownKindzz_initzz) [] [] (He.ma K (He.ga K "UnknownKind") "__init__") (fdAt K (He.ma K (He.ga K "UnknownKind") "__init__")) := t.c.def_ 38 (d := d_UnknownKindzz_initzz) rfl
theorem u_UnknownPatternzz_initzz (t : TX K mg) : FunD K "__init__" "UnknownPattern.__init__" (defArgs s_UnknownPatternzz_initzz) (defBody s_UnknownPatternzz_initzz) (defScope s_UnknownPatternzz_initzz) [] [] (He.ma K (He.ga K "UnknownPattern") "__init__") (fdAt K (He.ma K (He.ga K "UnknownPattern") "__init__")) := t.c.def_ 39 (d := d_UnknownPatternzz_initzz) rfl
theorem u_NoMirrorzz_initzz (t : TX K mg) : FunD K "__init__" "NoMirror.__init__" (defArgs s_NoMirrorzz_initzz) (defBody s_NoMirrorzz_initzz) (defScope s_NoMirrorzz_initzz) [] [] (He.ma K (He.ga K "NoMirror") "__init__") (fdAt K (He.ma K (He.ga K "NoMirror") "__init__")) := t.c.def_ 40 (d := d_NoMirrorzz_initzz) rfl
theorem u__law_by_name (t : TX K mg) : FunD K "_law_by_name" "_law_by_name" (defArgs s__law_by_name) (defBody s__law_by_name) (defScope s__law_by_name) [] [] (He.ga K "_law_by_name") (fdAt K (He.ga K "_law_by_name")) := t.c.def_ 41 (d := d__law_by_name) rfl
theorem u__law_marks (t : TX K mg) : FunD K "_law_marks" "_law_marks" (defArgs s__law_marks) (defBody s__law_marks) (defScope s__law_marks) [] [] (He.ga K "_law_marks") (fdAt K (He.ga K "_law_marks")) := t.c.def_ 42 (d := d__law_marks) rfl
theorem u__law_base_right (t : TX K mg) : FunD K "_law_base_right" "_law_base_right" (defArgs s__law_base_right) (defBody s__law_base_right) (defScope s__law_base_right) [] [] (He.ga K "_law_base_right") (fdAt K (He.ga K "_law_base_right")) := t.c.def_ 43 (d := d__law_base_right) rfl
theorem u__law_raised (t : TX K mg) : FunD K "_law_raised" "_law_raised" (defArgs s__law_raised) (defBody s__law_raised) (defScope s__law_raised) [] [] (He.ga K "_law_raised") (fdAt K (He.ga K "_law_raised")) := t.c.def_ 44 (d := d__law_raised) rfl
theorem u__law_fields_right (t : TX K mg) : FunD K "_law_fields_right" "_law_fields_right" (defArgs s__law_fields_right) (defBody s__law_fields_right) (defScope s__law_fields_right) [] [] (He.ga K "_law_fields_right") (fdAt K (He.ga K "_law_fields_right")) := t.c.def_ 45 (d := d__law_fields_right) rfl
theorem u__law_right (t : TX K mg) : FunD K "_law_right" "_law_right" (defArgs s__law_right) (defBody s__law_right) (defScope s__law_right) [] [] (He.ga K "_law_right") (fdAt K (He.ga K "_law_right")) := t.c.def_ 46 (d := d__law_right) rfl
theorem u__law_pot (t : TX K mg) : FunD K "_law_pot" "_law_pot" (defArgs s__law_pot) (defBody s__law_pot) (defScope s__law_pot) [] [] (He.ga K "_law_pot") (fdAt K (He.ga K "_law_pot")) := t.c.def_ 47 (d := d__law_pot) rfl
theorem u_law (t : TX K mg) : FunD K "law" "law" (defArgs s_law) (defBody s_law) (defScope s_law) [] [] (He.ga K "law") (fdAt K (He.ga K "law")) := t.c.def_ 48 (d := d_law) rfl
theorem b__law_draw (t : TX K mg) : Binds K (fdAt K (He.ga K "_law_draw")) ["_law_pot_here", "_law_many"] [] := FunD.bindsN (u__law_draw t) fun _ _ _ _ _ _ us hl => match us, hl with | [_, _], _ => rfl
theorem sc__law_draw : FnScope ["_law_pot_here", "_law_many", "_law_digit"] ["_law_pot_here", "_law_many"] (defScope s__law_draw) := ⟨rfl, rfl, rfl, by decide +kernel, rfl, by decide +kernel, by decide +kernel⟩
def g__law_draw : Slots → M Out := (seqS (ifS (testE (binE (pu iGt) (binE ixM (bvarE 0) (cE (.int 0))) (cE (.int 0)))) (seqS (potS2 0 2 (bltE dmF (consA (binE ixM (bvarE 0) (cE (.int 0))) (consA (bvarE 1) nilA))))
  (retS (varE 2))) nilS)
  (seqS (potS 0 (binE (pu iMod) (bltE (pu1 intF) (consA (binE addU (binE (pu iMul) (binE ixM (bvarE 0) (cE (.int 1))) (cE (.int 44203))) (cE (.int 15511))) nilA)) (cE (.int 2147483587))))
  (retS (binE (pu iMod) (bltE (pu1 intF) (consA (binE (pu iDiv) (binE (pu iMod) (bltE (pu1 intF) (consA (binE (pu iMul) (binE ixM (bvarE 0) (cE (.int 1))) (binE ixM (bvarE 0) (cE (.int 1)))) nilA)) (cE (.int 2147483549))) (cE (.int 11))) nilA)) (bvarE 1)))))
def m__law_draw : List D → M D := fnM 3 g__law_draw
theorem ok__law_draw (t : TX K mg) : FnG False P w K mg base (L2.CX P w) 1 (He.ga K "_law_draw") (fdAt K (He.ga K "_law_draw")) ["_law_pot_here", "_law_many"] (spF K (tbOf cls_ tabs_ K) 2 m__law_draw) :=
  fnD (st := s__law_draw) (N := ["_law_pot_here", "_law_many", "_law_digit"]) (ps := ["_law_pot_here", "_law_many"]) (k := 0) (g := g__law_draw) (u__law_draw t) sc__law_draw (by decide) fun cdv hcv A outer s H E p S hr =>
  (dss_cons (ds_if (dt_cmp od_iGt (db_of (de_ix (db_var 0) (db_of de_int))) (db_of de_int)) (dss_cons (ds_pot2 (i := 0) (j := 2) rfl sc__law_draw.nd (de_blt cd_divmod (t.free 1) bo_divmod (dab_cons (db_of (de_ix (db_var 0) (db_of de_int))) (dab_cons (db_var 1) dab_nil))))
  (dss_one (ds_ret (de_var 2)))) dss_nil)
  (dss_cons (ds_pot (i := 0) (de_op od_iMod (db_of (de_blt_ty cd_int (t.free 2) bo_int (dab_cons (db_of (de_op od_addU (db_of (de_op od_iMul (db_of (de_ix (db_var 0) (db_of de_int))) (db_of de_int))) (db_of de_int))) dab_nil))) (db_of de_int)))
  (dss_one (ds_ret (de_op od_iMod (db_of (de_blt_ty cd_int (t.free 2) bo_int (dab_cons (db_of (de_op od_iDiv (db_of (de_op od_iMod (db_of (de_blt_ty cd_int (t.free 2) bo_int (dab_cons (db_of (de_op od_iMul (db_of (de_ix (db_var 0) (db_of de_int))) (db_of (de_ix (db_var 0) (db_of de_int))))) dab_nil))) (db_of de_int))) (db_of de_int))) dab_nil))) (db_var 1))))))
theorem b__law_pick (t : TX K mg) : Binds K (fdAt K (He.ga K "_law_pick")) ["_law_pot_here", "_law_some"] [] := FunD.bindsN (u__law_pick t) fun _ _ _ _ _ _ us hl => match us, hl with | [_, _], _ => rfl
theorem sc__law_pick : FnScope ["_law_pot_here", "_law_some"] ["_law_pot_here", "_law_some"] (defScope s__law_pick) := ⟨rfl, rfl, rfl, by decide +kernel, rfl, by decide +kernel, by decide +kernel⟩
def g__law_pick : Slots → M Out := (retS (binE ixM (bvarE 1) (callE 2 m__law_draw [] (consA (varE 0) (consA (bltE (pu1 lenF) (consA (bvarE 1) nilA)) nilA)))))
def m__law_pick : List D → M D := fnM 2 g__law_pick
theorem ok__law_pick (t : TX K mg) : FnG False P w K mg base (L2.CX P w) 2 (He.ga K "_law_pick") (fdAt K (He.ga K "_law_pick")) ["_law_pot_here", "_law_some"] (spF K (tbOf cls_ tabs_ K) 2 m__law_pick) :=
  fnD (st := s__law_pick) (N := ["_law_pot_here", "_law_some"]) (ps := ["_law_pot_here", "_law_some"]) (k := 1) (g := g__law_pick) (u__law_pick t) sc__law_pick (by decide) fun cdv hcv A outer s H E p S hr =>
  (dss_one (ds_ret (de_ix (db_var 1) (db_of (de_call (ok__law_draw t) (hr.mono (by decide)) (takes_of rfl rfl rfl rfl) (t.glo 3) (u__law_draw t).kp (b__law_draw t) .nil cst_nil (da_cons (de_var 0) (da_cons (de_blt cd_len (t.free 4) bo_len (dab_cons (db_var 1) dab_nil)) da_nil)))))))
theorem b__law_thing (t : TX K mg) : Binds K (fdAt K (He.ga K "_law_thing")) ["_law_pot_here"] [] := FunD.bindsN (u__law_thing t) fun _ _ _ _ _ _ us hl => match us, hl with | [_], _ => rfl
theorem sc__law_thing : FnScope ["_law_pot_here", "_law_some"] ["_law_pot_here"] (defScope s__law_thing) := ⟨rfl, rfl, rfl, by decide +kernel, rfl, by decide +kernel, by decide +kernel⟩
def g__law_thing : Slots → M Out := (seqS (asgS 1 (boxE (lenA (consA (cE (.int 0)) (consA (negE (cE (.int 1))) (consA (cE (.int 7)) (consA (binE (pu iPow) (cE (.int 10)) (cE (.int 25))) (consA (cE (.bl true)) (consA (cE (.bl false)) (consA (cE .non) (consA (cE (.str "")) (consA (cE (.str "a")) (consA (cE (.str "ktog")) (consA (tupE (consA (cE (.str "")) (consA (cE (.str "a")) nilA))) (consA (tupE (consA (cE (.int 1)) (consA (cE .non) nilA))) (consA (boxE (lenA (consA (cE (.str "a")) nilA))) (consA (cE (.dct [(.inr "a", .int 1)])) (consA (cE (.dct [])) nilA))))))))))))))))))
  (retS (callE 2 m__law_pick [] (consA (varE 0) (consA (varE 1) nilA)))))
def m__law_thing : List D → M D := fnM 2 g__law_thing
theorem ok__law_thing (t : TX K mg) : FnG False P w K mg base (L2.CX P w) 3 (He.ga K "_law_thing") (fdAt K (He.ga K "_law_thing")) ["_law_pot_here"] (spF K (tbOf cls_ tabs_ K) 1 m__law_thing) :=
  fnD (st := s__law_thing) (N := ["_law_pot_here", "_law_some"]) (ps := ["_law_pot_here"]) (k := 2) (g := g__law_thing) (u__law_thing t) sc__law_thing (by decide) fun cdv hcv A outer s H E p S hr =>
  (dss_cons (ds_asg (i := 1) sc__law_thing.nd (de_box (dl_lst (da_cons de_int (da_cons (de_neg de_int) (da_cons de_int (da_cons (de_op od_iPow (db_of de_int) (db_of de_int)) (da_cons de_bl (da_cons de_bl (da_cons de_non (da_cons de_str (da_cons de_str (da_cons de_str (da_cons (de_tup (da_cons de_str (da_cons de_str da_nil))) (da_cons (de_tup (da_cons de_int (da_cons de_non da_nil))) (da_cons (de_box (dl_lst (da_cons de_str da_nil))) (da_cons de_dct1 (da_cons de_dct0 da_nil))))))))))))))))))
  (dss_one (ds_ret (de_call (ok__law_pick t) (hr.mono (by decide)) (takes_of rfl rfl rfl rfl) (t.glo 5) (u__law_pick t).kp (b__law_pick t) .nil cst_nil (da_cons (de_var 0) (da_cons (de_var 1) da_nil))))))
theorem b_InvalidTextszz_initzz (t : TX K mg) : Binds K (fdAt K (He.ma K (He.ga K "InvalidTexts") "__init__")) ["self", "position"] [] := FunD.bindsN (u_InvalidTextszz_initzz t) fun _ _ _ _ _ _ us hl => match us, hl with | [_, _], _ => rfl
theorem kb_InvalidTextszz_initzz_1_position (t : TX K mg) : ∃ mv : List Value, KBn K (fdAt K (He.ma K (He.ga K "InvalidTexts") "__init__")) ["self", "position"] 1 ["position"] (fun us ws => us ++ pick [(true, 0)] mv ws) (fun vs zs => vs ++ pick [(true, 0)] [] zs) := kbP (u_InvalidTextszz_initzz t) 1 ["position"] [(true, 0)] fun _ _ _ _ _ _ us ws h1 h2 => match us, ws, h1, h2 with | [_], [_], _, _ => rfl
theorem sc_InvalidTextszz_initzz : FnScope ["self", "position"] ["self", "position"] (defScope s_InvalidTextszz_initzz) := ⟨rfl, rfl, rfl, by decide +kernel, rfl, by decide +kernel, by decide +kernel⟩
theorem ok_InvalidTextszz_initzz (t : TX K mg) : FnOk P w K mg base (L2.CX P w) 1 (He.ma K (He.ga K "InvalidTexts") "__init__") (fdAt K (He.ma K (He.ga K "InvalidTexts") "__init__")) ["self", "position"] (spX (tbOf cls_ tabs_ K) 15) :=
  fnX1 (T := tbOf cls_ tabs_ K) (ec := 15) (u_InvalidTextszz_initzz t) sc_InvalidTextszz_initzz (t.oex 8) rfl (t.noat 9) fun cdv A outer s H E => pss_one (ps_xst (pv 0) (pv 1))
theorem b_InvalidPartszz_initzz (t : TX K mg) : Binds K (fdAt K (He.ma K (He.ga K "InvalidParts") "__init__")) ["self", "position"] [] := FunD.bindsN (u_InvalidPartszz_initzz t) fun _ _ _ _ _ _ us hl => match us, hl with | [_, _], _ => rfl
theorem kb_InvalidPartszz_initzz_1_position (t : TX K mg) : ∃ mv : List Value, KBn K (fdAt K (He.ma K (He.ga K "InvalidParts") "__init__")) ["self", "position"] 1 ["position"] (fun us ws => us ++ pick [(true, 0)] mv ws) (fun vs zs => vs ++ pick [(true, 0)] [] zs) := kbP (u_InvalidPartszz_initzz t) 1 ["position"] [(true, 0)] fun _ _ _ _ _ _ us ws h1 h2 => match us, ws, h1, h2 with | [_], [_], _, _ => rfl
theorem sc_InvalidPartszz_initzz : FnScope ["self", "position"] ["self", "position"] (defScope s_InvalidPartszz_initzz) := ⟨rfl, rfl, rfl, by decide +kernel, rfl, by decide +kernel, by decide +kernel⟩
theorem ok_InvalidPartszz_initzz (t : TX K mg) : FnOk P w K mg base (L2.CX P w) 1 (He.ma K (He.ga K "InvalidParts") "__init__") (fdAt K (He.ma K (He.ga K "InvalidParts") "__init__")) ["self", "position"] (spX (tbOf cls_ tabs_ K) 14) :=
  fnX1 (T := tbOf cls_ tabs_ K) (ec := 14) (u_InvalidPartszz_initzz t) sc_InvalidPartszz_initzz (t.oex 12) rfl (t.noat 13) fun cdv A outer s H E => pss_one (ps_xst (pv 0) (pv 1))
theorem b_InvalidCastOnzz_initzz (t : TX K mg) : Binds K (fdAt K (He.ma K (He.ga K "InvalidCastOn") "__init__")) ["self", "position"] [] := FunD.bindsN (u_InvalidCastOnzz_initzz t) fun _ _ _ _ _ _ us hl => match us, hl with | [_, _], _ => rfl
theorem kb_InvalidCastOnzz_initzz_1_position (t : TX K mg) : ∃ mv : List Value, KBn K (fdAt K (He.ma K (He.ga K "InvalidCastOn") "__init__")) ["self", "position"] 1 ["position"] (fun us ws => us ++ pick [(true, 0)] mv ws) (fun vs zs => vs ++ pick [(true, 0)] [] zs) := kbP (u_InvalidCastOnzz_initzz t) 1 ["position"] [(true, 0)] fun _ _ _ _ _ _ us ws h1 h2 => match us, ws, h1, h2 with | [_], [_], _, _ => rfl
theorem sc_InvalidCastOnzz_initzz : FnScope ["self", "position"] ["self", "position"] (defScope s_InvalidCastOnzz_initzz) := ⟨rfl, rfl, rfl, by decide +kernel, rfl, by decide +kernel, by decide +kernel⟩
theorem ok_InvalidCastOnzz_initzz (t : TX K mg) : FnOk P w K mg base (L2.CX P w) 1 (He.ma K (He.ga K "InvalidCastOn") "__init__") (fdAt K (He.ma K (He.ga K "InvalidCastOn") "__init__")) ["self", "position"] (spX (tbOf cls_ tabs_ K) 17) :=
  fnX1 (T := tbOf cls_ tabs_ K) (ec := 17) (u_InvalidCastOnzz_initzz t) sc_InvalidCastOnzz_initzz (t.oex 16) rfl (t.noat 17) fun cdv A outer s H E => pss_one (ps_xst (pv 0) (pv 1))
theorem b_InvalidRowszz_initzz (t : TX K mg) : Binds K (fdAt K (He.ma K (He.ga K "InvalidRows") "__init__")) ["self", "position"] [] := FunD.bindsN (u_InvalidRowszz_initzz t) fun _ _ _ _ _ _ us hl => match us, hl with | [_, _], _ => rfl
theorem kb_InvalidRowszz_initzz_1_position (t : TX K mg) : ∃ mv : List Value, KBn K (fdAt K (He.ma K (He.ga K "InvalidRows") "__init__")) ["self", "position"] 1 ["position"] (fun us ws => us ++ pick [(true, 0)] mv ws) (fun vs zs => vs ++ pick [(true, 0)] [] zs) := kbP (u_InvalidRowszz_initzz t) 1 ["position"] [(true, 0)] fun _ _ _ _ _ _ us ws h1 h2 => match us, ws, h1, h2 with | [_], [_], _, _ => rfl
theorem sc_InvalidRowszz_initzz : FnScope ["self", "position"] ["self", "position"] (defScope s_InvalidRowszz_initzz) := ⟨rfl, rfl, rfl, by decide +kernel, rfl, by decide +kernel, by decide +kernel⟩
theorem ok_InvalidRowszz_initzz (t : TX K mg) : FnOk P w K mg base (L2.CX P w) 1 (He.ma K (He.ga K "InvalidRows") "__init__") (fdAt K (He.ma K (He.ga K "InvalidRows") "__init__")) ["self", "position"] (spX (tbOf cls_ tabs_ K) 16) :=
  fnX1 (T := tbOf cls_ tabs_ K) (ec := 16) (u_InvalidRowszz_initzz t) sc_InvalidRowszz_initzz (t.oex 20) rfl (t.noat 21) fun cdv A outer s H E => pss_one (ps_xst (pv 0) (pv 1))
theorem b_InvalidBlockzz_initzz (t : TX K mg) : Binds K (fdAt K (He.ma K (He.ga K "InvalidBlock") "__init__")) ["self", "position"] [] := FunD.bindsN (u_InvalidBlockzz_initzz t) fun _ _ _ _ _ _ us hl => match us, hl with | [_, _], _ => rfl
theorem kb_InvalidBlockzz_initzz_1_position (t : TX K mg) : ∃ mv : List Value, KBn K (fdAt K (He.ma K (He.ga K "InvalidBlock") "__init__")) ["self", "position"] 1 ["position"] (fun us ws => us ++ pick [(true, 0)] mv ws) (fun vs zs => vs ++ pick [(true, 0)] [] zs) := kbP (u_InvalidBlockzz_initzz t) 1 ["position"] [(true, 0)] fun _ _ _ _ _ _ us ws h1 h2 => match us, ws, h1, h2 with | [_], [_], _, _ => rfl
theorem sc_InvalidBlockzz_initzz : FnScope ["self", "position"] ["self", "position"] (defScope s_InvalidBlockzz_initzz) := ⟨rfl, rfl, rfl, by decide +kernel, rfl, by decide +kernel, by decide +kernel⟩
theorem ok_InvalidBlockzz_initzz (t : TX K mg) : FnOk P w K mg base (L2.CX P w) 1 (He.ma K (He.ga K "InvalidBlock") "__init__") (fdAt K (He.ma K (He.ga K "InvalidBlock") "__init__")) ["self", "position"] (spX (tbOf cls_ tabs_ K) 19) :=
  fnX1 (T := tbOf cls_ tabs_ K) (ec := 19) (u_InvalidBlockzz_initzz t) sc_InvalidBlockzz_initzz (t.oex 24) rfl (t.noat 25) fun cdv A outer s H E => pss_one (ps_xst (pv 0) (pv 1))
theorem b_InvalidStepszz_initzz (t : TX K mg) : Binds K (fdAt K (He.ma K (He.ga K "InvalidSteps") "__init__")) ["self", "position"] [] := FunD.bindsN (u_InvalidStepszz_initzz t) fun _ _ _ _ _ _ us hl => match us, hl with | [_, _], _ => rfl
theorem kb_InvalidStepszz_initzz_1_position (t : TX K mg) : ∃ mv : List Value, KBn K (fdAt K (He.ma K (He.ga K "InvalidSteps") "__init__")) ["self", "position"] 1 ["position"] (fun us ws => us ++ pick [(true, 0)] mv ws) (fun vs zs => vs ++ pick [(true, 0)] [] zs) := kbP (u_InvalidStepszz_initzz t) 1 ["position"] [(true, 0)] fun _ _ _ _ _ _ us ws h1 h2 => match us, ws, h1, h2 with | [_], [_], _, _ => rfl
theorem sc_InvalidStepszz_initzz : FnScope ["self", "position"] ["self", "position"] (defScope s_InvalidStepszz_initzz) := ⟨rfl, rfl, rfl, by decide +kernel, rfl, by decide +kernel, by decide +kernel⟩
theorem ok_InvalidStepszz_initzz (t : TX K mg) : FnOk P w K mg base (L2.CX P w) 1 (He.ma K (He.ga K "InvalidSteps") "__init__") (fdAt K (He.ma K (He.ga K "InvalidSteps") "__init__")) ["self", "position"] (spX (tbOf cls_ tabs_ K) 18) :=
  fnX1 (T := tbOf cls_ tabs_ K) (ec := 18) (u_InvalidStepszz_initzz t) sc_InvalidStepszz_initzz (t.oex 28) rfl (t.noat 29) fun cdv A outer s H E => pss_one (ps_xst (pv 0) (pv 1))
theorem b_InvalidScheduleszz_initzz (t : TX K mg) : Binds K (fdAt K (He.ma K (He.ga K "InvalidSchedules") "__init__")) ["self", "position"] [] := FunD.bindsN (u_InvalidScheduleszz_initzz t) fun _ _ _ _ _ _ us hl => match us, hl with | [_, _], _ => rfl
theorem kb_InvalidScheduleszz_initzz_1_position (t : TX K mg) : ∃ mv : List Value, KBn K (fdAt K (He.ma K (He.ga K "InvalidSchedules") "__init__")) ["self", "position"] 1 ["position"] (fun us ws => us ++ pick [(true, 0)] mv ws) (fun vs zs => vs ++ pick [(true, 0)] [] zs) := kbP (u_InvalidScheduleszz_initzz t) 1 ["position"] [(true, 0)] fun _ _ _ _ _ _ us ws h1 h2 => match us, ws, h1, h2 with | [_], [_], _, _ => rfl
theorem sc_InvalidScheduleszz_initzz : FnScope ["self", "position"] ["self", "position"] (defScope s_InvalidScheduleszz_initzz) := ⟨rfl, rfl, rfl, by decide +kernel, rfl, by decide +kernel, by decide +kernel⟩
theorem ok_InvalidScheduleszz_initzz (t : TX K mg) : FnOk P w K mg base (L2.CX P w) 1 (He.ma K (He.ga K "InvalidSchedules") "__init__") (fdAt K (He.ma K (He.ga K "InvalidSchedules") "__init__")) ["self", "position"] (spX (tbOf cls_ tabs_ K) 21) :=
  fnX1 (T := tbOf cls_ tabs_ K) (ec := 21) (u_InvalidScheduleszz_initzz t) sc_InvalidScheduleszz_initzz (t.oex 32) rfl (t.noat 33) fun cdv A outer s H E => pss_one (ps_xst (pv 0) (pv 1))
theorem b_InvalidStretcheszz_initzz (t : TX K mg) : Binds K (fdAt K (He.ma K (He.ga K "InvalidStretches") "__init__")) ["self", "position"] [] := FunD.bindsN (u_InvalidStretcheszz_initzz t) fun _ _ _ _ _ _ us hl => match us, hl with | [_, _], _ => rfl
theorem kb_InvalidStretcheszz_initzz_1_position (t : TX K mg) : ∃ mv : List Value, KBn K (fdAt K (He.ma K (He.ga K "InvalidStretches") "__init__")) ["self", "position"] 1 ["position"] (fun us ws => us ++ pick [(true, 0)] mv ws) (fun vs zs => vs ++ pick [(true, 0)] [] zs) := kbP (u_InvalidStretcheszz_initzz t) 1 ["position"] [(true, 0)] fun _ _ _ _ _ _ us ws h1 h2 => match us, ws, h1, h2 with | [_], [_], _, _ => rfl
theorem sc_InvalidStretcheszz_initzz : FnScope ["self", "position"] ["self", "position"] (defScope s_InvalidStretcheszz_initzz) := ⟨rfl, rfl, rfl, by decide +kernel, rfl, by decide +kernel, by decide +kernel⟩
theorem ok_InvalidStretcheszz_initzz (t : TX K mg) : FnOk P w K mg base (L2.CX P w) 1 (He.ma K (He.ga K "InvalidStretches") "__init__") (fdAt K (He.ma K (He.ga K "InvalidStretches") "__init__")) ["self", "position"] (spX (tbOf cls_ tabs_ K) 20) :=
  fnX1 (T := tbOf cls_ tabs_ K) (ec := 20) (u_InvalidStretcheszz_initzz t) sc_InvalidStretcheszz_initzz (t.oex 36) rfl (t.noat 37) fun cdv A outer s H E => pss_one (ps_xst (pv 0) (pv 1))
theorem b_InvalidCellzz_initzz (t : TX K mg) : Binds K (fdAt K (He.ma K (He.ga K "InvalidCell") "__init__")) ["self", "position"] [] := FunD.bindsN (u_InvalidCellzz_initzz t) fun _ _ _ _ _ _ us hl => match us, hl with | [_, _], _ => rfl
theorem kb_InvalidCellzz_initzz_1_position (t : TX K mg) : ∃ mv : List Value, KBn K (fdAt K (He.ma K (He.ga K "InvalidCell") "__init__")) ["self", "position"] 1 ["position"] (fun us ws => us ++ pick [(true, 0)] mv ws) (fun vs zs => vs ++ pick [(true, 0)] [] zs) := kbP (u_InvalidCellzz_initzz t) 1 ["position"] [(true, 0)] fun _ _ _ _ _ _ us ws h1 h2 => match us, ws, h1, h2 with | [_], [_], _, _ => rfl
theorem sc_InvalidCellzz_initzz : FnScope ["self", "position"] ["self", "position"] (defScope s_InvalidCellzz_initzz) := ⟨rfl, rfl, rfl, by decide +kernel, rfl, by decide +kernel, by decide +kernel⟩
theorem ok_InvalidCellzz_initzz (t : TX K mg) : FnOk P w K mg base (L2.CX P w) 1 (He.ma K (He.ga K "InvalidCell") "__init__") (fdAt K (He.ma K (He.ga K "InvalidCell") "__init__")) ["self", "position"] (spX (tbOf cls_ tabs_ K) 22) :=
  fnX1 (T := tbOf cls_ tabs_ K) (ec := 22) (u_InvalidCellzz_initzz t) sc_InvalidCellzz_initzz (t.oex 40) rfl (t.noat 41) fun cdv A outer s H E => pss_one (ps_xst (pv 0) (pv 1))
theorem b_BelowZerozz_initzz (t : TX K mg) : Binds K (fdAt K (He.ma K (He.ga K "BelowZero") "__init__")) ["self", "position"] [] := FunD.bindsN (u_BelowZerozz_initzz t) fun _ _ _ _ _ _ us hl => match us, hl with | [_, _], _ => rfl
theorem kb_BelowZerozz_initzz_1_position (t : TX K mg) : ∃ mv : List Value, KBn K (fdAt K (He.ma K (He.ga K "BelowZero") "__init__")) ["self", "position"] 1 ["position"] (fun us ws => us ++ pick [(true, 0)] mv ws) (fun vs zs => vs ++ pick [(true, 0)] [] zs) := kbP (u_BelowZerozz_initzz t) 1 ["position"] [(true, 0)] fun _ _ _ _ _ _ us ws h1 h2 => match us, ws, h1, h2 with | [_], [_], _, _ => rfl
theorem sc_BelowZerozz_initzz : FnScope ["self", "position"] ["self", "position"] (defScope s_BelowZerozz_initzz) := ⟨rfl, rfl, rfl, by decide +kernel, rfl, by decide +kernel, by decide +kernel⟩
theorem ok_BelowZerozz_initzz (t : TX K mg) : FnOk P w K mg base (L2.CX P w) 1 (He.ma K (He.ga K "BelowZero") "__init__") (fdAt K (He.ma K (He.ga K "BelowZero") "__init__")) ["self", "position"] (spX (tbOf cls_ tabs_ K) 23) :=
  fnX1 (T := tbOf cls_ tabs_ K) (ec := 23) (u_BelowZerozz_initzz t) sc_BelowZerozz_initzz (t.oex 44) rfl (t.noat 45) fun cdv A outer s H E => pss_one (ps_xst (pv 0) (pv 1))
theorem b__law_by_position (t : TX K mg) : Binds K (fdAt K (He.ga K "_law_by_position")) ["_law_one"] [] := FunD.bindsN (u__law_by_position t) fun _ _ _ _ _ _ us hl => match us, hl with | [_], _ => rfl
theorem sc__law_by_position : FnScope ["_law_one", "_law_made"] ["_law_one"] (defScope s__law_by_position) := ⟨rfl, rfl, rfl, by decide +kernel, rfl, by decide +kernel, by decide +kernel⟩
def g__law_by_position : Slots → M Out := (seqS (asgS 1 (boxE (lenA (consA (exPE 14 1 (consA (varE 0) nilA)) (consA (exKE 14 1 0 1 [(true, 0)] nilA (consA (varE 0) nilA)) (consA (exPE 15 1 (consA (varE 0) nilA)) (consA (exKE 15 1 0 1 [(true, 0)] nilA (consA (varE 0) nilA)) nilA)))))))
  (seqS (asgS 1 (binE addU (bvarE 1) (boxE (lenA (consA (exPE 16 1 (consA (varE 0) nilA)) (consA (exKE 16 1 0 1 [(true, 0)] nilA (consA (varE 0) nilA)) (consA (exPE 17 1 (consA (varE 0) nilA)) (consA (exKE 17 1 0 1 [(true, 0)] nilA (consA (varE 0) nilA)) nilA))))))))
  (seqS (asgS 1 (binE addU (bvarE 1) (boxE (lenA (consA (exPE 18 1 (consA (varE 0) nilA)) (consA (exKE 18 1 0 1 [(true, 0)] nilA (consA (varE 0) nilA)) (consA (exPE 19 1 (consA (varE 0) nilA)) (consA (exKE 19 1 0 1 [(true, 0)] nilA (consA (varE 0) nilA)) nilA))))))))
  (seqS (asgS 1 (binE addU (bvarE 1) (boxE (lenA (consA (exPE 20 1 (consA (varE 0) nilA)) (consA (exKE 20 1 0 1 [(true, 0)] nilA (consA (varE 0) nilA)) (consA (exPE 21 1 (consA (varE 0) nilA)) nilA)))))))
  (seqS (asgS 1 (binE addU (bvarE 1) (boxE (lenA (consA (exKE 21 1 0 1 [(true, 0)] nilA (consA (varE 0) nilA)) (consA (exPE 22 1 (consA (varE 0) nilA)) (consA (exKE 22 1 0 1 [(true, 0)] nilA (consA (varE 0) nilA)) nilA)))))))
  (retS (binE addU (bvarE 1) (boxE (lenA (consA (exPE 23 1 (consA (varE 0) nilA)) (consA (exKE 23 1 0 1 [(true, 0)] nilA (consA (varE 0) nilA)) nilA)))))))))))
def m__law_by_position : List D → M D := fnM 2 g__law_by_position
theorem ok__law_by_position (t : TX K mg) : FnG False P w K mg base (L2.CX P w) 3 (He.ga K "_law_by_position") (fdAt K (He.ga K "_law_by_position")) ["_law_one"] (spF K (tbOf cls_ tabs_ K) 1 m__law_by_position) := by
  obtain ⟨mv_InvalidTextszz_initzz_1_position, hk_InvalidTextszz_initzz_1_position⟩ := kb_InvalidTextszz_initzz_1_position t
  obtain ⟨mv_InvalidPartszz_initzz_1_position, hk_InvalidPartszz_initzz_1_position⟩ := kb_InvalidPartszz_initzz_1_position t
  obtain ⟨mv_InvalidCastOnzz_initzz_1_position, hk_InvalidCastOnzz_initzz_1_position⟩ := kb_InvalidCastOnzz_initzz_1_position t
  obtain ⟨mv_InvalidRowszz_initzz_1_position, hk_InvalidRowszz_initzz_1_position⟩ := kb_InvalidRowszz_initzz_1_position t
  obtain ⟨mv_InvalidBlockzz_initzz_1_position, hk_InvalidBlockzz_initzz_1_position⟩ := kb_InvalidBlockzz_initzz_1_position t
  obtain ⟨mv_InvalidStepszz_initzz_1_position, hk_InvalidStepszz_initzz_1_position⟩ := kb_InvalidStepszz_initzz_1_position t
  obtain ⟨mv_InvalidStretcheszz_initzz_1_position, hk_InvalidStretcheszz_initzz_1_position⟩ := kb_InvalidStretcheszz_initzz_1_position t
  obtain ⟨mv_InvalidCellzz_initzz_1_position, hk_InvalidCellzz_initzz_1_position⟩ := kb_InvalidCellzz_initzz_1_position t
  obtain ⟨mv_InvalidScheduleszz_initzz_1_position, hk_InvalidScheduleszz_initzz_1_position⟩ := kb_InvalidScheduleszz_initzz_1_position t
  obtain ⟨mv_BelowZerozz_initzz_1_position, hk_BelowZerozz_initzz_1_position⟩ := kb_BelowZerozz_initzz_1_position t
  exact fnD (st := s__law_by_position) (N := ["_law_one", "_law_made"]) (ps := ["_law_one"]) (k := 2) (g := g__law_by_position) (u__law_by_position t) sc__law_by_position (by decide) fun cdv hcv A outer s H E p S hr =>
  (dss_cons (ds_asg (i := 1) sc__law_by_position.nd (de_box (dl_lst (da_cons (de_exP (ec := 14) (takes_of rfl rfl rfl rfl) (t.oex 12) (t.meth 14) (fnOk_g (ok_InvalidPartszz_initzz t)) (hr.mono (by decide)) (b_InvalidPartszz_initzz t) (t.glo 11) rfl (da_cons (de_var 0) da_nil)) (da_cons (de_exK0 (ec := 14) (takes_of rfl rfl rfl rfl) (t.oex 12) (t.meth 14) (fnOk_g (ok_InvalidPartszz_initzz t)) (hr.mono (by decide)) (t.glo 11) rfl hk_InvalidPartszz_initzz_1_position (dk_cons (de_var 0) dk_nil)) (da_cons (de_exP (ec := 15) (takes_of rfl rfl rfl rfl) (t.oex 8) (t.meth 10) (fnOk_g (ok_InvalidTextszz_initzz t)) (hr.mono (by decide)) (b_InvalidTextszz_initzz t) (t.glo 7) rfl (da_cons (de_var 0) da_nil)) (da_cons (de_exK0 (ec := 15) (takes_of rfl rfl rfl rfl) (t.oex 8) (t.meth 10) (fnOk_g (ok_InvalidTextszz_initzz t)) (hr.mono (by decide)) (t.glo 7) rfl hk_InvalidTextszz_initzz_1_position (dk_cons (de_var 0) dk_nil)) da_nil)))))))
  (dss_cons (ds_asg (i := 1) sc__law_by_position.nd (de_op od_addU (db_var 1) (db_of (de_box (dl_lst (da_cons (de_exP (ec := 16) (takes_of rfl rfl rfl rfl) (t.oex 20) (t.meth 22) (fnOk_g (ok_InvalidRowszz_initzz t)) (hr.mono (by decide)) (b_InvalidRowszz_initzz t) (t.glo 19) rfl (da_cons (de_var 0) da_nil)) (da_cons (de_exK0 (ec := 16) (takes_of rfl rfl rfl rfl) (t.oex 20) (t.meth 22) (fnOk_g (ok_InvalidRowszz_initzz t)) (hr.mono (by decide)) (t.glo 19) rfl hk_InvalidRowszz_initzz_1_position (dk_cons (de_var 0) dk_nil)) (da_cons (de_exP (ec := 17) (takes_of rfl rfl rfl rfl) (t.oex 16) (t.meth 18) (fnOk_g (ok_InvalidCastOnzz_initzz t)) (hr.mono (by decide)) (b_InvalidCastOnzz_initzz t) (t.glo 15) rfl (da_cons (de_var 0) da_nil)) (da_cons (de_exK0 (ec := 17) (takes_of rfl rfl rfl rfl) (t.oex 16) (t.meth 18) (fnOk_g (ok_InvalidCastOnzz_initzz t)) (hr.mono (by decide)) (t.glo 15) rfl hk_InvalidCastOnzz_initzz_1_position (dk_cons (de_var 0) dk_nil)) da_nil)))))))))
  (dss_cons (ds_asg (i := 1) sc__law_by_position.nd (de_op od_addU (db_var 1) (db_of (de_box (dl_lst (da_cons (de_exP (ec := 18) (takes_of rfl rfl rfl rfl) (t.oex 28) (t.meth 30) (fnOk_g (ok_InvalidStepszz_initzz t)) (hr.mono (by decide)) (b_InvalidStepszz_initzz t) (t.glo 27) rfl (da_cons (de_var 0) da_nil)) (da_cons (de_exK0 (ec := 18) (takes_of rfl rfl rfl rfl) (t.oex 28) (t.meth 30) (fnOk_g (ok_InvalidStepszz_initzz t)) (hr.mono (by decide)) (t.glo 27) rfl hk_InvalidStepszz_initzz_1_position (dk_cons (de_var 0) dk_nil)) (da_cons (de_exP (ec := 19) (takes_of rfl rfl rfl rfl) (t.oex 24) (t.meth 26) (fnOk_g (ok_InvalidBlockzz_initzz t)) (hr.mono (by decide)) (b_InvalidBlockzz_initzz t) (t.glo 23) rfl (da_cons (de_var 0) da_nil)) (da_cons (de_exK0 (ec := 19) (takes_of rfl rfl rfl rfl) (t.oex 24) (t.meth 26) (fnOk_g (ok_InvalidBlockzz_initzz t)) (hr.mono (by decide)) (t.glo 23) rfl hk_InvalidBlockzz_initzz_1_position (dk_cons (de_var 0) dk_nil)) da_nil)))))))))
  (dss_cons (ds_asg (i := 1) sc__law_by_position.nd (de_op od_addU (db_var 1) (db_of (de_box (dl_lst (da_cons (de_exP (ec := 20) (takes_of rfl rfl rfl rfl) (t.oex 36) (t.meth 38) (fnOk_g (ok_InvalidStretcheszz_initzz t)) (hr.mono (by decide)) (b_InvalidStretcheszz_initzz t) (t.glo 35) rfl (da_cons (de_var 0) da_nil)) (da_cons (de_exK0 (ec := 20) (takes_of rfl rfl rfl rfl) (t.oex 36) (t.meth 38) (fnOk_g (ok_InvalidStretcheszz_initzz t)) (hr.mono (by decide)) (t.glo 35) rfl hk_InvalidStretcheszz_initzz_1_position (dk_cons (de_var 0) dk_nil)) (da_cons (de_exP (ec := 21) (takes_of rfl rfl rfl rfl) (t.oex 32) (t.meth 34) (fnOk_g (ok_InvalidScheduleszz_initzz t)) (hr.mono (by decide)) (b_InvalidScheduleszz_initzz t) (t.glo 31) rfl (da_cons (de_var 0) da_nil)) da_nil))))))))
  (dss_cons (ds_asg (i := 1) sc__law_by_position.nd (de_op od_addU (db_var 1) (db_of (de_box (dl_lst (da_cons (de_exK0 (ec := 21) (takes_of rfl rfl rfl rfl) (t.oex 32) (t.meth 34) (fnOk_g (ok_InvalidScheduleszz_initzz t)) (hr.mono (by decide)) (t.glo 31) rfl hk_InvalidScheduleszz_initzz_1_position (dk_cons (de_var 0) dk_nil)) (da_cons (de_exP (ec := 22) (takes_of rfl rfl rfl rfl) (t.oex 40) (t.meth 42) (fnOk_g (ok_InvalidCellzz_initzz t)) (hr.mono (by decide)) (b_InvalidCellzz_initzz t) (t.glo 39) rfl (da_cons (de_var 0) da_nil)) (da_cons (de_exK0 (ec := 22) (takes_of rfl rfl rfl rfl) (t.oex 40) (t.meth 42) (fnOk_g (ok_InvalidCellzz_initzz t)) (hr.mono (by decide)) (t.glo 39) rfl hk_InvalidCellzz_initzz_1_position (dk_cons (de_var 0) dk_nil)) da_nil))))))))
  (dss_one (ds_ret (de_op od_addU (db_var 1) (db_of (de_box (dl_lst (da_cons (de_exP (ec := 23) (takes_of rfl rfl rfl rfl) (t.oex 44) (t.meth 46) (fnOk_g (ok_BelowZerozz_initzz t)) (hr.mono (by decide)) (b_BelowZerozz_initzz t) (t.glo 43) rfl (da_cons (de_var 0) da_nil)) (da_cons (de_exK0 (ec := 23) (takes_of rfl rfl rfl rfl) (t.oex 44) (t.meth 46) (fnOk_g (ok_BelowZerozz_initzz t)) (hr.mono (by decide)) (t.glo 43) rfl hk_BelowZerozz_initzz_1_position (dk_cons (de_var 0) dk_nil)) da_nil)))))))))))))
theorem b_InvalidNumberzz_initzz (t : TX K mg) : Binds K (fdAt K (He.ma K (He.ga K "InvalidNumber") "__init__")) ["self", "value"] [] := FunD.bindsN (u_InvalidNumberzz_initzz t) fun _ _ _ _ _ _ us hl => match us, hl with | [_, _], _ => rfl
theorem kb_InvalidNumberzz_initzz_1_value (t : TX K mg) : ∃ mv : List Value, KBn K (fdAt K (He.ma K (He.ga K "InvalidNumber") "__init__")) ["self", "value"] 1 ["value"] (fun us ws => us ++ pick [(true, 0)] mv ws) (fun vs zs => vs ++ pick [(true, 0)] [] zs) := kbP (u_InvalidNumberzz_initzz t) 1 ["value"] [(true, 0)] fun _ _ _ _ _ _ us ws h1 h2 => match us, ws, h1, h2 with | [_], [_], _, _ => rfl
theorem sc_InvalidNumberzz_initzz : FnScope ["self", "value"] ["self", "value"] (defScope s_InvalidNumberzz_initzz) := ⟨rfl, rfl, rfl, by decide +kernel, rfl, by decide +kernel, by decide +kernel⟩
theorem ok_InvalidNumberzz_initzz (t : TX K mg) : FnOk P w K mg base (L2.CX P w) 1 (He.ma K (He.ga K "InvalidNumber") "__init__") (fdAt K (He.ma K (He.ga K "InvalidNumber") "__init__")) ["self", "value"] (spX (tbOf cls_ tabs_ K) 1) :=
  fnX1 (T := tbOf cls_ tabs_ K) (ec := 1) (u_InvalidNumberzz_initzz t) sc_InvalidNumberzz_initzz (t.oex 49) rfl (t.noat 50) fun cdv A outer s H E => pss_one (ps_xst (pv 0) (pv 1))
theorem b_InvalidNamezz_initzz (t : TX K mg) : Binds K (fdAt K (He.ma K (He.ga K "InvalidName") "__init__")) ["self", "value"] [] := FunD.bindsN (u_InvalidNamezz_initzz t) fun _ _ _ _ _ _ us hl => match us, hl with | [_, _], _ => rfl
theorem kb_InvalidNamezz_initzz_1_value (t : TX K mg) : ∃ mv : List Value, KBn K (fdAt K (He.ma K (He.ga K "InvalidName") "__init__")) ["self", "value"] 1 ["value"] (fun us ws => us ++ pick [(true, 0)] mv ws) (fun vs zs => vs ++ pick [(true, 0)] [] zs) := kbP (u_InvalidNamezz_initzz t) 1 ["value"] [(true, 0)] fun _ _ _ _ _ _ us ws h1 h2 => match us, ws, h1, h2 with | [_], [_], _, _ => rfl
theorem sc_InvalidNamezz_initzz : FnScope ["self", "value"] ["self", "value"] (defScope s_InvalidNamezz_initzz) := ⟨rfl, rfl, rfl, by decide +kernel, rfl, by decide +kernel, by decide +kernel⟩
theorem ok_InvalidNamezz_initzz (t : TX K mg) : FnOk P w K mg base (L2.CX P w) 1 (He.ma K (He.ga K "InvalidName") "__init__") (fdAt K (He.ma K (He.ga K "InvalidName") "__init__")) ["self", "value"] (spX (tbOf cls_ tabs_ K) 0) :=
  fnX1 (T := tbOf cls_ tabs_ K) (ec := 0) (u_InvalidNamezz_initzz t) sc_InvalidNamezz_initzz (t.oex 53) rfl (t.noat 54) fun cdv A outer s H E => pss_one (ps_xst (pv 0) (pv 1))
theorem b_InvalidWordzz_initzz (t : TX K mg) : Binds K (fdAt K (He.ma K (He.ga K "InvalidWord") "__init__")) ["self", "value"] [] := FunD.bindsN (u_InvalidWordzz_initzz t) fun _ _ _ _ _ _ us hl => match us, hl with | [_, _], _ => rfl
theorem kb_InvalidWordzz_initzz_1_value (t : TX K mg) : ∃ mv : List Value, KBn K (fdAt K (He.ma K (He.ga K "InvalidWord") "__init__")) ["self", "value"] 1 ["value"] (fun us ws => us ++ pick [(true, 0)] mv ws) (fun vs zs => vs ++ pick [(true, 0)] [] zs) := kbP (u_InvalidWordzz_initzz t) 1 ["value"] [(true, 0)] fun _ _ _ _ _ _ us ws h1 h2 => match us, ws, h1, h2 with | [_], [_], _, _ => rfl
theorem sc_InvalidWordzz_initzz : FnScope ["self", "value"] ["self", "value"] (defScope s_InvalidWordzz_initzz) := ⟨rfl, rfl, rfl, by decide +kernel, rfl, by decide +kernel, by decide +kernel⟩
theorem ok_InvalidWordzz_initzz (t : TX K mg) : FnOk P w K mg base (L2.CX P w) 1 (He.ma K (He.ga K "InvalidWord") "__init__") (fdAt K (He.ma K (He.ga K "InvalidWord") "__init__")) ["self", "value"] (spX (tbOf cls_ tabs_ K) 3) :=
  fnX1 (T := tbOf cls_ tabs_ K) (ec := 3) (u_InvalidWordzz_initzz t) sc_InvalidWordzz_initzz (t.oex 57) rfl (t.noat 58) fun cdv A outer s H E => pss_one (ps_xst (pv 0) (pv 1))
theorem b_InvalidKindzz_initzz (t : TX K mg) : Binds K (fdAt K (He.ma K (He.ga K "InvalidKind") "__init__")) ["self", "value"] [] := FunD.bindsN (u_InvalidKindzz_initzz t) fun _ _ _ _ _ _ us hl => match us, hl with | [_, _], _ => rfl
theorem kb_InvalidKindzz_initzz_1_value (t : TX K mg) : ∃ mv : List Value, KBn K (fdAt K (He.ma K (He.ga K "InvalidKind") "__init__")) ["self", "value"] 1 ["value"] (fun us ws => us ++ pick [(true, 0)] mv ws) (fun vs zs => vs ++ pick [(true, 0)] [] zs) := kbP (u_InvalidKindzz_initzz t) 1 ["value"] [(true, 0)] fun _ _ _ _ _ _ us ws h1 h2 => match us, ws, h1, h2 with | [_], [_], _, _ => rfl
theorem sc_InvalidKindzz_initzz : FnScope ["self", "value"] ["self", "value"] (defScope s_InvalidKindzz_initzz) := ⟨rfl, rfl, rfl, by decide +kernel, rfl, by decide +kernel, by decide +kernel⟩
theorem ok_InvalidKindzz_initzz (t : TX K mg) : FnOk P w K mg base (L2.CX P w) 1 (He.ma K (He.ga K "InvalidKind") "__init__") (fdAt K (He.ma K (He.ga K "InvalidKind") "__init__")) ["self", "value"] (spX (tbOf cls_ tabs_ K) 2) :=
  fnX1 (T := tbOf cls_ tabs_ K) (ec := 2) (u_InvalidKindzz_initzz t) sc_InvalidKindzz_initzz (t.oex 61) rfl (t.noat 62) fun cdv A outer s H E => pss_one (ps_xst (pv 0) (pv 1))
theorem b_InvalidSectionzz_initzz (t : TX K mg) : Binds K (fdAt K (He.ma K (He.ga K "InvalidSection") "__init__")) ["self", "value"] [] := FunD.bindsN (u_InvalidSectionzz_initzz t) fun _ _ _ _ _ _ us hl => match us, hl with | [_, _], _ => rfl
theorem kb_InvalidSectionzz_initzz_1_value (t : TX K mg) : ∃ mv : List Value, KBn K (fdAt K (He.ma K (He.ga K "InvalidSection") "__init__")) ["self", "value"] 1 ["value"] (fun us ws => us ++ pick [(true, 0)] mv ws) (fun vs zs => vs ++ pick [(true, 0)] [] zs) := kbP (u_InvalidSectionzz_initzz t) 1 ["value"] [(true, 0)] fun _ _ _ _ _ _ us ws h1 h2 => match us, ws, h1, h2 with | [_], [_], _, _ => rfl
theorem sc_InvalidSectionzz_initzz : FnScope ["self", "value"] ["self", "value"] (defScope s_InvalidSectionzz_initzz) := ⟨rfl, rfl, rfl, by decide +kernel, rfl, by decide +kernel, by decide +kernel⟩
theorem ok_InvalidSectionzz_initzz (t : TX K mg) : FnOk P w K mg base (L2.CX P w) 1 (He.ma K (He.ga K "InvalidSection") "__init__") (fdAt K (He.ma K (He.ga K "InvalidSection") "__init__")) ["self", "value"] (spX (tbOf cls_ tabs_ K) 5) :=
  fnX1 (T := tbOf cls_ tabs_ K) (ec := 5) (u_InvalidSectionzz_initzz t) sc_InvalidSectionzz_initzz (t.oex 65) rfl (t.noat 66) fun cdv A outer s H E => pss_one (ps_xst (pv 0) (pv 1))
theorem b_InvalidCountszz_initzz (t : TX K mg) : Binds K (fdAt K (He.ma K (He.ga K "InvalidCounts") "__init__")) ["self", "value"] [] := FunD.bindsN (u_InvalidCountszz_initzz t) fun _ _ _ _ _ _ us hl => match us, hl with | [_, _], _ => rfl
theorem kb_InvalidCountszz_initzz_1_value (t : TX K mg) : ∃ mv : List Value, KBn K (fdAt K (He.ma K (He.ga K "InvalidCounts") "__init__")) ["self", "value"] 1 ["value"] (fun us ws => us ++ pick [(true, 0)] mv ws) (fun vs zs => vs ++ pick [(true, 0)] [] zs) := kbP (u_InvalidCountszz_initzz t) 1 ["value"] [(true, 0)] fun _ _ _ _ _ _ us ws h1 h2 => match us, ws, h1, h2 with | [_], [_], _, _ => rfl
theorem sc_InvalidCountszz_initzz : FnScope ["self", "value"] ["self", "value"] (defScope s_InvalidCountszz_initzz) := ⟨rfl, rfl, rfl, by decide +kernel, rfl, by decide +kernel, by decide +kernel⟩
theorem ok_InvalidCountszz_initzz (t : TX K mg) : FnOk P w K mg base (L2.CX P w) 1 (He.ma K (He.ga K "InvalidCounts") "__init__") (fdAt K (He.ma K (He.ga K "InvalidCounts") "__init__")) ["self", "value"] (spX (tbOf cls_ tabs_ K) 4) :=
  fnX1 (T := tbOf cls_ tabs_ K) (ec := 4) (u_InvalidCountszz_initzz t) sc_InvalidCountszz_initzz (t.oex 69) rfl (t.noat 70) fun cdv A outer s H E => pss_one (ps_xst (pv 0) (pv 1))
theorem b_InvalidWayzz_initzz (t : TX K mg) : Binds K (fdAt K (He.ma K (He.ga K "InvalidWay") "__init__")) ["self", "value"] [] := FunD.bindsN (u_InvalidWayzz_initzz t) fun _ _ _ _ _ _ us hl => match us, hl with | [_, _], _ => rfl
theorem kb_InvalidWayzz_initzz_1_value (t : TX K mg) : ∃ mv : List Value, KBn K (fdAt K (He.ma K (He.ga K "InvalidWay") "__init__")) ["self", "value"] 1 ["value"] (fun us ws => us ++ pick [(true, 0)] mv ws) (fun vs zs => vs ++ pick [(true, 0)] [] zs) := kbP (u_InvalidWayzz_initzz t) 1 ["value"] [(true, 0)] fun _ _ _ _ _ _ us ws h1 h2 => match us, ws, h1, h2 with | [_], [_], _, _ => rfl
theorem sc_InvalidWayzz_initzz : FnScope ["self", "value"] ["self", "value"] (defScope s_InvalidWayzz_initzz) := ⟨rfl, rfl, rfl, by decide +kernel, rfl, by decide +kernel, by decide +kernel⟩
theorem ok_InvalidWayzz_initzz (t : TX K mg) : FnOk P w K mg base (L2.CX P w) 1 (He.ma K (He.ga K "InvalidWay") "__init__") (fdAt K (He.ma K (He.ga K "InvalidWay") "__init__")) ["self", "value"] (spX (tbOf cls_ tabs_ K) 7) :=
  fnX1 (T := tbOf cls_ tabs_ K) (ec := 7) (u_InvalidWayzz_initzz t) sc_InvalidWayzz_initzz (t.oex 73) rfl (t.noat 74) fun cdv A outer s H E => pss_one (ps_xst (pv 0) (pv 1))
theorem b_InvalidEdgezz_initzz (t : TX K mg) : Binds K (fdAt K (He.ma K (He.ga K "InvalidEdge") "__init__")) ["self", "value"] [] := FunD.bindsN (u_InvalidEdgezz_initzz t) fun _ _ _ _ _ _ us hl => match us, hl with | [_, _], _ => rfl
theorem kb_InvalidEdgezz_initzz_1_value (t : TX K mg) : ∃ mv : List Value, KBn K (fdAt K (He.ma K (He.ga K "InvalidEdge") "__init__")) ["self", "value"] 1 ["value"] (fun us ws => us ++ pick [(true, 0)] mv ws) (fun vs zs => vs ++ pick [(true, 0)] [] zs) := kbP (u_InvalidEdgezz_initzz t) 1 ["value"] [(true, 0)] fun _ _ _ _ _ _ us ws h1 h2 => match us, ws, h1, h2 with | [_], [_], _, _ => rfl
theorem sc_InvalidEdgezz_initzz : FnScope ["self", "value"] ["self", "value"] (defScope s_InvalidEdgezz_initzz) := ⟨rfl, rfl, rfl, by decide +kernel, rfl, by decide +kernel, by decide +kernel⟩
theorem ok_InvalidEdgezz_initzz (t : TX K mg) : FnOk P w K mg base (L2.CX P w) 1 (He.ma K (He.ga K "InvalidEdge") "__init__") (fdAt K (He.ma K (He.ga K "InvalidEdge") "__init__")) ["self", "value"] (spX (tbOf cls_ tabs_ K) 6) :=
  fnX1 (T := tbOf cls_ tabs_ K) (ec := 6) (u_InvalidEdgezz_initzz t) sc_InvalidEdgezz_initzz (t.oex 77) rfl (t.noat 78) fun cdv A outer s H E => pss_one (ps_xst (pv 0) (pv 1))
theorem b_InvalidPatternzz_initzz (t : TX K mg) : Binds K (fdAt K (He.ma K (He.ga K "InvalidPattern") "__init__")) ["self", "value"] [] := FunD.bindsN (u_InvalidPatternzz_initzz t) fun _ _ _ _ _ _ us hl => match us, hl with | [_, _], _ => rfl
theorem kb_InvalidPatternzz_initzz_1_value (t : TX K mg) : ∃ mv : List Value, KBn K (fdAt K (He.ma K (He.ga K "InvalidPattern") "__init__")) ["self", "value"] 1 ["value"] (fun us ws => us ++ pick [(true, 0)] mv ws) (fun vs zs => vs ++ pick [(true, 0)] [] zs) := kbP (u_InvalidPatternzz_initzz t) 1 ["value"] [(true, 0)] fun _ _ _ _ _ _ us ws h1 h2 => match us, ws, h1, h2 with | [_], [_], _, _ => rfl
theorem sc_InvalidPatternzz_initzz : FnScope ["self", "value"] ["self", "value"] (defScope s_InvalidPatternzz_initzz) := ⟨rfl, rfl, rfl, by decide +kernel, rfl, by decide +kernel, by decide +kernel⟩
theorem ok_InvalidPatternzz_initzz (t : TX K mg) : FnOk P w K mg base (L2.CX P w) 1 (He.ma K (He.ga K "InvalidPattern") "__init__") (fdAt K (He.ma K (He.ga K "InvalidPattern") "__init__")) ["self", "value"] (spX (tbOf cls_ tabs_ K) 9) :=
  fnX1 (T := tbOf cls_ tabs_ K) (ec := 9) (u_InvalidPatternzz_initzz t) sc_InvalidPatternzz_initzz (t.oex 81) rfl (t.noat 82) fun cdv A outer s H E => pss_one (ps_xst (pv 0) (pv 1))
theorem b_InvalidSketchzz_initzz (t : TX K mg) : Binds K (fdAt K (He.ma K (He.ga K "InvalidSketch") "__init__")) ["self", "value"] [] := FunD.bindsN (u_InvalidSketchzz_initzz t) fun _ _ _ _ _ _ us hl => match us, hl with | [_, _], _ => rfl
theorem kb_InvalidSketchzz_initzz_1_value (t : TX K mg) : ∃ mv : List Value, KBn K (fdAt K (He.ma K (He.ga K "InvalidSketch") "__init__")) ["self", "value"] 1 ["value"] (fun us ws => us ++ pick [(true, 0)] mv ws) (fun vs zs => vs ++ pick [(true, 0)] [] zs) := kbP (u_InvalidSketchzz_initzz t) 1 ["value"] [(true, 0)] fun _ _ _ _ _ _ us ws h1 h2 => match us, ws, h1, h2 with | [_], [_], _, _ => rfl
theorem sc_InvalidSketchzz_initzz : FnScope ["self", "value"] ["self", "value"] (defScope s_InvalidSketchzz_initzz) := ⟨rfl, rfl, rfl, by decide +kernel, rfl, by decide +kernel, by decide +kernel⟩
theorem ok_InvalidSketchzz_initzz (t : TX K mg) : FnOk P w K mg base (L2.CX P w) 1 (He.ma K (He.ga K "InvalidSketch") "__init__") (fdAt K (He.ma K (He.ga K "InvalidSketch") "__init__")) ["self", "value"] (spX (tbOf cls_ tabs_ K) 8) :=
  fnX1 (T := tbOf cls_ tabs_ K) (ec := 8) (u_InvalidSketchzz_initzz t) sc_InvalidSketchzz_initzz (t.oex 85) rfl (t.noat 86) fun cdv A outer s H E => pss_one (ps_xst (pv 0) (pv 1))
theorem b_InvalidPointzz_initzz (t : TX K mg) : Binds K (fdAt K (He.ma K (He.ga K "InvalidPoint") "__init__")) ["self", "value"] [] := FunD.bindsN (u_InvalidPointzz_initzz t) fun _ _ _ _ _ _ us hl => match us, hl with | [_, _], _ => rfl
theorem kb_InvalidPointzz_initzz_1_value (t : TX K mg) : ∃ mv : List Value, KBn K (fdAt K (He.ma K (He.ga K "InvalidPoint") "__init__")) ["self", "value"] 1 ["value"] (fun us ws => us ++ pick [(true, 0)] mv ws) (fun vs zs => vs ++ pick [(true, 0)] [] zs) := kbP (u_InvalidPointzz_initzz t) 1 ["value"] [(true, 0)] fun _ _ _ _ _ _ us ws h1 h2 => match us, ws, h1, h2 with | [_], [_], _, _ => rfl
theorem sc_InvalidPointzz_initzz : FnScope ["self", "value"] ["self", "value"] (defScope s_InvalidPointzz_initzz) := ⟨rfl, rfl, rfl, by decide +kernel, rfl, by decide +kernel, by decide +kernel⟩
theorem ok_InvalidPointzz_initzz (t : TX K mg) : FnOk P w K mg base (L2.CX P w) 1 (He.ma K (He.ga K "InvalidPoint") "__init__") (fdAt K (He.ma K (He.ga K "InvalidPoint") "__init__")) ["self", "value"] (spX (tbOf cls_ tabs_ K) 11) :=
  fnX1 (T := tbOf cls_ tabs_ K) (ec := 11) (u_InvalidPointzz_initzz t) sc_InvalidPointzz_initzz (t.oex 89) rfl (t.noat 90) fun cdv A outer s H E => pss_one (ps_xst (pv 0) (pv 1))
theorem b_InvalidFormzz_initzz (t : TX K mg) : Binds K (fdAt K (He.ma K (He.ga K "InvalidForm") "__init__")) ["self", "value"] [] := FunD.bindsN (u_InvalidFormzz_initzz t) fun _ _ _ _ _ _ us hl => match us, hl with | [_, _], _ => rfl
theorem kb_InvalidFormzz_initzz_1_value (t : TX K mg) : ∃ mv : List Value, KBn K (fdAt K (He.ma K (He.ga K "InvalidForm") "__init__")) ["self", "value"] 1 ["value"] (fun us ws => us ++ pick [(true, 0)] mv ws) (fun vs zs => vs ++ pick [(true, 0)] [] zs) := kbP (u_InvalidFormzz_initzz t) 1 ["value"] [(true, 0)] fun _ _ _ _ _ _ us ws h1 h2 => match us, ws, h1, h2 with | [_], [_], _, _ => rfl
theorem sc_InvalidFormzz_initzz : FnScope ["self", "value"] ["self", "value"] (defScope s_InvalidFormzz_initzz) := ⟨rfl, rfl, rfl, by decide +kernel, rfl, by decide +kernel, by decide +kernel⟩
theorem ok_InvalidFormzz_initzz (t : TX K mg) : FnOk P w K mg base (L2.CX P w) 1 (He.ma K (He.ga K "InvalidForm") "__init__") (fdAt K (He.ma K (He.ga K "InvalidForm") "__init__")) ["self", "value"] (spX (tbOf cls_ tabs_ K) 10) :=
  fnX1 (T := tbOf cls_ tabs_ K) (ec := 10) (u_InvalidFormzz_initzz t) sc_InvalidFormzz_initzz (t.oex 93) rfl (t.noat 94) fun cdv A outer s H E => pss_one (ps_xst (pv 0) (pv 1))
theorem b_InvalidCommandzz_initzz (t : TX K mg) : Binds K (fdAt K (He.ma K (He.ga K "InvalidCommand") "__init__")) ["self", "value"] [] := FunD.bindsN (u_InvalidCommandzz_initzz t) fun _ _ _ _ _ _ us hl => match us, hl with | [_, _], _ => rfl
theorem kb_InvalidCommandzz_initzz_1_value (t : TX K mg) : ∃ mv : List Value, KBn K (fdAt K (He.ma K (He.ga K "InvalidCommand") "__init__")) ["self", "value"] 1 ["value"] (fun us ws => us ++ pick [(true, 0)] mv ws) (fun vs zs => vs ++ pick [(true, 0)] [] zs) := kbP (u_InvalidCommandzz_initzz t) 1 ["value"] [(true, 0)] fun _ _ _ _ _ _ us ws h1 h2 => match us, ws, h1, h2 with | [_], [_], _, _ => rfl
theorem sc_InvalidCommandzz_initzz : FnScope ["self", "value"] ["self", "value"] (defScope s_InvalidCommandzz_initzz) := ⟨rfl, rfl, rfl, by decide +kernel, rfl, by decide +kernel, by decide +kernel⟩
theorem ok_InvalidCommandzz_initzz (t : TX K mg) : FnOk P w K mg base (L2.CX P w) 1 (He.ma K (He.ga K "InvalidCommand") "__init__") (fdAt K (He.ma K (He.ga K "InvalidCommand") "__init__")) ["self", "value"] (spX (tbOf cls_ tabs_ K) 13) :=
  fnX1 (T := tbOf cls_ tabs_ K) (ec := 13) (u_InvalidCommandzz_initzz t) sc_InvalidCommandzz_initzz (t.oex 97) rfl (t.noat 98) fun cdv A outer s H E => pss_one (ps_xst (pv 0) (pv 1))
theorem b_InvalidFamilyzz_initzz (t : TX K mg) : Binds K (fdAt K (He.ma K (He.ga K "InvalidFamily") "__init__")) ["self", "value"] [] := FunD.bindsN (u_InvalidFamilyzz_initzz t) fun _ _ _ _ _ _ us hl => match us, hl with | [_, _], _ => rfl
theorem kb_InvalidFamilyzz_initzz_1_value (t : TX K mg) : ∃ mv : List Value, KBn K (fdAt K (He.ma K (He.ga K "InvalidFamily") "__init__")) ["self", "value"] 1 ["value"] (fun us ws => us ++ pick [(true, 0)] mv ws) (fun vs zs => vs ++ pick [(true, 0)] [] zs) := kbP (u_InvalidFamilyzz_initzz t) 1 ["value"] [(true, 0)] fun _ _ _ _ _ _ us ws h1 h2 => match us, ws, h1, h2 with | [_], [_], _, _ => rfl
theorem sc_InvalidFamilyzz_initzz : FnScope ["self", "value"] ["self", "value"] (defScope s_InvalidFamilyzz_initzz) := ⟨rfl, rfl, rfl, by decide +kernel, rfl, by decide +kernel, by decide +kernel⟩
theorem ok_InvalidFamilyzz_initzz (t : TX K mg) : FnOk P w K mg base (L2.CX P w) 1 (He.ma K (He.ga K "InvalidFamily") "__init__") (fdAt K (He.ma K (He.ga K "InvalidFamily") "__init__")) ["self", "value"] (spX (tbOf cls_ tabs_ K) 12) :=
  fnX1 (T := tbOf cls_ tabs_ K) (ec := 12) (u_InvalidFamilyzz_initzz t) sc_InvalidFamilyzz_initzz (t.oex 101) rfl (t.noat 102) fun cdv A outer s H E => pss_one (ps_xst (pv 0) (pv 1))
theorem b__law_by_value (t : TX K mg) : Binds K (fdAt K (He.ga K "_law_by_value")) ["_law_one"] [] := FunD.bindsN (u__law_by_value t) fun _ _ _ _ _ _ us hl => match us, hl with | [_], _ => rfl
theorem sc__law_by_value : FnScope ["_law_one", "_law_made"] ["_law_one"] (defScope s__law_by_value) := ⟨rfl, rfl, rfl, by decide +kernel, rfl, by decide +kernel, by decide +kernel⟩
def g__law_by_value : Slots → M Out := (seqS (asgS 1 (boxE (lenA (consA (exPE 0 1 (consA (varE 0) nilA)) (consA (exKE 0 1 0 1 [(true, 0)] nilA (consA (varE 0) nilA)) (consA (exPE 1 1 (consA (varE 0) nilA)) (consA (exKE 1 1 0 1 [(true, 0)] nilA (consA (varE 0) nilA)) nilA)))))))
  (seqS (asgS 1 (binE addU (bvarE 1) (boxE (lenA (consA (exPE 2 1 (consA (varE 0) nilA)) (consA (exKE 2 1 0 1 [(true, 0)] nilA (consA (varE 0) nilA)) (consA (exPE 3 1 (consA (varE 0) nilA)) (consA (exKE 3 1 0 1 [(true, 0)] nilA (consA (varE 0) nilA)) nilA))))))))
  (seqS (asgS 1 (binE addU (bvarE 1) (boxE (lenA (consA (exPE 4 1 (consA (varE 0) nilA)) (consA (exKE 4 1 0 1 [(true, 0)] nilA (consA (varE 0) nilA)) (consA (exPE 5 1 (consA (varE 0) nilA)) (consA (exKE 5 1 0 1 [(true, 0)] nilA (consA (varE 0) nilA)) nilA))))))))
  (seqS (asgS 1 (binE addU (bvarE 1) (boxE (lenA (consA (exPE 6 1 (consA (varE 0) nilA)) (consA (exKE 6 1 0 1 [(true, 0)] nilA (consA (varE 0) nilA)) (consA (exPE 7 1 (consA (varE 0) nilA)) (consA (exKE 7 1 0 1 [(true, 0)] nilA (consA (varE 0) nilA)) nilA))))))))
  (seqS (asgS 1 (binE addU (bvarE 1) (boxE (lenA (consA (exPE 8 1 (consA (varE 0) nilA)) (consA (exKE 8 1 0 1 [(true, 0)] nilA (consA (varE 0) nilA)) (consA (exPE 9 1 (consA (varE 0) nilA)) (consA (exKE 9 1 0 1 [(true, 0)] nilA (consA (varE 0) nilA)) nilA))))))))
  (seqS (asgS 1 (binE addU (bvarE 1) (boxE (lenA (consA (exPE 10 1 (consA (varE 0) nilA)) (consA (exKE 10 1 0 1 [(true, 0)] nilA (consA (varE 0) nilA)) (consA (exPE 11 1 (consA (varE 0) nilA)) (consA (exKE 11 1 0 1 [(true, 0)] nilA (consA (varE 0) nilA)) nilA))))))))
  (retS (binE addU (bvarE 1) (boxE (lenA (consA (exPE 12 1 (consA (varE 0) nilA)) (consA (exKE 12 1 0 1 [(true, 0)] nilA (consA (varE 0) nilA)) (consA (exPE 13 1 (consA (varE 0) nilA)) (consA (exKE 13 1 0 1 [(true, 0)] nilA (consA (varE 0) nilA)) nilA))))))))))))))
def m__law_by_value : List D → M D := fnM 2 g__law_by_value
theorem ok__law_by_value (t : TX K mg) : FnG False P w K mg base (L2.CX P w) 3 (He.ga K "_law_by_value") (fdAt K (He.ga K "_law_by_value")) ["_law_one"] (spF K (tbOf cls_ tabs_ K) 1 m__law_by_value) := by
  obtain ⟨mv_InvalidNumberzz_initzz_1_value, hk_InvalidNumberzz_initzz_1_value⟩ := kb_InvalidNumberzz_initzz_1_value t
  obtain ⟨mv_InvalidNamezz_initzz_1_value, hk_InvalidNamezz_initzz_1_value⟩ := kb_InvalidNamezz_initzz_1_value t
  obtain ⟨mv_InvalidWordzz_initzz_1_value, hk_InvalidWordzz_initzz_1_value⟩ := kb_InvalidWordzz_initzz_1_value t
  obtain ⟨mv_InvalidKindzz_initzz_1_value, hk_InvalidKindzz_initzz_1_value⟩ := kb_InvalidKindzz_initzz_1_value t
  obtain ⟨mv_InvalidSectionzz_initzz_1_value, hk_InvalidSectionzz_initzz_1_value⟩ := kb_InvalidSectionzz_initzz_1_value t
  obtain ⟨mv_InvalidCountszz_initzz_1_value, hk_InvalidCountszz_initzz_1_value⟩ := kb_InvalidCountszz_initzz_1_value t
  obtain ⟨mv_InvalidWayzz_initzz_1_value, hk_InvalidWayzz_initzz_1_value⟩ := kb_InvalidWayzz_initzz_1_value t
  obtain ⟨mv_InvalidEdgezz_initzz_1_value, hk_InvalidEdgezz_initzz_1_value⟩ := kb_InvalidEdgezz_initzz_1_value t
  obtain ⟨mv_InvalidPatternzz_initzz_1_value, hk_InvalidPatternzz_initzz_1_value⟩ := kb_InvalidPatternzz_initzz_1_value t
  obtain ⟨mv_InvalidSketchzz_initzz_1_value, hk_InvalidSketchzz_initzz_1_value⟩ := kb_InvalidSketchzz_initzz_1_value t
  obtain ⟨mv_InvalidPointzz_initzz_1_value, hk_InvalidPointzz_initzz_1_value⟩ := kb_InvalidPointzz_initzz_1_value t
  obtain ⟨mv_InvalidFormzz_initzz_1_value, hk_InvalidFormzz_initzz_1_value⟩ := kb_InvalidFormzz_initzz_1_value t
  obtain ⟨mv_InvalidCommandzz_initzz_1_value, hk_InvalidCommandzz_initzz_1_value⟩ := kb_InvalidCommandzz_initzz_1_value t
  obtain ⟨mv_InvalidFamilyzz_initzz_1_value, hk_InvalidFamilyzz_initzz_1_value⟩ := kb_InvalidFamilyzz_initzz_1_value t
  exact fnD (st := s__law_by_value) (N := ["_law_one", "_law_made"]) (ps := ["_law_one"]) (k := 2) (g := g__law_by_value) (u__law_by_value t) sc__law_by_value (by decide) fun cdv hcv A outer s H E p S hr =>
  (dss_cons (ds_asg (i := 1) sc__law_by_value.nd (de_box (dl_lst (da_cons (de_exP (ec := 0) (takes_of rfl rfl rfl rfl) (t.oex 53) (t.meth 55) (fnOk_g (ok_InvalidNamezz_initzz t)) (hr.mono (by decide)) (b_InvalidNamezz_initzz t) (t.glo 52) rfl (da_cons (de_var 0) da_nil)) (da_cons (de_exK0 (ec := 0) (takes_of rfl rfl rfl rfl) (t.oex 53) (t.meth 55) (fnOk_g (ok_InvalidNamezz_initzz t)) (hr.mono (by decide)) (t.glo 52) rfl hk_InvalidNamezz_initzz_1_value (dk_cons (de_var 0) dk_nil)) (da_cons (de_exP (ec := 1) (takes_of rfl rfl rfl rfl) (t.oex 49) (t.meth 51) (fnOk_g (ok_InvalidNumberzz_initzz t)) (hr.mono (by decide)) (b_InvalidNumberzz_initzz t) (t.glo 48) rfl (da_cons (de_var 0) da_nil)) (da_cons (de_exK0 (ec := 1) (takes_of rfl rfl rfl rfl) (t.oex 49) (t.meth 51) (fnOk_g (ok_InvalidNumberzz_initzz t)) (hr.mono (by decide)) (t.glo 48) rfl hk_InvalidNumberzz_initzz_1_value (dk_cons (de_var 0) dk_nil)) da_nil)))))))
  (dss_cons (ds_asg (i := 1) sc__law_by_value.nd (de_op od_addU (db_var 1) (db_of (de_box (dl_lst (da_cons (de_exP (ec := 2) (takes_of rfl rfl rfl rfl) (t.oex 61) (t.meth 63) (fnOk_g (ok_InvalidKindzz_initzz t)) (hr.mono (by decide)) (b_InvalidKindzz_initzz t) (t.glo 60) rfl (da_cons (de_var 0) da_nil)) (da_cons (de_exK0 (ec := 2) (takes_of rfl rfl rfl rfl) (t.oex 61) (t.meth 63) (fnOk_g (ok_InvalidKindzz_initzz t)) (hr.mono (by decide)) (t.glo 60) rfl hk_InvalidKindzz_initzz_1_value (dk_cons (de_var 0) dk_nil)) (da_cons (de_exP (ec := 3) (takes_of rfl rfl rfl rfl) (t.oex 57) (t.meth 59) (fnOk_g (ok_InvalidWordzz_initzz t)) (hr.mono (by decide)) (b_InvalidWordzz_initzz t) (t.glo 56) rfl (da_cons (de_var 0) da_nil)) (da_cons (de_exK0 (ec := 3) (takes_of rfl rfl rfl rfl) (t.oex 57) (t.meth 59) (fnOk_g (ok_InvalidWordzz_initzz t)) (hr.mono (by decide)) (t.glo 56) rfl hk_InvalidWordzz_initzz_1_value (dk_cons (de_var 0) dk_nil)) da_nil)))))))))
  (dss_cons (ds_asg (i := 1) sc__law_by_value.nd (de_op od_addU (db_var 1) (db_of (de_box (dl_lst (da_cons (de_exP (ec := 4) (takes_of rfl rfl rfl rfl) (t.oex 69) (t.meth 71) (fnOk_g (ok_InvalidCountszz_initzz t)) (hr.mono (by decide)) (b_InvalidCountszz_initzz t) (t.glo 68) rfl (da_cons (de_var 0) da_nil)) (da_cons (de_exK0 (ec := 4) (takes_of rfl rfl rfl rfl) (t.oex 69) (t.meth 71) (fnOk_g (ok_InvalidCountszz_initzz t)) (hr.mono (by decide)) (t.glo 68) rfl hk_InvalidCountszz_initzz_1_value (dk_cons (de_var 0) dk_nil)) (da_cons (de_exP (ec := 5) (takes_of rfl rfl rfl rfl) (t.oex 65) (t.meth 67) (fnOk_g (ok_InvalidSectionzz_initzz t)) (hr.mono (by decide)) (b_InvalidSectionzz_initzz t) (t.glo 64) rfl (da_cons (de_var 0) da_nil)) (da_cons (de_exK0 (ec := 5) (takes_of rfl rfl rfl rfl) (t.oex 65) (t.meth 67) (fnOk_g (ok_InvalidSectionzz_initzz t)) (hr.mono (by decide)) (t.glo 64) rfl hk_InvalidSectionzz_initzz_1_value (dk_cons (de_var 0) dk_nil)) da_nil)))))))))
  (dss_cons (ds_asg (i := 1) sc__law_by_value.nd (de_op od_addU (db_var 1) (db_of (de_box (dl_lst (da_cons (de_exP (ec := 6) (takes_of rfl rfl rfl rfl) (t.oex 77) (t.meth 79) (fnOk_g (ok_InvalidEdgezz_initzz t)) (hr.mono (by decide)) (b_InvalidEdgezz_initzz t) (t.glo 76) rfl (da_cons (de_var 0) da_nil)) (da_cons (de_exK0 (ec := 6) (takes_of rfl rfl rfl rfl) (t.oex 77) (t.meth 79) (fnOk_g (ok_InvalidEdgezz_initzz t)) (hr.mono (by decide)) (t.glo 76) rfl hk_InvalidEdgezz_initzz_1_value (dk_cons (de_var 0) dk_nil)) (da_cons (de_exP (ec := 7) (takes_of rfl rfl rfl rfl) (t.oex 73) (t.meth 75) (fnOk_g (ok_InvalidWayzz_initzz t)) (hr.mono (by decide)) (b_InvalidWayzz_initzz t) (t.glo 72) rfl (da_cons (de_var 0) da_nil)) (da_cons (de_exK0 (ec := 7) (takes_of rfl rfl rfl rfl) (t.oex 73) (t.meth 75) (fnOk_g (ok_InvalidWayzz_initzz t)) (hr.mono (by decide)) (t.glo 72) rfl hk_InvalidWayzz_initzz_1_value (dk_cons (de_var 0) dk_nil)) da_nil)))))))))
  (dss_cons (ds_asg (i := 1) sc__law_by_value.nd (de_op od_addU (db_var 1) (db_of (de_box (dl_lst (da_cons (de_exP (ec := 8) (takes_of rfl rfl rfl rfl) (t.oex 85) (t.meth 87) (fnOk_g (ok_InvalidSketchzz_initzz t)) (hr.mono (by decide)) (b_InvalidSketchzz_initzz t) (t.glo 84) rfl (da_cons (de_var 0) da_nil)) (da_cons (de_exK0 (ec := 8) (takes_of rfl rfl rfl rfl) (t.oex 85) (t.meth 87) (fnOk_g (ok_InvalidSketchzz_initzz t)) (hr.mono (by decide)) (t.glo 84) rfl hk_InvalidSketchzz_initzz_1_value (dk_cons (de_var 0) dk_nil)) (da_cons (de_exP (ec := 9) (takes_of rfl rfl rfl rfl) (t.oex 81) (t.meth 83) (fnOk_g (ok_InvalidPatternzz_initzz t)) (hr.mono (by decide)) (b_InvalidPatternzz_initzz t) (t.glo 80) rfl (da_cons (de_var 0) da_nil)) (da_cons (de_exK0 (ec := 9) (takes_of rfl rfl rfl rfl) (t.oex 81) (t.meth 83) (fnOk_g (ok_InvalidPatternzz_initzz t)) (hr.mono (by decide)) (t.glo 80) rfl hk_InvalidPatternzz_initzz_1_value (dk_cons (de_var 0) dk_nil)) da_nil)))))))))
  (dss_cons (ds_asg (i := 1) sc__law_by_value.nd (de_op od_addU (db_var 1) (db_of (de_box (dl_lst (da_cons (de_exP (ec := 10) (takes_of rfl rfl rfl rfl) (t.oex 93) (t.meth 95) (fnOk_g (ok_InvalidFormzz_initzz t)) (hr.mono (by decide)) (b_InvalidFormzz_initzz t) (t.glo 92) rfl (da_cons (de_var 0) da_nil)) (da_cons (de_exK0 (ec := 10) (takes_of rfl rfl rfl rfl) (t.oex 93) (t.meth 95) (fnOk_g (ok_InvalidFormzz_initzz t)) (hr.mono (by decide)) (t.glo 92) rfl hk_InvalidFormzz_initzz_1_value (dk_cons (de_var 0) dk_nil)) (da_cons (de_exP (ec := 11) (takes_of rfl rfl rfl rfl) (t.oex 89) (t.meth 91) (fnOk_g (ok_InvalidPointzz_initzz t)) (hr.mono (by decide)) (b_InvalidPointzz_initzz t) (t.glo 88) rfl (da_cons (de_var 0) da_nil)) (da_cons (de_exK0 (ec := 11) (takes_of rfl rfl rfl rfl) (t.oex 89) (t.meth 91) (fnOk_g (ok_InvalidPointzz_initzz t)) (hr.mono (by decide)) (t.glo 88) rfl hk_InvalidPointzz_initzz_1_value (dk_cons (de_var 0) dk_nil)) da_nil)))))))))
  (dss_one (ds_ret (de_op od_addU (db_var 1) (db_of (de_box (dl_lst (da_cons (de_exP (ec := 12) (takes_of rfl rfl rfl rfl) (t.oex 101) (t.meth 103) (fnOk_g (ok_InvalidFamilyzz_initzz t)) (hr.mono (by decide)) (b_InvalidFamilyzz_initzz t) (t.glo 100) rfl (da_cons (de_var 0) da_nil)) (da_cons (de_exK0 (ec := 12) (takes_of rfl rfl rfl rfl) (t.oex 101) (t.meth 103) (fnOk_g (ok_InvalidFamilyzz_initzz t)) (hr.mono (by decide)) (t.glo 100) rfl hk_InvalidFamilyzz_initzz_1_value (dk_cons (de_var 0) dk_nil)) (da_cons (de_exP (ec := 13) (takes_of rfl rfl rfl rfl) (t.oex 97) (t.meth 99) (fnOk_g (ok_InvalidCommandzz_initzz t)) (hr.mono (by decide)) (b_InvalidCommandzz_initzz t) (t.glo 96) rfl (da_cons (de_var 0) da_nil)) (da_cons (de_exK0 (ec := 13) (takes_of rfl rfl rfl rfl) (t.oex 97) (t.meth 99) (fnOk_g (ok_InvalidCommandzz_initzz t)) (hr.mono (by decide)) (t.glo 96) rfl hk_InvalidCommandzz_initzz_1_value (dk_cons (de_var 0) dk_nil)) da_nil))))))))))))))))
theorem b_InvalidTextzz_initzz (t : TX K mg) : Binds K (fdAt K (He.ma K (He.ga K "InvalidText") "__init__")) ["self", "problem"] [] := FunD.bindsN (u_InvalidTextzz_initzz t) fun _ _ _ _ _ _ us hl => match us, hl with | [_, _], _ => rfl
theorem kb_InvalidTextzz_initzz_1_problem (t : TX K mg) : ∃ mv : List Value, KBn K (fdAt K (He.ma K (He.ga K "InvalidText") "__init__")) ["self", "problem"] 1 ["problem"] (fun us ws => us ++ pick [(true, 0)] mv ws) (fun vs zs => vs ++ pick [(true, 0)] [] zs) := kbP (u_InvalidTextzz_initzz t) 1 ["problem"] [(true, 0)] fun _ _ _ _ _ _ us ws h1 h2 => match us, ws, h1, h2 with | [_], [_], _, _ => rfl
theorem sc_InvalidTextzz_initzz : FnScope ["self", "problem"] ["self", "problem"] (defScope s_InvalidTextzz_initzz) := ⟨rfl, rfl, rfl, by decide +kernel, rfl, by decide +kernel, by decide +kernel⟩
theorem ok_InvalidTextzz_initzz (t : TX K mg) : FnOk P w K mg base (L2.CX P w) 1 (He.ma K (He.ga K "InvalidText") "__init__") (fdAt K (He.ma K (He.ga K "InvalidText") "__init__")) ["self", "problem"] (spX (tbOf cls_ tabs_ K) 29) :=
  fnX1 (T := tbOf cls_ tabs_ K) (ec := 29) (u_InvalidTextzz_initzz t) sc_InvalidTextzz_initzz (t.oex 106) rfl (t.noat 107) fun cdv A outer s H E => pss_one (ps_xst (pv 0) (pv 1))
theorem b_NoRowzz_initzz (t : TX K mg) : Binds K (fdAt K (He.ma K (He.ga K "NoRow") "__init__")) ["self", "number"] [] := FunD.bindsN (u_NoRowzz_initzz t) fun _ _ _ _ _ _ us hl => match us, hl with | [_, _], _ => rfl
theorem kb_NoRowzz_initzz_1_number (t : TX K mg) : ∃ mv : List Value, KBn K (fdAt K (He.ma K (He.ga K "NoRow") "__init__")) ["self", "number"] 1 ["number"] (fun us ws => us ++ pick [(true, 0)] mv ws) (fun vs zs => vs ++ pick [(true, 0)] [] zs) := kbP (u_NoRowzz_initzz t) 1 ["number"] [(true, 0)] fun _ _ _ _ _ _ us ws h1 h2 => match us, ws, h1, h2 with | [_], [_], _, _ => rfl
theorem sc_NoRowzz_initzz : FnScope ["self", "number"] ["self", "number"] (defScope s_NoRowzz_initzz) := ⟨rfl, rfl, rfl, by decide +kernel, rfl, by decide +kernel, by decide +kernel⟩
theorem ok_NoRowzz_initzz (t : TX K mg) : FnOk P w K mg base (L2.CX P w) 1 (He.ma K (He.ga K "NoRow") "__init__") (fdAt K (He.ma K (He.ga K "NoRow") "__init__")) ["self", "number"] (spX (tbOf cls_ tabs_ K) 28) :=
  fnX1 (T := tbOf cls_ tabs_ K) (ec := 28) (u_NoRowzz_initzz t) sc_NoRowzz_initzz (t.oex 110) rfl (t.noat 111) fun cdv A outer s H E => pss_one (ps_xst (pv 0) (pv 1))
theorem b_NotThroughzz_initzz (t : TX K mg) : Binds K (fdAt K (He.ma K (He.ga K "NotThrough") "__init__")) ["self", "outcome"] [] := FunD.bindsN (u_NotThroughzz_initzz t) fun _ _ _ _ _ _ us hl => match us, hl with | [_, _], _ => rfl
theorem kb_NotThroughzz_initzz_1_outcome (t : TX K mg) : ∃ mv : List Value, KBn K (fdAt K (He.ma K (He.ga K "NotThrough") "__init__")) ["self", "outcome"] 1 ["outcome"] (fun us ws => us ++ pick [(true, 0)] mv ws) (fun vs zs => vs ++ pick [(true, 0)] [] zs) := kbP (u_NotThroughzz_initzz t) 1 ["outcome"] [(true, 0)] fun _ _ _ _ _ _ us ws h1 h2 => match us, ws, h1, h2 with | [_], [_], _, _ => rfl
theorem sc_NotThroughzz_initzz : FnScope ["self", "outcome"] ["self", "outcome"] (defScope s_NotThroughzz_initzz) := ⟨rfl, rfl, rfl, by decide +kernel, rfl, by decide +kernel, by decide +kernel⟩
theorem ok_NotThroughzz_initzz (t : TX K mg) : FnOk P w K mg base (L2.CX P w) 1 (He.ma K (He.ga K "NotThrough") "__init__") (fdAt K (He.ma K (He.ga K "NotThrough") "__init__")) ["self", "outcome"] (spX (tbOf cls_ tabs_ K) 31) :=
  fnX1 (T := tbOf cls_ tabs_ K) (ec := 31) (u_NotThroughzz_initzz t) sc_NotThroughzz_initzz (t.oex 114) rfl (t.noat 115) fun cdv A outer s H E => pss_one (ps_xst (pv 0) (pv 1))
theorem b_InvalidLinezz_initzz (t : TX K mg) : Binds K (fdAt K (He.ma K (He.ga K "InvalidLine") "__init__")) ["self", "line"] [] := FunD.bindsN (u_InvalidLinezz_initzz t) fun _ _ _ _ _ _ us hl => match us, hl with | [_, _], _ => rfl
theorem kb_InvalidLinezz_initzz_1_line (t : TX K mg) : ∃ mv : List Value, KBn K (fdAt K (He.ma K (He.ga K "InvalidLine") "__init__")) ["self", "line"] 1 ["line"] (fun us ws => us ++ pick [(true, 0)] mv ws) (fun vs zs => vs ++ pick [(true, 0)] [] zs) := kbP (u_InvalidLinezz_initzz t) 1 ["line"] [(true, 0)] fun _ _ _ _ _ _ us ws h1 h2 => match us, ws, h1, h2 with | [_], [_], _, _ => rfl
theorem sc_InvalidLinezz_initzz : FnScope ["self", "line"] ["self", "line"] (defScope s_InvalidLinezz_initzz) := ⟨rfl, rfl, rfl, by decide +kernel, rfl, by decide +kernel, by decide +kernel⟩
theorem ok_InvalidLinezz_initzz (t : TX K mg) : FnOk P w K mg base (L2.CX P w) 1 (He.ma K (He.ga K "InvalidLine") "__init__") (fdAt K (He.ma K (He.ga K "InvalidLine") "__init__")) ["self", "line"] (spX (tbOf cls_ tabs_ K) 30) :=
  fnX1 (T := tbOf cls_ tabs_ K) (ec := 30) (u_InvalidLinezz_initzz t) sc_InvalidLinezz_initzz (t.oex 118) rfl (t.noat 119) fun cdv A outer s H E => pss_one (ps_xst (pv 0) (pv 1))
theorem b_InvalidBookzz_initzz (t : TX K mg) : Binds K (fdAt K (He.ma K (He.ga K "InvalidBook") "__init__")) ["self", "problem", "name"] [] := FunD.bindsN (u_InvalidBookzz_initzz t) fun _ _ _ _ _ _ us hl => match us, hl with | [_, _, _], _ => rfl
theorem kb_InvalidBookzz_initzz_1_name_problem (t : TX K mg) : ∃ mv : List Value, KBn K (fdAt K (He.ma K (He.ga K "InvalidBook") "__init__")) ["self", "problem", "name"] 1 ["name", "problem"] (fun us ws => us ++ pick [(true, 1), (true, 0)] mv ws) (fun vs zs => vs ++ pick [(true, 1), (true, 0)] [] zs) := kbP (u_InvalidBookzz_initzz t) 1 ["name", "problem"] [(true, 1), (true, 0)] fun _ _ _ _ _ _ us ws h1 h2 => match us, ws, h1, h2 with | [_], [_, _], _, _ => rfl
theorem sc_InvalidBookzz_initzz : FnScope ["self", "problem", "name"] ["self", "problem", "name"] (defScope s_InvalidBookzz_initzz) := ⟨rfl, rfl, rfl, by decide +kernel, rfl, by decide +kernel, by decide +kernel⟩
theorem ok_InvalidBookzz_initzz (t : TX K mg) : FnOk P w K mg base (L2.CX P w) 1 (He.ma K (He.ga K "InvalidBook") "__init__") (fdAt K (He.ma K (He.ga K "InvalidBook") "__init__")) ["self", "problem", "name"] (spX (tbOf cls_ tabs_ K) 32) :=
  fnX2 (T := tbOf cls_ tabs_ K) (ec := 32) (u_InvalidBookzz_initzz t) sc_InvalidBookzz_initzz (t.oex 122) rfl (t.noat 123) (t.noat 124) (by decide +kernel) fun cdv A outer s H E => pss_cons (ps_xst (pv 0) (pv 1)) (pss_one (ps_xst (pv 0) (pv 2)))
theorem b_NotFittingzz_initzz (t : TX K mg) : Binds K (fdAt K (He.ma K (He.ga K "NotFitting") "__init__")) ["self", "section", "loops"] [] := FunD.bindsN (u_NotFittingzz_initzz t) fun _ _ _ _ _ _ us hl => match us, hl with | [_, _, _], _ => rfl
theorem kb_NotFittingzz_initzz_1_loops_section (t : TX K mg) : ∃ mv : List Value, KBn K (fdAt K (He.ma K (He.ga K "NotFitting") "__init__")) ["self", "section", "loops"] 1 ["loops", "section"] (fun us ws => us ++ pick [(true, 1), (true, 0)] mv ws) (fun vs zs => vs ++ pick [(true, 1), (true, 0)] [] zs) := kbP (u_NotFittingzz_initzz t) 1 ["loops", "section"] [(true, 1), (true, 0)] fun _ _ _ _ _ _ us ws h1 h2 => match us, ws, h1, h2 with | [_], [_, _], _, _ => rfl
theorem sc_NotFittingzz_initzz : FnScope ["self", "section", "loops"] ["self", "section", "loops"] (defScope s_NotFittingzz_initzz) := ⟨rfl, rfl, rfl, by decide +kernel, rfl, by decide +kernel, by decide +kernel⟩
theorem ok_NotFittingzz_initzz (t : TX K mg) : FnOk P w K mg base (L2.CX P w) 1 (He.ma K (He.ga K "NotFitting") "__init__") (fdAt K (He.ma K (He.ga K "NotFitting") "__init__")) ["self", "section", "loops"] (spX (tbOf cls_ tabs_ K) 33) :=
  fnX2 (T := tbOf cls_ tabs_ K) (ec := 33) (u_NotFittingzz_initzz t) sc_NotFittingzz_initzz (t.oex 127) rfl (t.noat 128) (t.noat 129) (by decide +kernel) fun cdv A outer s H E => pss_cons (ps_xst (pv 0) (pv 1)) (pss_one (ps_xst (pv 0) (pv 2)))
theorem b_TooManyzz_initzz (t : TX K mg) : Binds K (fdAt K (He.ma K (He.ga K "TooMany") "__init__")) ["self", "what", "limit"] [] := FunD.bindsN (u_TooManyzz_initzz t) fun _ _ _ _ _ _ us hl => match us, hl with | [_, _, _], _ => rfl
theorem kb_TooManyzz_initzz_1_limit_what (t : TX K mg) : ∃ mv : List Value, KBn K (fdAt K (He.ma K (He.ga K "TooMany") "__init__")) ["self", "what", "limit"] 1 ["limit", "what"] (fun us ws => us ++ pick [(true, 1), (true, 0)] mv ws) (fun vs zs => vs ++ pick [(true, 1), (true, 0)] [] zs) := kbP (u_TooManyzz_initzz t) 1 ["limit", "what"] [(true, 1), (true, 0)] fun _ _ _ _ _ _ us ws h1 h2 => match us, ws, h1, h2 with | [_], [_, _], _, _ => rfl
theorem sc_TooManyzz_initzz : FnScope ["self", "what", "limit"] ["self", "what", "limit"] (defScope s_TooManyzz_initzz) := ⟨rfl, rfl, rfl, by decide +kernel, rfl, by decide +kernel, by decide +kernel⟩
theorem ok_TooManyzz_initzz (t : TX K mg) : FnOk P w K mg base (L2.CX P w) 1 (He.ma K (He.ga K "TooMany") "__init__") (fdAt K (He.ma K (He.ga K "TooMany") "__init__")) ["self", "what", "limit"] (spX (tbOf cls_ tabs_ K) 34) :=
  fnX2 (T := tbOf cls_ tabs_ K) (ec := 34) (u_TooManyzz_initzz t) sc_TooManyzz_initzz (t.oex 132) rfl (t.noat 133) (t.noat 134) (by decide +kernel) fun cdv A outer s H E => pss_cons (ps_xst (pv 0) (pv 1)) (pss_one (ps_xst (pv 0) (pv 2)))
theorem b__law_others (t : TX K mg) : Binds K (fdAt K (He.ga K "_law_others")) ["_law_one", "_law_two"] [] := FunD.bindsN (u__law_others t) fun _ _ _ _ _ _ us hl => match us, hl with | [_, _], _ => rfl
theorem sc__law_others : FnScope ["_law_one", "_law_two", "_law_made"] ["_law_one", "_law_two"] (defScope s__law_others) := ⟨rfl, rfl, rfl, by decide +kernel, rfl, by decide +kernel, by decide +kernel⟩
def g__law_others : Slots → M Out := (seqS (asgS 2 (boxE (lenA (consA (exPE 28 1 (consA (varE 0) nilA)) (consA (exKE 28 1 0 1 [(true, 0)] nilA (consA (varE 0) nilA)) (consA (exPE 29 1 (consA (varE 0) nilA)) (consA (exKE 29 1 0 1 [(true, 0)] nilA (consA (varE 0) nilA)) nilA)))))))
  (seqS (asgS 2 (binE addU (bvarE 2) (boxE (lenA (consA (exPE 30 1 (consA (varE 0) nilA)) (consA (exKE 30 1 0 1 [(true, 0)] nilA (consA (varE 0) nilA)) (consA (exPE 31 1 (consA (varE 0) nilA)) (consA (exKE 31 1 0 1 [(true, 0)] nilA (consA (varE 0) nilA)) nilA))))))))
  (seqS (asgS 2 (binE addU (bvarE 2) (boxE (lenA (consA (exPE 32 2 (consA (varE 0) (consA (varE 1) nilA))) (consA (exKE 32 2 0 2 [(true, 1), (true, 0)] nilA (consA (varE 1) (consA (varE 0) nilA))) nilA))))))
  (seqS (asgS 2 (binE addU (bvarE 2) (boxE (lenA (consA (exPE 33 2 (consA (varE 0) (consA (varE 1) nilA))) (consA (exKE 33 2 0 2 [(true, 1), (true, 0)] nilA (consA (varE 1) (consA (varE 0) nilA))) nilA))))))
  (seqS (asgS 2 (binE addU (bvarE 2) (boxE (lenA (consA (exPE 34 2 (consA (varE 0) (consA (varE 1) nilA))) (consA (exKE 34 2 0 2 [(true, 1), (true, 0)] nilA (consA (varE 1) (consA (varE 0) nilA))) nilA))))))
  (retS (binE addU (bvarE 2) (boxE (lenA (consA (fun _ => ret (.ex 35 [])) (consA (fun _ => ret (.ex 35 [])) (consA (fun _ => ret (.ex 36 [])) (consA (fun _ => ret (.ex 36 [])) nilA)))))))))))))
def m__law_others : List D → M D := fnM 3 g__law_others
theorem ok__law_others (t : TX K mg) : FnG False P w K mg base (L2.CX P w) 3 (He.ga K "_law_others") (fdAt K (He.ga K "_law_others")) ["_law_one", "_law_two"] (spF K (tbOf cls_ tabs_ K) 2 m__law_others) := by
  obtain ⟨mv_InvalidTextzz_initzz_1_problem, hk_InvalidTextzz_initzz_1_problem⟩ := kb_InvalidTextzz_initzz_1_problem t
  obtain ⟨mv_NoRowzz_initzz_1_number, hk_NoRowzz_initzz_1_number⟩ := kb_NoRowzz_initzz_1_number t
  obtain ⟨mv_NotThroughzz_initzz_1_outcome, hk_NotThroughzz_initzz_1_outcome⟩ := kb_NotThroughzz_initzz_1_outcome t
  obtain ⟨mv_InvalidLinezz_initzz_1_line, hk_InvalidLinezz_initzz_1_line⟩ := kb_InvalidLinezz_initzz_1_line t
  obtain ⟨mv_InvalidBookzz_initzz_1_name_problem, hk_InvalidBookzz_initzz_1_name_problem⟩ := kb_InvalidBookzz_initzz_1_name_problem t
  obtain ⟨mv_NotFittingzz_initzz_1_loops_section, hk_NotFittingzz_initzz_1_loops_section⟩ := kb_NotFittingzz_initzz_1_loops_section t
  obtain ⟨mv_TooManyzz_initzz_1_limit_what, hk_TooManyzz_initzz_1_limit_what⟩ := kb_TooManyzz_initzz_1_limit_what t
  exact fnD (st := s__law_others) (N := ["_law_one", "_law_two", "_law_made"]) (ps := ["_law_one", "_law_two"]) (k := 2) (g := g__law_others) (u__law_others t) sc__law_others (by decide) fun cdv hcv A outer s H E p S hr =>
  (dss_cons (ds_asg (i := 2) sc__law_others.nd (de_box (dl_lst (da_cons (de_exP (ec := 28) (takes_of rfl rfl rfl rfl) (t.oex 110) (t.meth 112) (fnOk_g (ok_NoRowzz_initzz t)) (hr.mono (by decide)) (b_NoRowzz_initzz t) (t.glo 109) rfl (da_cons (de_var 0) da_nil)) (da_cons (de_exK0 (ec := 28) (takes_of rfl rfl rfl rfl) (t.oex 110) (t.meth 112) (fnOk_g (ok_NoRowzz_initzz t)) (hr.mono (by decide)) (t.glo 109) rfl hk_NoRowzz_initzz_1_number (dk_cons (de_var 0) dk_nil)) (da_cons (de_exP (ec := 29) (takes_of rfl rfl rfl rfl) (t.oex 106) (t.meth 108) (fnOk_g (ok_InvalidTextzz_initzz t)) (hr.mono (by decide)) (b_InvalidTextzz_initzz t) (t.glo 105) rfl (da_cons (de_var 0) da_nil)) (da_cons (de_exK0 (ec := 29) (takes_of rfl rfl rfl rfl) (t.oex 106) (t.meth 108) (fnOk_g (ok_InvalidTextzz_initzz t)) (hr.mono (by decide)) (t.glo 105) rfl hk_InvalidTextzz_initzz_1_problem (dk_cons (de_var 0) dk_nil)) da_nil)))))))
  (dss_cons (ds_asg (i := 2) sc__law_others.nd (de_op od_addU (db_var 2) (db_of (de_box (dl_lst (da_cons (de_exP (ec := 30) (takes_of rfl rfl rfl rfl) (t.oex 118) (t.meth 120) (fnOk_g (ok_InvalidLinezz_initzz t)) (hr.mono (by decide)) (b_InvalidLinezz_initzz t) (t.glo 117) rfl (da_cons (de_var 0) da_nil)) (da_cons (de_exK0 (ec := 30) (takes_of rfl rfl rfl rfl) (t.oex 118) (t.meth 120) (fnOk_g (ok_InvalidLinezz_initzz t)) (hr.mono (by decide)) (t.glo 117) rfl hk_InvalidLinezz_initzz_1_line (dk_cons (de_var 0) dk_nil)) (da_cons (de_exP (ec := 31) (takes_of rfl rfl rfl rfl) (t.oex 114) (t.meth 116) (fnOk_g (ok_NotThroughzz_initzz t)) (hr.mono (by decide)) (b_NotThroughzz_initzz t) (t.glo 113) rfl (da_cons (de_var 0) da_nil)) (da_cons (de_exK0 (ec := 31) (takes_of rfl rfl rfl rfl) (t.oex 114) (t.meth 116) (fnOk_g (ok_NotThroughzz_initzz t)) (hr.mono (by decide)) (t.glo 113) rfl hk_NotThroughzz_initzz_1_outcome (dk_cons (de_var 0) dk_nil)) da_nil)))))))))
  (dss_cons (ds_asg (i := 2) sc__law_others.nd (de_op od_addU (db_var 2) (db_of (de_box (dl_lst (da_cons (de_exP (ec := 32) (takes_of rfl rfl rfl rfl) (t.oex 122) (t.meth 125) (fnOk_g (ok_InvalidBookzz_initzz t)) (hr.mono (by decide)) (b_InvalidBookzz_initzz t) (t.glo 121) rfl (da_cons (de_var 0) (da_cons (de_var 1) da_nil))) (da_cons (de_exK0 (ec := 32) (takes_of rfl rfl rfl rfl) (t.oex 122) (t.meth 125) (fnOk_g (ok_InvalidBookzz_initzz t)) (hr.mono (by decide)) (t.glo 121) rfl hk_InvalidBookzz_initzz_1_name_problem (dk_cons (de_var 1) (dk_cons (de_var 0) dk_nil))) da_nil)))))))
  (dss_cons (ds_asg (i := 2) sc__law_others.nd (de_op od_addU (db_var 2) (db_of (de_box (dl_lst (da_cons (de_exP (ec := 33) (takes_of rfl rfl rfl rfl) (t.oex 127) (t.meth 130) (fnOk_g (ok_NotFittingzz_initzz t)) (hr.mono (by decide)) (b_NotFittingzz_initzz t) (t.glo 126) rfl (da_cons (de_var 0) (da_cons (de_var 1) da_nil))) (da_cons (de_exK0 (ec := 33) (takes_of rfl rfl rfl rfl) (t.oex 127) (t.meth 130) (fnOk_g (ok_NotFittingzz_initzz t)) (hr.mono (by decide)) (t.glo 126) rfl hk_NotFittingzz_initzz_1_loops_section (dk_cons (de_var 1) (dk_cons (de_var 0) dk_nil))) da_nil)))))))
  (dss_cons (ds_asg (i := 2) sc__law_others.nd (de_op od_addU (db_var 2) (db_of (de_box (dl_lst (da_cons (de_exP (ec := 34) (takes_of rfl rfl rfl rfl) (t.oex 132) (t.meth 135) (fnOk_g (ok_TooManyzz_initzz t)) (hr.mono (by decide)) (b_TooManyzz_initzz t) (t.glo 131) rfl (da_cons (de_var 0) (da_cons (de_var 1) da_nil))) (da_cons (de_exK0 (ec := 34) (takes_of rfl rfl rfl rfl) (t.oex 132) (t.meth 135) (fnOk_g (ok_TooManyzz_initzz t)) (hr.mono (by decide)) (t.glo 131) rfl hk_TooManyzz_initzz_1_limit_what (dk_cons (de_var 1) (dk_cons (de_var 0) dk_nil))) da_nil)))))))
  (dss_one (ds_ret (de_op od_addU (db_var 2) (db_of (de_box (dl_lst (da_cons (de_ex0 (ec := 35) (t.oxn 139) (t.glo 138) rfl) (da_cons (de_ex0 (ec := 35) (t.oxn 139) (t.glo 138) rfl) (da_cons (de_ex0 (ec := 36) (t.oxn 137) (t.glo 136) rfl) (da_cons (de_ex0 (ec := 36) (t.oxn 137) (t.glo 136) rfl) da_nil)))))))))))))))
theorem b_NoBackzz_initzz (t : TX K mg) : Binds K (fdAt K (He.ma K (He.ga K "NoBack") "__init__")) ["self", "name"] [] := FunD.bindsN (u_NoBackzz_initzz t) fun _ _ _ _ _ _ us hl => match us, hl with | [_, _], _ => rfl
theorem kb_NoBackzz_initzz_1_name (t : TX K mg) : ∃ mv : List Value, KBn K (fdAt K (He.ma K (He.ga K "NoBack") "__init__")) ["self", "name"] 1 ["name"] (fun us ws => us ++ pick [(true, 0)] mv ws) (fun vs zs => vs ++ pick [(true, 0)] [] zs) := kbP (u_NoBackzz_initzz t) 1 ["name"] [(true, 0)] fun _ _ _ _ _ _ us ws h1 h2 => match us, ws, h1, h2 with | [_], [_], _, _ => rfl
theorem sc_NoBackzz_initzz : FnScope ["self", "name"] ["self", "name"] (defScope s_NoBackzz_initzz) := ⟨rfl, rfl, rfl, by decide +kernel, rfl, by decide +kernel, by decide +kernel⟩
theorem ok_NoBackzz_initzz (t : TX K mg) : FnOk P w K mg base (L2.CX P w) 1 (He.ma K (He.ga K "NoBack") "__init__") (fdAt K (He.ma K (He.ga K "NoBack") "__init__")) ["self", "name"] (spX (tbOf cls_ tabs_ K) 25) :=
  fnX1 (T := tbOf cls_ tabs_ K) (ec := 25) (u_NoBackzz_initzz t) sc_NoBackzz_initzz (t.oex 142) rfl (t.noat 143) fun cdv A outer s H E => pss_one (ps_xst (pv 0) (pv 1))
theorem b_UnknownKindzz_initzz (t : TX K mg) : Binds K (fdAt K (He.ma K (He.ga K "UnknownKind") "__init__")) ["self", "name"] [] := FunD.bindsN (u_UnknownKindzz_initzz t) fun _ _ _ _ _ _ us hl => match us, hl with | [_, _], _ => rfl
theorem kb_UnknownKindzz_initzz_1_name (t : TX K mg) : ∃ mv : List Value, KBn K (fdAt K (He.ma K (He.ga K "UnknownKind") "__init__")) ["self", "name"] 1 ["name"] (fun us ws => us ++ pick [(true, 0)] mv ws) (fun vs zs => vs ++ pick [(true, 0)] [] zs) := kbP (u_UnknownKindzz_initzz t) 1 ["name"] [(true, 0)] fun _ _ _ _ _ _ us ws h1 h2 => match us, ws, h1, h2 with | [_], [_], _, _ => rfl
theorem sc_UnknownKindzz_initzz : FnScope ["self", "name"] ["self", "name"] (defScope s_UnknownKindzz_initzz) := ⟨rfl, rfl, rfl, by decide +kernel, rfl, by decide +kernel, by decide +kernel⟩
theorem ok_UnknownKindzz_initzz (t : TX K mg) : FnOk P w K mg base (L2.CX P w) 1 (He.ma K (He.ga K "UnknownKind") "__init__") (fdAt K (He.ma K (He.ga K "UnknownKind") "__init__")) ["self", "name"] (spX (tbOf cls_ tabs_ K) 24) :=
  fnX1 (T := tbOf cls_ tabs_ K) (ec := 24) (u_UnknownKindzz_initzz t) sc_UnknownKindzz_initzz (t.oex 146) rfl (t.noat 147) fun cdv A outer s H E => pss_one (ps_xst (pv 0) (pv 1))
theorem b_UnknownPatternzz_initzz (t : TX K mg) : Binds K (fdAt K (He.ma K (He.ga K "UnknownPattern") "__init__")) ["self", "name"] [] := FunD.bindsN (u_UnknownPatternzz_initzz t) fun _ _ _ _ _ _ us hl => match us, hl with | [_, _], _ => rfl
theorem kb_UnknownPatternzz_initzz_1_name (t : TX K mg) : ∃ mv : List Value, KBn K (fdAt K (He.ma K (He.ga K "UnknownPattern") "__init__")) ["self", "name"] 1 ["name"] (fun us ws => us ++ pick [(true, 0)] mv ws) (fun vs zs => vs ++ pick [(true, 0)] [] zs) := kbP (u_UnknownPatternzz_initzz t) 1 ["name"] [(true, 0)] fun _ _ _ _ _ _ us ws h1 h2 => match us, ws, h1, h2 with | [_], [_], _, _ => rfl
theorem sc_UnknownPatternzz_initzz : FnScope ["self", "name"] ["self", "name"] (defScope s_UnknownPatternzz_initzz) := ⟨rfl, rfl, rfl, by decide +kernel, rfl, by decide +kernel, by decide +kernel⟩
theorem ok_UnknownPatternzz_initzz (t : TX K mg) : FnOk P w K mg base (L2.CX P w) 1 (He.ma K (He.ga K "UnknownPattern") "__init__") (fdAt K (He.ma K (He.ga K "UnknownPattern") "__init__")) ["self", "name"] (spX (tbOf cls_ tabs_ K) 27) :=
  fnX1 (T := tbOf cls_ tabs_ K) (ec := 27) (u_UnknownPatternzz_initzz t) sc_UnknownPatternzz_initzz (t.oex 150) rfl (t.noat 151) fun cdv A outer s H E => pss_one (ps_xst (pv 0) (pv 1))
theorem b_NoMirrorzz_initzz (t : TX K mg) : Binds K (fdAt K (He.ma K (He.ga K "NoMirror") "__init__")) ["self", "name"] [] := FunD.bindsN (u_NoMirrorzz_initzz t) fun _ _ _ _ _ _ us hl => match us, hl with | [_, _], _ => rfl
theorem kb_NoMirrorzz_initzz_1_name (t : TX K mg) : ∃ mv : List Value, KBn K (fdAt K (He.ma K (He.ga K "NoMirror") "__init__")) ["self", "name"] 1 ["name"] (fun us ws => us ++ pick [(true, 0)] mv ws) (fun vs zs => vs ++ pick [(true, 0)] [] zs) := kbP (u_NoMirrorzz_initzz t) 1 ["name"] [(true, 0)] fun _ _ _ _ _ _ us ws h1 h2 => match us, ws, h1, h2 with | [_], [_], _, _ => rfl
theorem sc_NoMirrorzz_initzz : FnScope ["self", "name"] ["self", "name"] (defScope s_NoMirrorzz_initzz) := ⟨rfl, rfl, rfl, by decide +kernel, rfl, by decide +kernel, by decide +kernel⟩
theorem ok_NoMirrorzz_initzz (t : TX K mg) : FnOk P w K mg base (L2.CX P w) 1 (He.ma K (He.ga K "NoMirror") "__init__") (fdAt K (He.ma K (He.ga K "NoMirror") "__init__")) ["self", "name"] (spX (tbOf cls_ tabs_ K) 26) :=
  fnX1 (T := tbOf cls_ tabs_ K) (ec := 26) (u_NoMirrorzz_initzz t) sc_NoMirrorzz_initzz (t.oex 154) rfl (t.noat 155) fun cdv A outer s H E => pss_one (ps_xst (pv 0) (pv 1))
theorem b__law_by_name (t : TX K mg) : Binds K (fdAt K (He.ga K "_law_by_name")) ["_law_one"] [] := FunD.bindsN (u__law_by_name t) fun _ _ _ _ _ _ us hl => match us, hl with | [_], _ => rfl
theorem sc__law_by_name : FnScope ["_law_one", "_law_made"] ["_law_one"] (defScope s__law_by_name) := ⟨rfl, rfl, rfl, by decide +kernel, rfl, by decide +kernel, by decide +kernel⟩
def g__law_by_name : Slots → M Out := (seqS (asgS 1 (boxE (lenA (consA (exPE 24 1 (consA (varE 0) nilA)) (consA (exKE 24 1 0 1 [(true, 0)] nilA (consA (varE 0) nilA)) (consA (exPE 25 1 (consA (varE 0) nilA)) (consA (exKE 25 1 0 1 [(true, 0)] nilA (consA (varE 0) nilA)) nilA)))))))
  (retS (binE addU (bvarE 1) (boxE (lenA (consA (exPE 26 1 (consA (varE 0) nilA)) (consA (exKE 26 1 0 1 [(true, 0)] nilA (consA (varE 0) nilA)) (consA (exPE 27 1 (consA (varE 0) nilA)) (consA (exKE 27 1 0 1 [(true, 0)] nilA (consA (varE 0) nilA)) nilA)))))))))
def m__law_by_name : List D → M D := fnM 2 g__law_by_name
theorem ok__law_by_name (t : TX K mg) : FnG False P w K mg base (L2.CX P w) 3 (He.ga K "_law_by_name") (fdAt K (He.ga K "_law_by_name")) ["_law_one"] (spF K (tbOf cls_ tabs_ K) 1 m__law_by_name) := by
  obtain ⟨mv_NoBackzz_initzz_1_name, hk_NoBackzz_initzz_1_name⟩ := kb_NoBackzz_initzz_1_name t
  obtain ⟨mv_UnknownKindzz_initzz_1_name, hk_UnknownKindzz_initzz_1_name⟩ := kb_UnknownKindzz_initzz_1_name t
  obtain ⟨mv_UnknownPatternzz_initzz_1_name, hk_UnknownPatternzz_initzz_1_name⟩ := kb_UnknownPatternzz_initzz_1_name t
  obtain ⟨mv_NoMirrorzz_initzz_1_name, hk_NoMirrorzz_initzz_1_name⟩ := kb_NoMirrorzz_initzz_1_name t
  exact fnD (st := s__law_by_name) (N := ["_law_one", "_law_made"]) (ps := ["_law_one"]) (k := 2) (g := g__law_by_name) (u__law_by_name t) sc__law_by_name (by decide) fun cdv hcv A outer s H E p S hr =>
  (dss_cons (ds_asg (i := 1) sc__law_by_name.nd (de_box (dl_lst (da_cons (de_exP (ec := 24) (takes_of rfl rfl rfl rfl) (t.oex 146) (t.meth 148) (fnOk_g (ok_UnknownKindzz_initzz t)) (hr.mono (by decide)) (b_UnknownKindzz_initzz t) (t.glo 145) rfl (da_cons (de_var 0) da_nil)) (da_cons (de_exK0 (ec := 24) (takes_of rfl rfl rfl rfl) (t.oex 146) (t.meth 148) (fnOk_g (ok_UnknownKindzz_initzz t)) (hr.mono (by decide)) (t.glo 145) rfl hk_UnknownKindzz_initzz_1_name (dk_cons (de_var 0) dk_nil)) (da_cons (de_exP (ec := 25) (takes_of rfl rfl rfl rfl) (t.oex 142) (t.meth 144) (fnOk_g (ok_NoBackzz_initzz t)) (hr.mono (by decide)) (b_NoBackzz_initzz t) (t.glo 141) rfl (da_cons (de_var 0) da_nil)) (da_cons (de_exK0 (ec := 25) (takes_of rfl rfl rfl rfl) (t.oex 142) (t.meth 144) (fnOk_g (ok_NoBackzz_initzz t)) (hr.mono (by decide)) (t.glo 141) rfl hk_NoBackzz_initzz_1_name (dk_cons (de_var 0) dk_nil)) da_nil)))))))
  (dss_one (ds_ret (de_op od_addU (db_var 1) (db_of (de_box (dl_lst (da_cons (de_exP (ec := 26) (takes_of rfl rfl rfl rfl) (t.oex 154) (t.meth 156) (fnOk_g (ok_NoMirrorzz_initzz t)) (hr.mono (by decide)) (b_NoMirrorzz_initzz t) (t.glo 153) rfl (da_cons (de_var 0) da_nil)) (da_cons (de_exK0 (ec := 26) (takes_of rfl rfl rfl rfl) (t.oex 154) (t.meth 156) (fnOk_g (ok_NoMirrorzz_initzz t)) (hr.mono (by decide)) (t.glo 153) rfl hk_NoMirrorzz_initzz_1_name (dk_cons (de_var 0) dk_nil)) (da_cons (de_exP (ec := 27) (takes_of rfl rfl rfl rfl) (t.oex 150) (t.meth 152) (fnOk_g (ok_UnknownPatternzz_initzz t)) (hr.mono (by decide)) (b_UnknownPatternzz_initzz t) (t.glo 149) rfl (da_cons (de_var 0) da_nil)) (da_cons (de_exK0 (ec := 27) (takes_of rfl rfl rfl rfl) (t.oex 150) (t.meth 152) (fnOk_g (ok_UnknownPatternzz_initzz t)) (hr.mono (by decide)) (t.glo 149) rfl hk_UnknownPatternzz_initzz_1_name (dk_cons (de_var 0) dk_nil)) da_nil)))))))))))
theorem b__law_marks (t : TX K mg) : Binds K (fdAt K (He.ga K "_law_marks")) ["_law_made"] [] := FunD.bindsN (u__law_marks t) fun _ _ _ _ _ _ us hl => match us, hl with | [_], _ => rfl
theorem sc__law_marks : FnScope ["_law_made", "_law_marks_here"] ["_law_made"] (defScope s__law_marks) := ⟨rfl, rfl, rfl, by decide +kernel, rfl, by decide +kernel, by decide +kernel⟩
def g__law_marks : Slots → M Out := (seqS (asgS 1 (boxE (lenA (consA (isxE (fun e => ((kit_InvalidName : List (Option Bool))[e]?).join) (varE 0)) (consA (isxE (fun e => ((kit_InvalidNumber : List (Option Bool))[e]?).join) (varE 0)) (consA (isxE (fun e => ((kit_InvalidKind : List (Option Bool))[e]?).join) (varE 0)) nilA))))))
  (seqS (asgS 1 (binE addU (bvarE 1) (boxE (lenA (consA (isxE (fun e => ((kit_InvalidWord : List (Option Bool))[e]?).join) (varE 0)) (consA (isxE (fun e => ((kit_InvalidCounts : List (Option Bool))[e]?).join) (varE 0)) (consA (isxE (fun e => ((kit_InvalidSection : List (Option Bool))[e]?).join) (varE 0)) nilA)))))))
  (seqS (asgS 1 (binE addU (bvarE 1) (boxE (lenA (consA (isxE (fun e => ((kit_InvalidEdge : List (Option Bool))[e]?).join) (varE 0)) (consA (isxE (fun e => ((kit_InvalidWay : List (Option Bool))[e]?).join) (varE 0)) (consA (isxE (fun e => ((kit_InvalidSketch : List (Option Bool))[e]?).join) (varE 0)) nilA)))))))
  (seqS (asgS 1 (binE addU (bvarE 1) (boxE (lenA (consA (isxE (fun e => ((kit_InvalidPattern : List (Option Bool))[e]?).join) (varE 0)) (consA (isxE (fun e => ((kit_InvalidForm : List (Option Bool))[e]?).join) (varE 0)) (consA (isxE (fun e => ((kit_InvalidPoint : List (Option Bool))[e]?).join) (varE 0)) nilA)))))))
  (seqS (asgS 1 (binE addU (bvarE 1) (boxE (lenA (consA (isxE (fun e => ((kit_InvalidFamily : List (Option Bool))[e]?).join) (varE 0)) (consA (isxE (fun e => ((kit_InvalidCommand : List (Option Bool))[e]?).join) (varE 0)) nilA))))))
  (seqS (asgS 1 (binE addU (bvarE 1) (boxE (lenA (consA (isxE (fun e => ((kit_InvalidParts : List (Option Bool))[e]?).join) (varE 0)) (consA (isxE (fun e => ((kit_InvalidTexts : List (Option Bool))[e]?).join) (varE 0)) (consA (isxE (fun e => ((kit_InvalidRows : List (Option Bool))[e]?).join) (varE 0)) nilA)))))))
  (seqS (asgS 1 (binE addU (bvarE 1) (boxE (lenA (consA (isxE (fun e => ((kit_InvalidCastOn : List (Option Bool))[e]?).join) (varE 0)) (consA (isxE (fun e => ((kit_InvalidSteps : List (Option Bool))[e]?).join) (varE 0)) (consA (isxE (fun e => ((kit_InvalidBlock : List (Option Bool))[e]?).join) (varE 0)) nilA)))))))
  (seqS (asgS 1 (binE addU (bvarE 1) (boxE (lenA (consA (isxE (fun e => ((kit_InvalidStretches : List (Option Bool))[e]?).join) (varE 0)) (consA (isxE (fun e => ((kit_InvalidSchedules : List (Option Bool))[e]?).join) (varE 0)) nilA))))))
  (seqS (asgS 1 (binE addU (bvarE 1) (boxE (lenA (consA (isxE (fun e => ((kit_InvalidCell : List (Option Bool))[e]?).join) (varE 0)) (consA (isxE (fun e => ((kit_BelowZero : List (Option Bool))[e]?).join) (varE 0)) nilA))))))
  (seqS (asgS 1 (binE addU (bvarE 1) (boxE (lenA (consA (isxE (fun e => ((kit_UnknownKind : List (Option Bool))[e]?).join) (varE 0)) (consA (isxE (fun e => ((kit_NoBack : List (Option Bool))[e]?).join) (varE 0)) (consA (isxE (fun e => ((kit_NoMirror : List (Option Bool))[e]?).join) (varE 0)) nilA)))))))
  (seqS (asgS 1 (binE addU (bvarE 1) (boxE (lenA (consA (isxE (fun e => ((kit_UnknownPattern : List (Option Bool))[e]?).join) (varE 0)) nilA)))))
  (seqS (asgS 1 (binE addU (bvarE 1) (boxE (lenA (consA (isxE (fun e => ((kit_NoRow : List (Option Bool))[e]?).join) (varE 0)) (consA (isxE (fun e => ((kit_InvalidText : List (Option Bool))[e]?).join) (varE 0)) (consA (isxE (fun e => ((kit_InvalidLine : List (Option Bool))[e]?).join) (varE 0)) nilA)))))))
  (seqS (asgS 1 (binE addU (bvarE 1) (boxE (lenA (consA (isxE (fun e => ((kit_NotThrough : List (Option Bool))[e]?).join) (varE 0)) (consA (isxE (fun e => ((kit_InvalidBook : List (Option Bool))[e]?).join) (varE 0)) (consA (isxE (fun e => ((kit_NotFitting : List (Option Bool))[e]?).join) (varE 0)) nilA)))))))
  (retS (binE addU (bvarE 1) (boxE (lenA (consA (isxE (fun e => ((kit_TooMany : List (Option Bool))[e]?).join) (varE 0)) (consA (isxE (fun e => ((kit_InvalidBooks : List (Option Bool))[e]?).join) (varE 0)) (consA (isxE (fun e => ((kit_NothingToUndo : List (Option Bool))[e]?).join) (varE 0)) nilA))))))))))))))))))))
def m__law_marks : List D → M D := fnM 2 g__law_marks
theorem ok__law_marks (t : TX K mg) : FnG False P w K mg base (L2.CX P w) 1 (He.ga K "_law_marks") (fdAt K (He.ga K "_law_marks")) ["_law_made"] (spF K (tbOf cls_ tabs_ K) 1 m__law_marks) :=
  fnD (st := s__law_marks) (N := ["_law_made", "_law_marks_here"]) (ps := ["_law_made"]) (k := 0) (g := g__law_marks) (u__law_marks t) sc__law_marks (by decide) fun cdv hcv A outer s H E p S hr =>
  (dss_cons (ds_asg (i := 1) sc__law_marks.nd (de_box (dl_lst (da_cons (de_isx (de_var 0) (pe_gcl (t.glo 52)) (.own _) (t.isx (cs := cls_) (tf := tabs_) (as := kit_InvalidName) (u := fun K => .ref (He.ga K "InvalidName")) 159 163 rfl rfl rfl) (t.free 161) bo_isinstance) (da_cons (de_isx (de_var 0) (pe_gcl (t.glo 48)) (.own _) (t.isx (cs := cls_) (tf := tabs_) (as := kit_InvalidNumber) (u := fun K => .ref (He.ga K "InvalidNumber")) 159 162 rfl rfl rfl) (t.free 161) bo_isinstance) (da_cons (de_isx (de_var 0) (pe_gcl (t.glo 60)) (.own _) (t.isx (cs := cls_) (tf := tabs_) (as := kit_InvalidKind) (u := fun K => .ref (He.ga K "InvalidKind")) 159 160 rfl rfl rfl) (t.free 161) bo_isinstance) da_nil))))))
  (dss_cons (ds_asg (i := 1) sc__law_marks.nd (de_op od_addU (db_var 1) (db_of (de_box (dl_lst (da_cons (de_isx (de_var 0) (pe_gcl (t.glo 56)) (.own _) (t.isx (cs := cls_) (tf := tabs_) (as := kit_InvalidWord) (u := fun K => .ref (He.ga K "InvalidWord")) 159 166 rfl rfl rfl) (t.free 161) bo_isinstance) (da_cons (de_isx (de_var 0) (pe_gcl (t.glo 68)) (.own _) (t.isx (cs := cls_) (tf := tabs_) (as := kit_InvalidCounts) (u := fun K => .ref (He.ga K "InvalidCounts")) 159 165 rfl rfl rfl) (t.free 161) bo_isinstance) (da_cons (de_isx (de_var 0) (pe_gcl (t.glo 64)) (.own _) (t.isx (cs := cls_) (tf := tabs_) (as := kit_InvalidSection) (u := fun K => .ref (He.ga K "InvalidSection")) 159 164 rfl rfl rfl) (t.free 161) bo_isinstance) da_nil))))))))
  (dss_cons (ds_asg (i := 1) sc__law_marks.nd (de_op od_addU (db_var 1) (db_of (de_box (dl_lst (da_cons (de_isx (de_var 0) (pe_gcl (t.glo 76)) (.own _) (t.isx (cs := cls_) (tf := tabs_) (as := kit_InvalidEdge) (u := fun K => .ref (He.ga K "InvalidEdge")) 159 169 rfl rfl rfl) (t.free 161) bo_isinstance) (da_cons (de_isx (de_var 0) (pe_gcl (t.glo 72)) (.own _) (t.isx (cs := cls_) (tf := tabs_) (as := kit_InvalidWay) (u := fun K => .ref (He.ga K "InvalidWay")) 159 168 rfl rfl rfl) (t.free 161) bo_isinstance) (da_cons (de_isx (de_var 0) (pe_gcl (t.glo 84)) (.own _) (t.isx (cs := cls_) (tf := tabs_) (as := kit_InvalidSketch) (u := fun K => .ref (He.ga K "InvalidSketch")) 159 167 rfl rfl rfl) (t.free 161) bo_isinstance) da_nil))))))))
  (dss_cons (ds_asg (i := 1) sc__law_marks.nd (de_op od_addU (db_var 1) (db_of (de_box (dl_lst (da_cons (de_isx (de_var 0) (pe_gcl (t.glo 80)) (.own _) (t.isx (cs := cls_) (tf := tabs_) (as := kit_InvalidPattern) (u := fun K => .ref (He.ga K "InvalidPattern")) 159 172 rfl rfl rfl) (t.free 161) bo_isinstance) (da_cons (de_isx (de_var 0) (pe_gcl (t.glo 92)) (.own _) (t.isx (cs := cls_) (tf := tabs_) (as := kit_InvalidForm) (u := fun K => .ref (He.ga K "InvalidForm")) 159 171 rfl rfl rfl) (t.free 161) bo_isinstance) (da_cons (de_isx (de_var 0) (pe_gcl (t.glo 88)) (.own _) (t.isx (cs := cls_) (tf := tabs_) (as := kit_InvalidPoint) (u := fun K => .ref (He.ga K "InvalidPoint")) 159 170 rfl rfl rfl) (t.free 161) bo_isinstance) da_nil))))))))
  (dss_cons (ds_asg (i := 1) sc__law_marks.nd (de_op od_addU (db_var 1) (db_of (de_box (dl_lst (da_cons (de_isx (de_var 0) (pe_gcl (t.glo 100)) (.own _) (t.isx (cs := cls_) (tf := tabs_) (as := kit_InvalidFamily) (u := fun K => .ref (He.ga K "InvalidFamily")) 159 174 rfl rfl rfl) (t.free 161) bo_isinstance) (da_cons (de_isx (de_var 0) (pe_gcl (t.glo 96)) (.own _) (t.isx (cs := cls_) (tf := tabs_) (as := kit_InvalidCommand) (u := fun K => .ref (He.ga K "InvalidCommand")) 159 173 rfl rfl rfl) (t.free 161) bo_isinstance) da_nil)))))))
  (dss_cons (ds_asg (i := 1) sc__law_marks.nd (de_op od_addU (db_var 1) (db_of (de_box (dl_lst (da_cons (de_isx (de_var 0) (pe_gcl (t.glo 11)) (.own _) (t.isx (cs := cls_) (tf := tabs_) (as := kit_InvalidParts) (u := fun K => .ref (He.ga K "InvalidParts")) 159 177 rfl rfl rfl) (t.free 161) bo_isinstance) (da_cons (de_isx (de_var 0) (pe_gcl (t.glo 7)) (.own _) (t.isx (cs := cls_) (tf := tabs_) (as := kit_InvalidTexts) (u := fun K => .ref (He.ga K "InvalidTexts")) 159 176 rfl rfl rfl) (t.free 161) bo_isinstance) (da_cons (de_isx (de_var 0) (pe_gcl (t.glo 19)) (.own _) (t.isx (cs := cls_) (tf := tabs_) (as := kit_InvalidRows) (u := fun K => .ref (He.ga K "InvalidRows")) 159 175 rfl rfl rfl) (t.free 161) bo_isinstance) da_nil))))))))
  (dss_cons (ds_asg (i := 1) sc__law_marks.nd (de_op od_addU (db_var 1) (db_of (de_box (dl_lst (da_cons (de_isx (de_var 0) (pe_gcl (t.glo 15)) (.own _) (t.isx (cs := cls_) (tf := tabs_) (as := kit_InvalidCastOn) (u := fun K => .ref (He.ga K "InvalidCastOn")) 159 180 rfl rfl rfl) (t.free 161) bo_isinstance) (da_cons (de_isx (de_var 0) (pe_gcl (t.glo 27)) (.own _) (t.isx (cs := cls_) (tf := tabs_) (as := kit_InvalidSteps) (u := fun K => .ref (He.ga K "InvalidSteps")) 159 179 rfl rfl rfl) (t.free 161) bo_isinstance) (da_cons (de_isx (de_var 0) (pe_gcl (t.glo 23)) (.own _) (t.isx (cs := cls_) (tf := tabs_) (as := kit_InvalidBlock) (u := fun K => .ref (He.ga K "InvalidBlock")) 159 178 rfl rfl rfl) (t.free 161) bo_isinstance) da_nil))))))))
  (dss_cons (ds_asg (i := 1) sc__law_marks.nd (de_op od_addU (db_var 1) (db_of (de_box (dl_lst (da_cons (de_isx (de_var 0) (pe_gcl (t.glo 35)) (.own _) (t.isx (cs := cls_) (tf := tabs_) (as := kit_InvalidStretches) (u := fun K => .ref (He.ga K "InvalidStretches")) 159 182 rfl rfl rfl) (t.free 161) bo_isinstance) (da_cons (de_isx (de_var 0) (pe_gcl (t.glo 31)) (.own _) (t.isx (cs := cls_) (tf := tabs_) (as := kit_InvalidSchedules) (u := fun K => .ref (He.ga K "InvalidSchedules")) 159 181 rfl rfl rfl) (t.free 161) bo_isinstance) da_nil)))))))
  (dss_cons (ds_asg (i := 1) sc__law_marks.nd (de_op od_addU (db_var 1) (db_of (de_box (dl_lst (da_cons (de_isx (de_var 0) (pe_gcl (t.glo 39)) (.own _) (t.isx (cs := cls_) (tf := tabs_) (as := kit_InvalidCell) (u := fun K => .ref (He.ga K "InvalidCell")) 159 184 rfl rfl rfl) (t.free 161) bo_isinstance) (da_cons (de_isx (de_var 0) (pe_gcl (t.glo 43)) (.own _) (t.isx (cs := cls_) (tf := tabs_) (as := kit_BelowZero) (u := fun K => .ref (He.ga K "BelowZero")) 159 183 rfl rfl rfl) (t.free 161) bo_isinstance) da_nil)))))))
  (dss_cons (ds_asg (i := 1) sc__law_marks.nd (de_op od_addU (db_var 1) (db_of (de_box (dl_lst (da_cons (de_isx (de_var 0) (pe_gcl (t.glo 145)) (.own _) (t.isx (cs := cls_) (tf := tabs_) (as := kit_UnknownKind) (u := fun K => .ref (He.ga K "UnknownKind")) 159 187 rfl rfl rfl) (t.free 161) bo_isinstance) (da_cons (de_isx (de_var 0) (pe_gcl (t.glo 141)) (.own _) (t.isx (cs := cls_) (tf := tabs_) (as := kit_NoBack) (u := fun K => .ref (He.ga K "NoBack")) 159 186 rfl rfl rfl) (t.free 161) bo_isinstance) (da_cons (de_isx (de_var 0) (pe_gcl (t.glo 153)) (.own _) (t.isx (cs := cls_) (tf := tabs_) (as := kit_NoMirror) (u := fun K => .ref (He.ga K "NoMirror")) 159 185 rfl rfl rfl) (t.free 161) bo_isinstance) da_nil))))))))
  (dss_cons (ds_asg (i := 1) sc__law_marks.nd (de_op od_addU (db_var 1) (db_of (de_box (dl_lst (da_cons (de_isx (de_var 0) (pe_gcl (t.glo 149)) (.own _) (t.isx (cs := cls_) (tf := tabs_) (as := kit_UnknownPattern) (u := fun K => .ref (He.ga K "UnknownPattern")) 159 188 rfl rfl rfl) (t.free 161) bo_isinstance) da_nil))))))
  (dss_cons (ds_asg (i := 1) sc__law_marks.nd (de_op od_addU (db_var 1) (db_of (de_box (dl_lst (da_cons (de_isx (de_var 0) (pe_gcl (t.glo 109)) (.own _) (t.isx (cs := cls_) (tf := tabs_) (as := kit_NoRow) (u := fun K => .ref (He.ga K "NoRow")) 159 191 rfl rfl rfl) (t.free 161) bo_isinstance) (da_cons (de_isx (de_var 0) (pe_gcl (t.glo 105)) (.own _) (t.isx (cs := cls_) (tf := tabs_) (as := kit_InvalidText) (u := fun K => .ref (He.ga K "InvalidText")) 159 190 rfl rfl rfl) (t.free 161) bo_isinstance) (da_cons (de_isx (de_var 0) (pe_gcl (t.glo 117)) (.own _) (t.isx (cs := cls_) (tf := tabs_) (as := kit_InvalidLine) (u := fun K => .ref (He.ga K "InvalidLine")) 159 189 rfl rfl rfl) (t.free 161) bo_isinstance) da_nil))))))))
  (dss_cons (ds_asg (i := 1) sc__law_marks.nd (de_op od_addU (db_var 1) (db_of (de_box (dl_lst (da_cons (de_isx (de_var 0) (pe_gcl (t.glo 113)) (.own _) (t.isx (cs := cls_) (tf := tabs_) (as := kit_NotThrough) (u := fun K => .ref (He.ga K "NotThrough")) 159 194 rfl rfl rfl) (t.free 161) bo_isinstance) (da_cons (de_isx (de_var 0) (pe_gcl (t.glo 121)) (.own _) (t.isx (cs := cls_) (tf := tabs_) (as := kit_InvalidBook) (u := fun K => .ref (He.ga K "InvalidBook")) 159 193 rfl rfl rfl) (t.free 161) bo_isinstance) (da_cons (de_isx (de_var 0) (pe_gcl (t.glo 126)) (.own _) (t.isx (cs := cls_) (tf := tabs_) (as := kit_NotFitting) (u := fun K => .ref (He.ga K "NotFitting")) 159 192 rfl rfl rfl) (t.free 161) bo_isinstance) da_nil))))))))
  (dss_one (ds_ret (de_op od_addU (db_var 1) (db_of (de_box (dl_lst (da_cons (de_isx (de_var 0) (pe_gcl (t.glo 131)) (.own _) (t.isx (cs := cls_) (tf := tabs_) (as := kit_TooMany) (u := fun K => .ref (He.ga K "TooMany")) 159 197 rfl rfl rfl) (t.free 161) bo_isinstance) (da_cons (de_isx (de_var 0) (pe_gcl (t.glo 138)) (.own _) (t.isx (cs := cls_) (tf := tabs_) (as := kit_InvalidBooks) (u := fun K => .ref (He.ga K "InvalidBooks")) 159 196 rfl rfl rfl) (t.free 161) bo_isinstance) (da_cons (de_isx (de_var 0) (pe_gcl (t.glo 136)) (.own _) (t.isx (cs := cls_) (tf := tabs_) (as := kit_NothingToUndo) (u := fun K => .ref (He.ga K "NothingToUndo")) 159 195 rfl rfl rfl) (t.free 161) bo_isinstance) da_nil))))))))))))))))))))))
theorem b__law_base_right (t : TX K mg) : Binds K (fdAt K (He.ga K "_law_base_right")) ["_law_made", "_law_place"] [] := FunD.bindsN (u__law_base_right t) fun _ _ _ _ _ _ us hl => match us, hl with | [_, _], _ => rfl
theorem sc__law_base_right : FnScope ["_law_made", "_law_place", "_law_bases", "_law_at", "_law_k"] ["_law_made", "_law_place"] (defScope s__law_base_right) := ⟨rfl, rfl, rfl, by decide +kernel, rfl, by decide +kernel, by decide +kernel⟩
def g__law_base_right : Slots → M Out := (seqS (asgS 2 (boxE (lenA (consA (isxE (fun e => ((kit_StitchError : List (Option Bool))[e]?).join) (varE 0)) (consA (isxE (fun e => ((kit_MissingError : List (Option Bool))[e]?).join) (varE 0)) (consA (isxE (fun e => ((kit_StateError : List (Option Bool))[e]?).join) (varE 0)) nilA))))))
  (seqS (asgS 2 (binE addU (bvarE 2) (boxE (lenA (consA (isxE (fun e => ((kit_LimitError : List (Option Bool))[e]?).join) (varE 0)) (consA (isxE (fun e => ((kit_ValueError : List (Option Bool))[e]?).join) (varE 0)) (consA (isxE (fun e => ((kit_LookupError : List (Option Bool))[e]?).join) (varE 0)) nilA)))))))
  (seqS (asgS 2 (binE addU (bvarE 2) (boxE (lenA (consA (isxE (fun e => ((kit_RuntimeError : List (Option Bool))[e]?).join) (varE 0)) (consA (isxE (fun e => ((kit_ArithmeticError : List (Option Bool))[e]?).join) (varE 0)) nilA))))))
  (seqS (asgS 3 (cE (.int 0)))
  (seqS (ifS (testE (chI (fun i j => decide (i ≤ j)) (fun i j => decide (i ≤ j)) (cE (.int 24)) (varE 1) (cE (.int 28)))) (asgS 3 (cE (.int 1))) nilS)
  (seqS (ifS (testE (binE (pu inD) (bvarE 1) (tupE (consA (cE (.int 23)) (consA (cE (.int 31)) (consA (cE (.int 33)) (consA (cE (.int 36)) nilA))))))) (asgS 3 (cE (.int 2))) nilS)
  (seqS (ifS (testE (binE (pu dEq) (bvarE 1) (cE (.int 34)))) (asgS 3 (cE (.int 3))) nilS)
  (retS (binE (pu dEq) (bvarE 2) (boxE (compE (itA rng1 (consA (cE (.int 8)) nilA)) [4] (tgN 4) yesT (binE (pu inD) (bvarE 4) (tupE (consA (varE 3) (consA (binE addU (bvarE 3) (cE (.int 4))) nilA)))))))))))))))
def m__law_base_right : List D → M D := fnM 5 g__law_base_right
theorem ok__law_base_right (t : TX K mg) : FnG False P w K mg base (L2.CX P w) 1 (He.ga K "_law_base_right") (fdAt K (He.ga K "_law_base_right")) ["_law_made", "_law_place"] (spF K (tbOf cls_ tabs_ K) 2 m__law_base_right) :=
  fnD (st := s__law_base_right) (N := ["_law_made", "_law_place", "_law_bases", "_law_at", "_law_k"]) (ps := ["_law_made", "_law_place"]) (k := 0) (g := g__law_base_right) (u__law_base_right t) sc__law_base_right (by decide) fun cdv hcv A outer s H E p S hr =>
  (dss_cons (ds_asg (i := 2) sc__law_base_right.nd (de_box (dl_lst (da_cons (de_isx (de_var 0) (pe_gcl (t.glo 203)) (.own _) (t.isx (cs := cls_) (tf := tabs_) (as := kit_StitchError) (u := fun K => .ref (He.ga K "StitchError")) 159 204 rfl rfl rfl) (t.free 161) bo_isinstance) (da_cons (de_isx (de_var 0) (pe_gcl (t.glo 201)) (.own _) (t.isx (cs := cls_) (tf := tabs_) (as := kit_MissingError) (u := fun K => .ref (He.ga K "MissingError")) 159 202 rfl rfl rfl) (t.free 161) bo_isinstance) (da_cons (de_isx (de_var 0) (pe_gcl (t.glo 199)) (.own _) (t.isx (cs := cls_) (tf := tabs_) (as := kit_StateError) (u := fun K => .ref (He.ga K "StateError")) 159 200 rfl rfl rfl) (t.free 161) bo_isinstance) da_nil))))))
  (dss_cons (ds_asg (i := 2) sc__law_base_right.nd (de_op od_addU (db_var 2) (db_of (de_box (dl_lst (da_cons (de_isx (de_var 0) (pe_gcl (t.glo 209)) (.own _) (t.isx (cs := cls_) (tf := tabs_) (as := kit_LimitError) (u := fun K => .ref (He.ga K "LimitError")) 159 210 rfl rfl rfl) (t.free 161) bo_isinstance) (da_cons (de_isx (de_var 0) (pe_bty (t.free 207) bo_ValueError) (.ty _) (t.isx (cs := cls_) (tf := tabs_) (as := kit_ValueError) (u := fun _ => .type "ValueError") 159 208 rfl rfl rfl) (t.free 161) bo_isinstance) (da_cons (de_isx (de_var 0) (pe_bty (t.free 205) bo_LookupError) (.ty _) (t.isx (cs := cls_) (tf := tabs_) (as := kit_LookupError) (u := fun _ => .type "LookupError") 159 206 rfl rfl rfl) (t.free 161) bo_isinstance) da_nil))))))))
  (dss_cons (ds_asg (i := 2) sc__law_base_right.nd (de_op od_addU (db_var 2) (db_of (de_box (dl_lst (da_cons (de_isx (de_var 0) (pe_bty (t.free 213) bo_RuntimeError) (.ty _) (t.isx (cs := cls_) (tf := tabs_) (as := kit_RuntimeError) (u := fun _ => .type "RuntimeError") 159 214 rfl rfl rfl) (t.free 161) bo_isinstance) (da_cons (de_isx (de_var 0) (pe_bty (t.free 211) bo_ArithmeticError) (.ty _) (t.isx (cs := cls_) (tf := tabs_) (as := kit_ArithmeticError) (u := fun _ => .type "ArithmeticError") 159 212 rfl rfl rfl) (t.free 161) bo_isinstance) da_nil)))))))
  (dss_cons (ds_asg (i := 3) sc__law_base_right.nd de_int)
  (dss_cons (ds_if (dt_ch op_le op_le de_int (de_var 1) de_int) (dss_one (ds_asg (i := 3) sc__law_base_right.nd de_int)) dss_nil)
  (dss_cons (ds_if (dt_cmp od_in (db_var 1) (db_of (de_tup (da_cons de_int (da_cons de_int (da_cons de_int (da_cons de_int da_nil))))))) (dss_one (ds_asg (i := 3) sc__law_base_right.nd de_int)) dss_nil)
  (dss_cons (ds_if (dt_cmp (od_dEq hr.room) (db_var 1) (db_of de_int)) (dss_one (ds_asg (i := 3) sc__law_base_right.nd de_int)) dss_nil)
  (dss_one (ds_ret (de_cmp (od_dEq hr.room) (db_var 2) (db_of (de_box (dl_lc rfl sc__law_base_right.nd (own := [(("_law_k" : Str), 4)]) (di_range1 (dab_cons (db_of de_int) dab_nil) (t.free 0)) (blkOk_by (by kernel_rfl)) (fun l s H C cl fp => (dg_name (vs := [4]) sc__law_base_right.nd (by decide))) (fun l s H C cl fp => dts_nil) (fun l s H C cl fp => (de_cmp od_in (db_var 4) (db_of (de_tup (da_cons (de_var 3) (da_cons (de_op od_addU (db_var 3) (db_of de_int)) da_nil)))))))))))))))))))
theorem b__law_raised (t : TX K mg) : Binds K (fdAt K (He.ga K "_law_raised")) ["_law_one", "_law_two"] [] := FunD.bindsN (u__law_raised t) fun _ _ _ _ _ _ us hl => match us, hl with | [_, _], _ => rfl
theorem sc__law_raised : FnScope ["_law_one", "_law_two", "_law_found", "e"] ["_law_one", "_law_two"] (defScope s__law_raised) := ⟨rfl, rfl, rfl, by decide +kernel, rfl, by decide +kernel, by decide +kernel⟩
def g__law_raised : Slots → M Out := (seqS (asgL 2 (lenA nilA))
  (seqS (tryrS 32 2 3 (consA (varE 0) (consA (varE 1) nilA)) (appS 2 (isvE 3 (fun e => ((kit_InvalidBook : List (Option Bool))[e]?).join))))
  (seqS (tryrS 27 1 3 (consA (varE 0) nilA) (appS 2 (isvE 3 (fun e => ((kit_UnknownPattern : List (Option Bool))[e]?).join))))
  (seqS (tryrS 33 2 3 (consA (varE 0) (consA (varE 1) nilA)) (appS 2 (isvE 3 (fun e => ((kit_NotFitting : List (Option Bool))[e]?).join))))
  (seqS (tryrS 34 2 3 (consA (varE 0) (consA (varE 1) nilA)) (appS 2 (isvE 3 (fun e => ((kit_TooMany : List (Option Bool))[e]?).join))))
  (retS (binE (pu dEq) (bvarE 2) (binE mulU (boxE (lenA (consA (cE (.bl true)) nilA))) (cE (.int 4))))))))))
def m__law_raised : List D → M D := fnM 4 g__law_raised
theorem ok__law_raised (t : TX K mg) : FnG False P w K mg base (L2.CX P w) 3 (He.ga K "_law_raised") (fdAt K (He.ga K "_law_raised")) ["_law_one", "_law_two"] (spF K (tbOf cls_ tabs_ K) 2 m__law_raised) :=
  fnD (st := s__law_raised) (N := ["_law_one", "_law_two", "_law_found", "e"]) (ps := ["_law_one", "_law_two"]) (k := 2) (g := g__law_raised) (u__law_raised t) sc__law_raised (by decide) fun cdv hcv A outer s H E p S hr =>
  (dss_cons (ds_asgL (i := 2) sc__law_raised.nd (dl_lst da_nil))
  (dss_cons (ds_tryr (ec := 32) (i := 3) sc__law_raised.nd (takes_of rfl rfl rfl rfl) (t.oex 122) (t.meth 125) (ok_InvalidBookzz_initzz t) (hr.room.mono (by decide)) (b_InvalidBookzz_initzz t) (t.glo 121) rfl (fun pn xe => (da_cons (de_var 0) (da_cons (de_var 1) da_nil))) ⟨rfl, by decide, .inl (t.glo 203)⟩ (t.exm (cs := cls_) (tf := tabs_) (bs := exm_StitchError_InvalidBook) 216 rfl rfl 32 true rfl) rfl rfl (fun a oe cls d pn hz hf => (dss_one (ds_app (i := 2) (de_isv (i := 3) (pe_gcl (t.glo 121)) (.own _) (t.isx (cs := cls_) (tf := tabs_) (as := kit_InvalidBook) (u := fun K => .ref (He.ga K "InvalidBook")) 159 193 rfl rfl rfl) hz hf (t.free 161) bo_isinstance)))))
  (dss_cons (ds_tryr (ec := 27) (i := 3) sc__law_raised.nd (takes_of rfl rfl rfl rfl) (t.oex 150) (t.meth 152) (ok_UnknownPatternzz_initzz t) (hr.room.mono (by decide)) (b_UnknownPatternzz_initzz t) (t.glo 149) rfl (fun pn xe => (da_cons (de_var 0) da_nil)) ⟨rfl, by decide, .inl (t.glo 201)⟩ (t.exm (cs := cls_) (tf := tabs_) (bs := exm_MissingError_UnknownPattern) 217 rfl rfl 27 true rfl) rfl rfl (fun a oe cls d pn hz hf => (dss_one (ds_app (i := 2) (de_isv (i := 3) (pe_gcl (t.glo 149)) (.own _) (t.isx (cs := cls_) (tf := tabs_) (as := kit_UnknownPattern) (u := fun K => .ref (He.ga K "UnknownPattern")) 159 188 rfl rfl rfl) hz hf (t.free 161) bo_isinstance)))))
  (dss_cons (ds_tryr (ec := 33) (i := 3) sc__law_raised.nd (takes_of rfl rfl rfl rfl) (t.oex 127) (t.meth 130) (ok_NotFittingzz_initzz t) (hr.room.mono (by decide)) (b_NotFittingzz_initzz t) (t.glo 126) rfl (fun pn xe => (da_cons (de_var 0) (da_cons (de_var 1) da_nil))) ⟨rfl, by decide, .inl (t.glo 199)⟩ (t.exm (cs := cls_) (tf := tabs_) (bs := exm_StateError_NotFitting) 218 rfl rfl 33 true rfl) rfl rfl (fun a oe cls d pn hz hf => (dss_one (ds_app (i := 2) (de_isv (i := 3) (pe_gcl (t.glo 126)) (.own _) (t.isx (cs := cls_) (tf := tabs_) (as := kit_NotFitting) (u := fun K => .ref (He.ga K "NotFitting")) 159 192 rfl rfl rfl) hz hf (t.free 161) bo_isinstance)))))
  (dss_cons (ds_tryr (ec := 34) (i := 3) sc__law_raised.nd (takes_of rfl rfl rfl rfl) (t.oex 132) (t.meth 135) (ok_TooManyzz_initzz t) (hr.room.mono (by decide)) (b_TooManyzz_initzz t) (t.glo 131) rfl (fun pn xe => (da_cons (de_var 0) (da_cons (de_var 1) da_nil))) ⟨rfl, by decide, .inl (t.glo 209)⟩ (t.exm (cs := cls_) (tf := tabs_) (bs := exm_LimitError_TooMany) 219 rfl rfl 34 true rfl) rfl rfl (fun a oe cls d pn hz hf => (dss_one (ds_app (i := 2) (de_isv (i := 3) (pe_gcl (t.glo 131)) (.own _) (t.isx (cs := cls_) (tf := tabs_) (as := kit_TooMany) (u := fun K => .ref (He.ga K "TooMany")) 159 197 rfl rfl rfl) hz hf (t.free 161) bo_isinstance)))))
  (dss_one (ds_ret (de_cmp (od_dEq hr.room) (db_var 2) (db_of (de_op od_mulU (db_of (de_box (dl_lst (da_cons de_bl da_nil)))) (db_of de_int)))))))))))
theorem b__law_fields_right (t : TX K mg) : Binds K (fdAt K (He.ga K "_law_fields_right")) ["_law_by_value_here", "_law_by_position_here", "_law_by_name_here", "_law_others_here", "_law_things"] [] := FunD.bindsN (u__law_fields_right t) fun _ _ _ _ _ _ us hl => match us, hl with | [_, _, _, _, _], _ => rfl
theorem sc__law_fields_right : FnScope ["_law_by_value_here", "_law_by_position_here", "_law_by_name_here", "_law_others_here", "_law_things", "_law_one", "_law_two", "_law_made", "_law_told"] ["_law_by_value_here", "_law_by_position_here", "_law_by_name_here", "_law_others_here", "_law_things"] (defScope s__law_fields_right) := ⟨rfl, rfl, rfl, by decide +kernel, rfl, by decide +kernel, by decide +kernel⟩
def g__law_fields_right_s1 : Slots → M Out := (unpS (tgL [(tgN 5), (tgN 6)]) (varE 4))
def g__law_fields_right_s2 : Slots → M Out := (ifS (notT (testE (bltE (pu1 allF) (consA (boxE (compE (itE (varE 0)) [7] (tgN 7) yesT (binE (pu dEq) (bltE (pu1 reprG) (consA (xatE (fun e => ((ix_value : List (Option Nat))[e]?).join) (varE 7)) nilA)) (bltE (pu1 reprG) (consA (bvarE 5) nilA))))) nilA)))) (retS (cE (.bl false))) nilS)
def g__law_fields_right_s3 : Slots → M Out := (ifS (notT (testE (bltE (pu1 allF) (consA (boxE (compE (itE (varE 1)) [7] (tgN 7) yesT (binE (pu dEq) (bltE (pu1 reprG) (consA (xatE (fun e => ((ix_position : List (Option Nat))[e]?).join) (varE 7)) nilA)) (bltE (pu1 reprG) (consA (bvarE 5) nilA))))) nilA)))) (retS (cE (.bl false))) nilS)
def g__law_fields_right_s4 : Slots → M Out := (ifS (notT (testE (bltE (pu1 allF) (consA (boxE (compE (itE (varE 2)) [7] (tgN 7) yesT (binE (pu dEq) (bltE (pu1 reprG) (consA (xatE (fun e => ((ix_name : List (Option Nat))[e]?).join) (varE 7)) nilA)) (bltE (pu1 reprG) (consA (bvarE 5) nilA))))) nilA)))) (retS (cE (.bl false))) nilS)
def g__law_fields_right_s5 : Slots → M Out := (asgS 8 (boxE (lenA (consA (xatE (fun e => ((ix_number : List (Option Nat))[e]?).join) (binE ixM (bvarE 3) (cE (.int 0)))) (consA (xatE (fun e => ((ix_number : List (Option Nat))[e]?).join) (binE ixM (bvarE 3) (cE (.int 1)))) (consA (xatE (fun e => ((ix_problem : List (Option Nat))[e]?).join) (binE ixM (bvarE 3) (cE (.int 2)))) (consA (xatE (fun e => ((ix_problem : List (Option Nat))[e]?).join) (binE ixM (bvarE 3) (cE (.int 3)))) nilA)))))))
def g__law_fields_right_s6 : Slots → M Out := (asgS 8 (binE addU (bvarE 8) (boxE (lenA (consA (xatE (fun e => ((ix_line : List (Option Nat))[e]?).join) (binE ixM (bvarE 3) (cE (.int 4)))) (consA (xatE (fun e => ((ix_line : List (Option Nat))[e]?).join) (binE ixM (bvarE 3) (cE (.int 5)))) (consA (xatE (fun e => ((ix_outcome : List (Option Nat))[e]?).join) (binE ixM (bvarE 3) (cE (.int 6)))) (consA (xatE (fun e => ((ix_outcome : List (Option Nat))[e]?).join) (binE ixM (bvarE 3) (cE (.int 7)))) nilA))))))))
def g__law_fields_right_s7 : Slots → M Out := (ifS (testE (binE (pu dNe) (bltE (pu1 reprG) (consA (bvarE 8) nilA)) (bltE (pu1 reprG) (consA (binE mulU (boxE (lenA (consA (varE 5) nilA))) (cE (.int 8))) nilA)))) (retS (cE (.bl false))) nilS)
def g__law_fields_right_s8 : Slots → M Out := (ifS (notT (testE (bltE (pu1 allF) (consA (boxE (compE (itE (slE (bvarE 3) (soO (cE (.int 8))) (soO (cE (.int 10))))) [7] (tgN 7) yesT (binE (pu dEq) (bltE (pu1 reprG) (consA (boxE (lenA (consA (xatE (fun e => ((ix_problem : List (Option Nat))[e]?).join) (varE 7)) (consA (xatE (fun e => ((ix_name : List (Option Nat))[e]?).join) (varE 7)) nilA)))) nilA)) (bltE (pu1 reprG) (consA (boxE (lenA (consA (varE 5) (consA (varE 6) nilA)))) nilA))))) nilA)))) (retS (cE (.bl false))) nilS)
def g__law_fields_right_s9 : Slots → M Out := (ifS (notT (testE (bltE (pu1 allF) (consA (boxE (compE (itE (slE (bvarE 3) (soO (cE (.int 10))) (soO (cE (.int 12))))) [7] (tgN 7) yesT (binE (pu dEq) (bltE (pu1 reprG) (consA (boxE (lenA (consA (xatE (fun e => ((ix_section : List (Option Nat))[e]?).join) (varE 7)) (consA (xatE (fun e => ((ix_loops : List (Option Nat))[e]?).join) (varE 7)) nilA)))) nilA)) (bltE (pu1 reprG) (consA (boxE (lenA (consA (varE 5) (consA (varE 6) nilA)))) nilA))))) nilA)))) (retS (cE (.bl false))) nilS)
def g__law_fields_right_s10 : Slots → M Out := (retS (bltE (pu1 allF) (consA (boxE (compE (itE (slE (bvarE 3) (soO (cE (.int 12))) (soO (cE (.int 14))))) [7] (tgN 7) yesT (binE (pu dEq) (bltE (pu1 reprG) (consA (boxE (lenA (consA (xatE (fun e => ((ix_what : List (Option Nat))[e]?).join) (varE 7)) (consA (xatE (fun e => ((ix_limit : List (Option Nat))[e]?).join) (varE 7)) nilA)))) nilA)) (bltE (pu1 reprG) (consA (boxE (lenA (consA (varE 5) (consA (varE 6) nilA)))) nilA))))) nilA)))
def g__law_fields_right : Slots → M Out := (seqS g__law_fields_right_s1
  (seqS g__law_fields_right_s2
  (seqS g__law_fields_right_s3
  (seqS g__law_fields_right_s4
  (seqS g__law_fields_right_s5
  (seqS g__law_fields_right_s6
  (seqS g__law_fields_right_s7
  (seqS g__law_fields_right_s8
  (seqS g__law_fields_right_s9
  g__law_fields_right_s10)))))))))
def m__law_fields_right : List D → M D := fnM 9 g__law_fields_right
theorem ok__law_fields_right (t : TX K mg) : FnG True P w K mg base (L2.CX P w) 2 (He.ga K "_law_fields_right") (fdAt K (He.ga K "_law_fields_right")) ["_law_by_value_here", "_law_by_position_here", "_law_by_name_here", "_law_others_here", "_law_things"] (spF K (tbOf cls_ tabs_ K) 5 m__law_fields_right) :=
  fnD (st := s__law_fields_right) (N := ["_law_by_value_here", "_law_by_position_here", "_law_by_name_here", "_law_others_here", "_law_things", "_law_one", "_law_two", "_law_made", "_law_told"]) (ps := ["_law_by_value_here", "_law_by_position_here", "_law_by_name_here", "_law_others_here", "_law_things"]) (k := 1) (g := g__law_fields_right) (u__law_fields_right t) sc__law_fields_right (by decide) fun cdv hcv A outer s H E p S hr =>
  (dss_cons (ds_unp (de_var 4) (dg_seq rfl (dgs_cons (dg_name (vs := [5, 6]) sc__law_fields_right.nd (by decide)) (dgs_cons (dg_name (vs := [5, 6]) sc__law_fields_right.nd (by decide)) dgs_nil))))
  (dss_cons (ds_if (dt_not (dt_val (de_blt (cd_all rfl) (t.free 224) bo_all (dab_cons (db_of (de_box (dl_lc rfl sc__law_fields_right.nd (own := [(("_law_made" : Str), 7)]) (di_val (de_var 0)) (blkOk_by (by kernel_rfl)) (fun l s H C cl fp => (dg_name (vs := [7]) sc__law_fields_right.nd (by decide))) (fun l s H C cl fp => dts_nil) (fun l s H C cl fp => (de_cmp (od_dEq hr.room) (db_of (de_blt (cd_reprG (t.sys 222) hr) (t.free 223) bo_repr (dab_cons (db_of (de_xat (de_var 7) (t.xats (cs := cls_) (tf := tabs_) (ixs := ix_value) 159 221 rfl rfl rfl (by decide +kernel)))) dab_nil))) (db_of (de_blt (cd_reprG (t.sys 222) hr) (t.free 223) bo_repr (dab_cons (db_var 5) dab_nil)))))))) dab_nil)))) (dss_one (ds_ret de_bl)) dss_nil)
  (dss_cons (ds_if (dt_not (dt_val (de_blt (cd_all rfl) (t.free 224) bo_all (dab_cons (db_of (de_box (dl_lc rfl sc__law_fields_right.nd (own := [(("_law_made" : Str), 7)]) (di_val (de_var 1)) (blkOk_by (by kernel_rfl)) (fun l s H C cl fp => (dg_name (vs := [7]) sc__law_fields_right.nd (by decide))) (fun l s H C cl fp => dts_nil) (fun l s H C cl fp => (de_cmp (od_dEq hr.room) (db_of (de_blt (cd_reprG (t.sys 222) hr) (t.free 223) bo_repr (dab_cons (db_of (de_xat (de_var 7) (t.xats (cs := cls_) (tf := tabs_) (ixs := ix_position) 159 225 rfl rfl rfl (by decide +kernel)))) dab_nil))) (db_of (de_blt (cd_reprG (t.sys 222) hr) (t.free 223) bo_repr (dab_cons (db_var 5) dab_nil)))))))) dab_nil)))) (dss_one (ds_ret de_bl)) dss_nil)
  (dss_cons (ds_if (dt_not (dt_val (de_blt (cd_all rfl) (t.free 224) bo_all (dab_cons (db_of (de_box (dl_lc rfl sc__law_fields_right.nd (own := [(("_law_made" : Str), 7)]) (di_val (de_var 2)) (blkOk_by (by kernel_rfl)) (fun l s H C cl fp => (dg_name (vs := [7]) sc__law_fields_right.nd (by decide))) (fun l s H C cl fp => dts_nil) (fun l s H C cl fp => (de_cmp (od_dEq hr.room) (db_of (de_blt (cd_reprG (t.sys 222) hr) (t.free 223) bo_repr (dab_cons (db_of (de_xat (de_var 7) (t.xats (cs := cls_) (tf := tabs_) (ixs := ix_name) 159 226 rfl rfl rfl (by decide +kernel)))) dab_nil))) (db_of (de_blt (cd_reprG (t.sys 222) hr) (t.free 223) bo_repr (dab_cons (db_var 5) dab_nil)))))))) dab_nil)))) (dss_one (ds_ret de_bl)) dss_nil)
  (dss_cons (ds_asg (i := 8) sc__law_fields_right.nd (de_box (dl_lst (da_cons (de_xat (de_ix (db_var 3) (db_of de_int)) (t.xats (cs := cls_) (tf := tabs_) (ixs := ix_number) 159 228 rfl rfl rfl (by decide +kernel))) (da_cons (de_xat (de_ix (db_var 3) (db_of de_int)) (t.xats (cs := cls_) (tf := tabs_) (ixs := ix_number) 159 228 rfl rfl rfl (by decide +kernel))) (da_cons (de_xat (de_ix (db_var 3) (db_of de_int)) (t.xats (cs := cls_) (tf := tabs_) (ixs := ix_problem) 159 227 rfl rfl rfl (by decide +kernel))) (da_cons (de_xat (de_ix (db_var 3) (db_of de_int)) (t.xats (cs := cls_) (tf := tabs_) (ixs := ix_problem) 159 227 rfl rfl rfl (by decide +kernel))) da_nil)))))))
  (dss_cons (ds_asg (i := 8) sc__law_fields_right.nd (de_op od_addU (db_var 8) (db_of (de_box (dl_lst (da_cons (de_xat (de_ix (db_var 3) (db_of de_int)) (t.xats (cs := cls_) (tf := tabs_) (ixs := ix_line) 159 230 rfl rfl rfl (by decide +kernel))) (da_cons (de_xat (de_ix (db_var 3) (db_of de_int)) (t.xats (cs := cls_) (tf := tabs_) (ixs := ix_line) 159 230 rfl rfl rfl (by decide +kernel))) (da_cons (de_xat (de_ix (db_var 3) (db_of de_int)) (t.xats (cs := cls_) (tf := tabs_) (ixs := ix_outcome) 159 229 rfl rfl rfl (by decide +kernel))) (da_cons (de_xat (de_ix (db_var 3) (db_of de_int)) (t.xats (cs := cls_) (tf := tabs_) (ixs := ix_outcome) 159 229 rfl rfl rfl (by decide +kernel))) da_nil)))))))))
  (dss_cons (ds_if (dt_cmp (od_dNe hr.room) (db_of (de_blt (cd_reprG (t.sys 222) hr) (t.free 223) bo_repr (dab_cons (db_var 8) dab_nil))) (db_of (de_blt (cd_reprG (t.sys 222) hr) (t.free 223) bo_repr (dab_cons (db_of (de_op od_mulU (db_of (de_box (dl_lst (da_cons (de_var 5) da_nil)))) (db_of de_int))) dab_nil)))) (dss_one (ds_ret de_bl)) dss_nil)
  (dss_cons (ds_if (dt_not (dt_val (de_blt (cd_all rfl) (t.free 224) bo_all (dab_cons (db_of (de_box (dl_lc rfl sc__law_fields_right.nd (own := [(("_law_made" : Str), 7)]) (di_val (de_slice (db_var 3) (do_some (db_of de_int)) (do_some (db_of de_int)))) (blkOk_by (by kernel_rfl)) (fun l s H C cl fp => (dg_name (vs := [7]) sc__law_fields_right.nd (by decide))) (fun l s H C cl fp => dts_nil) (fun l s H C cl fp => (de_cmp (od_dEq hr.room) (db_of (de_blt (cd_reprG (t.sys 222) hr) (t.free 223) bo_repr (dab_cons (db_of (de_box (dl_lst (da_cons (de_xat (de_var 7) (t.xats (cs := cls_) (tf := tabs_) (ixs := ix_problem) 159 227 rfl rfl rfl (by decide +kernel))) (da_cons (de_xat (de_var 7) (t.xats (cs := cls_) (tf := tabs_) (ixs := ix_name) 159 226 rfl rfl rfl (by decide +kernel))) da_nil))))) dab_nil))) (db_of (de_blt (cd_reprG (t.sys 222) hr) (t.free 223) bo_repr (dab_cons (db_of (de_box (dl_lst (da_cons (de_var 5) (da_cons (de_var 6) da_nil))))) dab_nil)))))))) dab_nil)))) (dss_one (ds_ret de_bl)) dss_nil)
  (dss_cons (ds_if (dt_not (dt_val (de_blt (cd_all rfl) (t.free 224) bo_all (dab_cons (db_of (de_box (dl_lc rfl sc__law_fields_right.nd (own := [(("_law_made" : Str), 7)]) (di_val (de_slice (db_var 3) (do_some (db_of de_int)) (do_some (db_of de_int)))) (blkOk_by (by kernel_rfl)) (fun l s H C cl fp => (dg_name (vs := [7]) sc__law_fields_right.nd (by decide))) (fun l s H C cl fp => dts_nil) (fun l s H C cl fp => (de_cmp (od_dEq hr.room) (db_of (de_blt (cd_reprG (t.sys 222) hr) (t.free 223) bo_repr (dab_cons (db_of (de_box (dl_lst (da_cons (de_xat (de_var 7) (t.xats (cs := cls_) (tf := tabs_) (ixs := ix_section) 159 232 rfl rfl rfl (by decide +kernel))) (da_cons (de_xat (de_var 7) (t.xats (cs := cls_) (tf := tabs_) (ixs := ix_loops) 159 231 rfl rfl rfl (by decide +kernel))) da_nil))))) dab_nil))) (db_of (de_blt (cd_reprG (t.sys 222) hr) (t.free 223) bo_repr (dab_cons (db_of (de_box (dl_lst (da_cons (de_var 5) (da_cons (de_var 6) da_nil))))) dab_nil)))))))) dab_nil)))) (dss_one (ds_ret de_bl)) dss_nil)
  (dss_one (ds_ret (de_blt (cd_all rfl) (t.free 224) bo_all (dab_cons (db_of (de_box (dl_lc rfl sc__law_fields_right.nd (own := [(("_law_made" : Str), 7)]) (di_val (de_slice (db_var 3) (do_some (db_of de_int)) (do_some (db_of de_int)))) (blkOk_by (by kernel_rfl)) (fun l s H C cl fp => (dg_name (vs := [7]) sc__law_fields_right.nd (by decide))) (fun l s H C cl fp => dts_nil) (fun l s H C cl fp => (de_cmp (od_dEq hr.room) (db_of (de_blt (cd_reprG (t.sys 222) hr) (t.free 223) bo_repr (dab_cons (db_of (de_box (dl_lst (da_cons (de_xat (de_var 7) (t.xats (cs := cls_) (tf := tabs_) (ixs := ix_what) 159 234 rfl rfl rfl (by decide +kernel))) (da_cons (de_xat (de_var 7) (t.xats (cs := cls_) (tf := tabs_) (ixs := ix_limit) 159 233 rfl rfl rfl (by decide +kernel))) da_nil))))) dab_nil))) (db_of (de_blt (cd_reprG (t.sys 222) hr) (t.free 223) bo_repr (dab_cons (db_of (de_box (dl_lst (da_cons (de_var 5) (da_cons (de_var 6) da_nil))))) dab_nil)))))))) dab_nil)))))))))))))
theorem b__law_right (t : TX K mg) : Binds K (fdAt K (He.ga K "_law_right")) ["_law_pot_here"] [] := FunD.bindsN (u__law_right t) fun _ _ _ _ _ _ us hl => match us, hl with | [_], _ => rfl
theorem sc__law_right : FnScope ["_law_pot_here", "_law_one", "_law_two", "_law_three", "_law_turn", "_law_by_value_here", "_law_by_position_here", "_law_by_name_here", "_law_others_here", "_law_made", "_law_at", "_law_error", "_law_due", "_law_place", "_law_fresh"] ["_law_pot_here"] (defScope s__law_right) := ⟨rfl, rfl, rfl, by decide +kernel, rfl, by decide +kernel, by decide +kernel⟩
def g__law_right_b1 : Slots → M Out := (seqS (asgS 12 (boxE (compE (itA rng1 (consA (cE (.int 37)) nilA)) [13] (tgN 13) yesT (binE (pu dEq) (bvarE 13) (binE (pu iDiv) (bvarE 10) (cE (.int 2)))))))
  (ifS (orT (testE (binE (pu dNe) (callE 1 m__law_marks [] (consA (varE 11) nilA)) (bvarE 12))) (notT (testE (callE 2 m__law_base_right [] (consA (varE 11) (consA (binE (pu iDiv) (bvarE 10) (cE (.int 2))) nilA)))))) (retS (cE (.bl false))) nilS))
def g__law_right_s1 : Slots → M Out := (unpS (tgL [(tgN 1), (tgN 2), (tgN 3)]) (boxE (compE (itA rng1 (consA (cE (.int 3)) nilA)) [4] (tgN 4) yesT (callE 1 m__law_thing [] (consA (varE 0) nilA)))))
def g__law_right_s2 : Slots → M Out := (parS 5 6 (consA (callE 1 m__law_by_value [] (consA (varE 1) nilA)) (consA (callE 1 m__law_by_position [] (consA (varE 1) nilA)) nilA)))
def g__law_right_s3 : Slots → M Out := (parS 7 8 (consA (callE 1 m__law_by_name [] (consA (varE 1) nilA)) (consA (callE 2 m__law_others [] (consA (varE 1) (consA (varE 2) nilA))) nilA)))
def g__law_right_s4 : Slots → M Out := (asgS 9 (binE addU (binE addU (binE addU (bvarE 5) (bvarE 6)) (bvarE 7)) (bvarE 8)))
def g__law_right_s5 : Slots → M Out := (forS (itA enumA (consA (varE 9) nilA)) (tgT [(tgN 10), (tgN 11)]) g__law_right_b1)
def g__law_right_s6 : Slots → M Out := (asgS 14 (binE addU (callE 1 m__law_by_value [] (consA (varE 3) nilA)) (callE 1 m__law_by_position [] (consA (varE 3) nilA))))
def g__law_right_s7 : Slots → M Out := (asgS 14 (binE addU (binE addU (bvarE 14) (callE 1 m__law_by_name [] (consA (varE 3) nilA))) (callE 2 m__law_others [] (consA (varE 2) (consA (varE 3) nilA)))))
def g__law_right_s8 : Slots → M Out := (ifS (orT (testE (binE (pu dNe) (bltE (pu1 lenF) (consA (bvarE 14) nilA)) (bltE (pu1 lenF) (consA (bvarE 9) nilA)))) (notT (testE (callE 2 m__law_raised [] (consA (varE 2) (consA (varE 3) nilA)))))) (retS (cE (.bl false))) nilS)
def g__law_right_s9 : Slots → M Out := (retS (callE 5 m__law_fields_right [] (consA (varE 5) (consA (varE 6) (consA (varE 7) (consA (varE 8) (consA (tupE (consA (varE 1) (consA (varE 2) nilA))) nilA)))))))
def g__law_right : Slots → M Out := (seqS g__law_right_s1
  (seqS g__law_right_s2
  (seqS g__law_right_s3
  (seqS g__law_right_s4
  (seqS g__law_right_s5
  (seqS g__law_right_s6
  (seqS g__law_right_s7
  (seqS g__law_right_s8
  g__law_right_s9))))))))
def m__law_right : List D → M D := fnM 15 g__law_right
theorem ok__law_right (t : TX K mg) : FnG True P w K mg base (L2.CX P w) 4 (He.ga K "_law_right") (fdAt K (He.ga K "_law_right")) ["_law_pot_here"] (spF K (tbOf cls_ tabs_ K) 1 m__law_right) :=
  fnD (st := s__law_right) (N := ["_law_pot_here", "_law_one", "_law_two", "_law_three", "_law_turn", "_law_by_value_here", "_law_by_position_here", "_law_by_name_here", "_law_others_here", "_law_made", "_law_at", "_law_error", "_law_due", "_law_place", "_law_fresh"]) (ps := ["_law_pot_here"]) (k := 3) (g := g__law_right) (u__law_right t) sc__law_right (by decide) fun cdv hcv A outer s H E p S hr =>
  (dss_cons (ds_unp (de_box (dl_lc rfl sc__law_right.nd (own := [(("_law_turn" : Str), 4)]) (di_range1 (dab_cons (db_of de_int) dab_nil) (t.free 0)) (blkOk_by (by kernel_rfl)) (fun l s H C cl fp => (dg_name (vs := [4]) sc__law_right.nd (by decide))) (fun l s H C cl fp => dts_nil) (fun l s H C cl fp => (de_call (ok__law_thing t) (hr.lo (by decide)) takes0 (t.glo 6) (u__law_thing t).kp (b__law_thing t) .nil cst_nil (da_cons (de_var 0) da_nil))))) (dg_seq rfl (dgs_cons (dg_name (vs := [1, 2, 3]) sc__law_right.nd (by decide)) (dgs_cons (dg_name (vs := [1, 2, 3]) sc__law_right.nd (by decide)) (dgs_cons (dg_name (vs := [1, 2, 3]) sc__law_right.nd (by decide)) dgs_nil)))))
  (dss_cons (ds_par (i := 5) (j := 6) rfl sc__law_right.nd (da_cons (de_call (ok__law_by_value t) (hr.lo (by decide)) (takes_of rfl rfl rfl rfl) (t.glo 104) (u__law_by_value t).kp (b__law_by_value t) .nil cst_nil (da_cons (de_var 1) da_nil)) (da_cons (de_call (ok__law_by_position t) (hr.lo (by decide)) (takes_of rfl rfl rfl rfl) (t.glo 47) (u__law_by_position t).kp (b__law_by_position t) .nil cst_nil (da_cons (de_var 1) da_nil)) da_nil)))
  (dss_cons (ds_par (i := 7) (j := 8) rfl sc__law_right.nd (da_cons (de_call (ok__law_by_name t) (hr.lo (by decide)) (takes_of rfl rfl rfl rfl) (t.glo 157) (u__law_by_name t).kp (b__law_by_name t) .nil cst_nil (da_cons (de_var 1) da_nil)) (da_cons (de_call (ok__law_others t) (hr.lo (by decide)) (takes_of rfl rfl rfl rfl) (t.glo 140) (u__law_others t).kp (b__law_others t) .nil cst_nil (da_cons (de_var 1) (da_cons (de_var 2) da_nil))) da_nil)))
  (dss_cons (ds_asg (i := 9) sc__law_right.nd (de_op od_addU (db_of (de_op od_addU (db_of (de_op od_addU (db_var 5) (db_var 6))) (db_var 7))) (db_var 8)))
  (dss_cons (ds_for (passes_of rfl) rfl (di_enum (da_cons (de_var 9) da_nil) (t.free 158)) (dg_tup rfl (dgs_cons (dg_name (vs := [10, 11]) sc__law_right.nd (by decide)) (dgs_cons (dg_name (vs := [10, 11]) sc__law_right.nd (by decide)) dgs_nil))) (dss_cons (ds_box (ps_lc (i := 12) rfl sc__law_right.nd rfl rfl rfl (own := [(("_law_place" : Str), 13)]) (di_range1 (dab_cons (db_of de_int) dab_nil) (t.free 0)) (blkOk_by (by kernel_rfl)) (fun l s H C cl fp => (dg_name (vs := [13]) sc__law_right.nd (by decide))) (fun l s H C cl fp => dts_nil) (fun l s H C cl fp => (de_cmp (od_dEq hr.room) (db_var 13) (db_of (de_op od_iDiv (db_var 10) (db_of de_int)))))))
  (dss_one (ds_if ((dw_or (dt_cmp (od_dNe hr.room) (db_of (de_call (ok__law_marks t) (hr.lo (by decide)) (takes_of rfl rfl rfl rfl) (t.glo 198) (u__law_marks t).kp (b__law_marks t) .nil cst_nil (da_cons (de_var 11) da_nil))) (db_var 12)) (dw_or1 (dt_not (dt_val (de_call (ok__law_base_right t) (hr.lo (by decide)) (takes_of rfl rfl rfl rfl) (t.glo 215) (u__law_base_right t).kp (b__law_base_right t) .nil cst_nil (da_cons (de_var 11) (da_cons (de_op od_iDiv (db_var 10) (db_of de_int)) da_nil)))))))).pt (dss_one (ds_ret de_bl)) dss_nil))))
  (dss_cons (ds_asg (i := 14) sc__law_right.nd (de_op od_addU (db_of (de_call (ok__law_by_value t) (hr.lo (by decide)) (takes_of rfl rfl rfl rfl) (t.glo 104) (u__law_by_value t).kp (b__law_by_value t) .nil cst_nil (da_cons (de_var 3) da_nil))) (db_of (de_call (ok__law_by_position t) (hr.lo (by decide)) (takes_of rfl rfl rfl rfl) (t.glo 47) (u__law_by_position t).kp (b__law_by_position t) .nil cst_nil (da_cons (de_var 3) da_nil)))))
  (dss_cons (ds_asg (i := 14) sc__law_right.nd (de_op od_addU (db_of (de_op od_addU (db_var 14) (db_of (de_call (ok__law_by_name t) (hr.lo (by decide)) (takes_of rfl rfl rfl rfl) (t.glo 157) (u__law_by_name t).kp (b__law_by_name t) .nil cst_nil (da_cons (de_var 3) da_nil))))) (db_of (de_call (ok__law_others t) (hr.lo (by decide)) (takes_of rfl rfl rfl rfl) (t.glo 140) (u__law_others t).kp (b__law_others t) .nil cst_nil (da_cons (de_var 2) (da_cons (de_var 3) da_nil))))))
  (dss_cons (ds_if ((dw_or (dt_cmp (od_dNe hr.room) (db_of (de_blt cd_len (t.free 4) bo_len (dab_cons (db_var 14) dab_nil))) (db_of (de_blt cd_len (t.free 4) bo_len (dab_cons (db_var 9) dab_nil)))) (dw_or1 (dt_not (dt_val (de_call (ok__law_raised t) (hr.lo (by decide)) (takes_of rfl rfl rfl rfl) (t.glo 220) (u__law_raised t).kp (b__law_raised t) .nil cst_nil (da_cons (de_var 2) (da_cons (de_var 3) da_nil)))))))).pt (dss_one (ds_ret de_bl)) dss_nil)
  (dss_one (ds_ret (de_call (ok__law_fields_right t) (hr.mono (by decide)) (takes_of rfl rfl rfl rfl) (t.glo 235) (u__law_fields_right t).kp (b__law_fields_right t) .nil cst_nil (da_cons (de_var 5) (da_cons (de_var 6) (da_cons (de_var 7) (da_cons (de_var 8) (da_cons (de_tup (da_cons (de_var 1) (da_cons (de_var 2) da_nil))) da_nil))))))))))))))))
end
end LW

set_option Elab.async false
set_option linter.all false
set_option maxRecDepth 100000
set_option maxHeartbeats 4000000
namespace LW
open PySem L2 DF
section
variable {P : Program} {w : World} {K : PySem.W.Frag} {mg : Str → Option Value} {base : Heap}
theorem sc__law_pot : FnScope ["_law_script", "_law_k", "_law_cell"] ["_law_script", "_law_k"] (defScope s__law_pot) := ⟨rfl, rfl, rfl, by decide +kernel, rfl, by decide +kernel, by decide +kernel⟩
theorem b__law_pot (t : TX K mg) : Binds K (fdAt K (He.ga K "_law_pot")) ["_law_script", "_law_k"] [] := FunD.bindsN (u__law_pot t) fun _ _ _ _ _ _ us hl => match us, hl with | [_, _], _ => rfl
theorem ok__law_pot (t : TX K mg) (fL : mg "len" = none) (fM : mg "max" = none) (fA : mg "abs" = none) (fI : mg "int" = none) : FnOk P w K mg base (L2.CX P w) 1 (He.ga K "_law_pot") (fdAt K (He.ga K "_law_pot")) ["_law_script", "_law_k"] (spPot K) := by
  refine (u__law_pot t).ok (k := 0) sc__law_pot (fun vs H Q E h => ?_) (fun cdv A outer s H vs Q E hr h => ?_)
  · obtain ⟨a, ns, k, rfl, _⟩ := h
    rfl
  · obtain ⟨a, ns, k, rfl, hS, h0, h1, q⟩ := h
    refine ⟨_, pss_cons (ps_set (i := 2) sc__law_pot.nd rfl (Or.inl rfl) (pe_ifExp (pt_cmpR op_lt (pv 1) (pe_callB call_len rfl fL bo_len (pa_cons (pv 0) pa_nil)) (nomark _)) (pe_ix ix_list (pv 0) (pv 1) (by intro _ _; rfl)) (pe_op op_mulW pe_int (pv 1))))
      (pss_one (ps_ret (pe_lst (pa_cons (pe_callB (call_max2 rfl) rfl fM bo_max (pa_cons pe_int (pa_cons (pe_op op_sub (pe_callB call_abs rfl fA bo_abs (pa_cons (pv 2) pa_nil)) (pe_op op_pow pe_int pe_int)) pa_nil)))
        (pa_cons (pe_op op_add (pe_op op_mod (pe_cty call_int1 fI bo_int (pa_cons (pe_op op_add (pe_op op_add (pe_op op_mulW (pe_op op_mod (pe_cty call_int1 fI bo_int (pa_cons (pe_callB call_abs rfl fA bo_abs (pa_cons (pv 2) pa_nil)) pa_nil)) pe_int) pe_int) (pe_op op_mulW pe_int (pv 1))) pe_int) pa_nil)) pe_int) pe_int) pa_nil))))), ?_⟩
    refine cell_read hS h0 h1 rfl rfl fun c => ?_
    have p1 : (0 : Int) ≤ absI c % 2147483563 := Int.emod_nonneg _ (by decide)
    have p2 : absI c % 2147483563 < 2147483563 := Int.emod_lt_of_pos _ (by decide)
    refine ⟨_, rfl, c, rfl, 10, 18, rfl, rfl, ⟨by decide, by decide, by decide⟩, _, _, rfl, rfl, 0, _, rfl, ?_⟩
    refine ⟨_, rfl, c, rfl, .inl ⟨_, rfl, _, _, rfl, rfl, (show (0 : Int) < 2147483563 by decide), _, _, rfl, rfl, small_mul p1 (by decide) (by omega) (by decide), _, rfl, _, _, rfl, rfl, small_mul (by decide) h0 (by decide) (by omega), _, _, rfl, rfl, _, _, rfl, rfl, .inl ⟨_, rfl, _, _, rfl, rfl, (show (0 : Int) < 2147483629 by decide), _, _, rfl, rfl, ?_⟩⟩⟩
    exact ⟨(show 2 ≤ sizeLine by decide), fun l hl => q _ (pot_ok c k h0 h1) l hl⟩
theorem sc_law : FnScope ["_law_script", "_law_k"] ["_law_script"] (defScope s_law) := ⟨rfl, rfl, rfl, by decide +kernel, rfl, by decide +kernel, by decide +kernel⟩
theorem ok_law (hm : AllPots m__law_right) (t : TX K mg) (fL : mg "len" = none) (fM : mg "max" = none) (fN : mg "min" = none) (fA : mg "abs" = none) (fI : mg "int" = none) (fR : mg "range" = none) (fE : mg "all" = none) (gP : mg "_law_pot" = some (.ref (He.ga K "_law_pot"))) (gR : mg "_law_right" = some (.ref (He.ga K "_law_right"))) :
    FnG True P w K mg base (L2.CX P w) 8 (He.ga K "law") (fdAt K (He.ga K "law")) ["_law_script"] (spLaw K (tbOf cls_ tabs_ K)) := by
  refine fn_okG (k := 7) (u_law t) sc_law (fun vs H Q E h => ?_) (fun cdv hcv A outer s H vs Q E hr h => ?_)
  · obtain ⟨a, ns, rfl, _⟩ := h
    rfl
  · obtain ⟨a, ns, rfl, hS, hlen, hT, q⟩ := h
    refine ⟨_, pss_one (ps_ret (pe_callB (cr_all rfl) rfl fE bo_all (pa_cons (pe_lc (own := [(("_law_k" : Str), 1)]) rfl sc_law.nd
      (pi_range1 rfl fR (pa_cons (pe_callB (call_max2 rfl) rfl fM bo_max (pa_cons pe_int (pa_cons (pe_callB (call_min2 rfl) rfl fN bo_min (pa_cons (pe_callB call_len rfl fL bo_len (pa_cons (pv 0) pa_nil)) (pa_cons pe_int pa_nil))) pa_nil))) pa_nil)) (blkOk_by (by kernel_rfl))
      (fun s H C cl fp => pg_name (i := 1) sc_law.nd rfl (Or.inl rfl) (.inr rfl)) (fun s H C cl fp => pts_nil)
      (fun s H C cl fp => pe_callA (E := WE W0) (ok__law_right t) (hr.mono (by decide)) rfl gR (u__law_right t).kp (b__law_right t) .nil (passAt takes0) (pa_cons (pe_callA (E := WE W0) (fnOk_g (gu := True) (ok__law_pot t fL fM fA fI)) (hr.mono (by decide)) rfl gP (u__law_pot t).kp (b__law_pot t) .nil (passAt takes0) (pa_cons (pv 0) (pa_cons (pv 1) pa_nil))) pa_nil))) pa_nil))), ?_⟩
    have cap := cap_ok (m := if (6 : Int) < ((ns.map V.int).length : Int) then 6 else ((ns.map V.int).length : Int)) (by split <;> omega)
    refine ⟨_, rfl, _, _, rfl, .inl ⟨_, hS, rfl⟩, _, _, rfl, 1, _, rfl, _, rfl, cap.1, cap.2.1, ?_⟩
    exact law_lc (T := tbOf cls_ tabs_ K) (Q := fun x H1 => rAll K [x] H1 Q) (σ := L2.start ["_law_script", "_law_k"] [.ref a]) hm cap.2.2 hS hT rfl fun D H' hd => ⟨D, _, rfl, .inl (.inl hd), by rw [all_reps]; exact q _⟩
end
end LW

set_option Elab.async false
set_option linter.all false
set_option maxRecDepth 100000
set_option maxHeartbeats 4000000
namespace LW
open PySem L2 DF
theorem draw1 {pt : Pot} {n : Int} (h : Pt pt) (h0 : 0 < n) (h1 : n < 1073741824) : ∃ z q, m__law_draw [.pot, .int n] pt = .ok (.int z) q ∧ 0 ≤ z ∧ z < n ∧ Pt q := by
  obtain ⟨a, b, c⟩ := h
  unfold m__law_draw g__law_draw
  rw [e_fnM]
  by_cases hp : 0 < pt.1
  · refine ⟨pt.1 % n, (pt.1 / n, pt.2), ?_, Int.emod_nonneg _ (by omega), Int.emod_lt_of_pos _ h0, Int.ediv_nonneg a (Int.le_of_lt h0), b, c⟩
    simp [ini, hp, dmF, h0, h1, potS2, two, isPot, setP]
  · have hq0 : 0 ≤ (pt.2 * 44203 + 15511) % 2147483587 := Int.emod_nonneg _ (by decide)
    have hq1 : (pt.2 * 44203 + 15511) % 2147483587 < 2147483587 := Int.emod_lt_of_pos _ (by decide)
    have b1 : Bd 32 pt.2 := by unfold Bd; omega
    have b2 : Bd 16 44203 := by unfold Bd; decide
    have b3 : Bd 32 ((pt.2 * 44203 + 15511) % 2147483587) := by unfold Bd; omega
    have k1 := b1.ok b2 (by decide) (by decide) (by decide)
    have k2 := b3.ok b3 (by decide) (by decide) (by decide)
    refine ⟨((pt.2 * 44203 + 15511) % 2147483587 * ((pt.2 * 44203 + 15511) % 2147483587) % 2147483549 / 11) % n, (pt.1, (pt.2 * 44203 + 15511) % 2147483587), ?_, Int.emod_nonneg _ (by omega), Int.emod_lt_of_pos _ h0, a, hq0, by show _ < (4294967296 : Int); omega⟩
    generalize hq : (pt.2 * 44203 + 15511) % 2147483587 = q at *
    simp [ini, hp, potS, isPot, setP, intOf, intF, k1, k2, h0, hq]
theorem at_in {α : Type} {ds : List α} {z : Int} (h0 : 0 ≤ z) (h1 : z < ds.length) : ∃ d, atI ds z = some d ∧ d ∈ ds := by
  have hn : z.toNat < ds.length := by omega
  refine ⟨ds[z.toNat], ?_, List.getElem_mem hn⟩
  unfold atI ixN
  rw [if_pos h0, if_pos h1, Option.bind_some, List.getElem?_eq_getElem hn]
theorem pick1 {pt : Pot} (h : Pt pt) (ds : List D) (h0 : 0 < ds.length) (h1 : ds.length < 1000000) : ∃ d q, m__law_pick [.pot, .lst ds] pt = .ok d q ∧ d ∈ ds ∧ Pt q := by
  obtain ⟨z, q, e, z0, z1, hq⟩ := draw1 (n := (ds.length : Int)) h (by omega) (by omega)
  obtain ⟨d, ed, hd⟩ := at_in z0 z1
  refine ⟨d, q, ?_, hd, hq⟩
  unfold m__law_pick g__law_pick
  rw [e_fnM]
  simp [ini, lenF, e, ed]
/-- what can be drawn -/
def things : List D := .int 0 :: .int (-1) :: .int 7 :: .int 10000000000000000000000000 :: .bl true :: .bl false :: .non :: .str "" :: .str "a" :: .str "ktog" :: .tup [.str "", .str "a"] :: .tup [.int 1, .non] :: .lst [.str "a"] :: .dct [(.inr "a", .int 1)] :: .dct [] :: []
theorem thing1 {pt : Pot} (h : Pt pt) : ∃ d q, m__law_thing [.pot] pt = .ok d q ∧ d ∈ things ∧ Pt q := by
  obtain ⟨d, q, e, hd, hq⟩ := pick1 h things (by decide) (by decide)
  refine ⟨d, q, ?_, hd, hq⟩
  rw [← e]
  have : m__law_thing [.pot] pt = bndR (bndR (m__law_pick [.pot, .lst things] pt) fun d => ret (.rt d)) finK := by kernel_rfl
  rw [this, e]
  rfl
abbrev st0 (d1 d2 d3 : D) : Slots := [some (.val .pot), some (.val d1), some (.val d2), some (.val d3), none, none, none, none, none, none, none, none, none, none, none]
theorem three1 {pt : Pot} (h : Pt pt) : ∃ d1 d2 d3 q, g__law_right_s1 (ini 15 [.pot]) pt = .ok (.nx (st0 d1 d2 d3)) q ∧ (d1 ∈ things ∧ d2 ∈ things) ∧ Pt q := by
  obtain ⟨d1, p1, e1, k1, h1⟩ := thing1 h
  obtain ⟨d2, p2, e2, k2, h2⟩ := thing1 h1
  obtain ⟨d3, p3, e3, k3, h3⟩ := thing1 h2
  refine ⟨d1, d2, d3, p3, ?_, ⟨k1, k2⟩, h3⟩
  have er : rng1 [.int 3] = some [.int 0, .int 1, .int 2] := by kernel_rfl
  unfold g__law_right_s1
  simp [ini, er, noOwn, isOwn, e1, e2, e3]
end LW

set_option Elab.async false
set_option linter.all false
set_option maxRecDepth 100000
set_option maxHeartbeats 4000000
namespace LW
open PySem L2 DF
def twice (k n : Nat) (fs : List D) : List D := (List.range n).flatMap fun j => [.ex (k + j) fs, .ex (k + j) fs]
def byV (d : D) : List D := twice 0 14 [d]
def byP (d : D) : List D := twice 14 10 [d]
def byN (d : D) : List D := twice 24 4 [d]
def byO (d1 d2 : D) : List D := twice 28 4 [d1] ++ (twice 32 3 [d1, d2] ++ twice 35 2 [])
def allM (d1 d2 : D) : List D := byV d1 ++ byP d1 ++ byN d1 ++ byO d1 d2
abbrev mst (d1 d2 d3 : D) (a b c u : Option SV) : Slots := [some (.val .pot), some (.val d1), some (.val d2), some (.val d3), none, some (.val (.lst (byV d1))), some (.val (.lst (byP d1))), some (.val (.lst (byN d1))), some (.val (.lst (byO d1 d2))), some (.val (.lst (allM d1 d2))), a, b, c, none, u]
def mid (f : Slots → M Out) : Slots → M Out := seqS g__law_right_s2 (seqS g__law_right_s3 (seqS g__law_right_s4 f))
theorem mid_ok (f : Slots → M Out) (d1 d2 d3 : D) (pt : Pot) : mid f (st0 d1 d2 d3) pt = f (mst d1 d2 d3 none none none none) pt := by kernel_rfl
def due : List D := (List.range 37).map fun j => .bl (Nat.beq j 36)
abbrev lst_ (d1 d2 d3 : D) (u : Option SV) : Slots := mst d1 d2 d3 (some (.val (.int 73))) (some (.val (.ex 36 []))) (some (.val (.lst due))) u
theorem loop_ok (d1 d2 d3 : D) (pt : Pot) : g__law_right_s5 (mst d1 d2 d3 none none none none) pt = .ok (.nx (lst_ d1 d2 d3 none)) pt := by kernel_rfl
def fre (f : Slots → M Out) : Slots → M Out := seqS g__law_right_s6 (seqS g__law_right_s7 (seqS g__law_right_s8 f))
theorem fre_ok (f : Slots → M Out) (d1 d2 d3 : D) (pt : Pot) : fre f (lst_ d1 d2 d3 none) pt = f (lst_ d1 d2 d3 (some (.val (.lst (byV d3 ++ byP d3 ++ byN d3 ++ byO d2 d3))))) pt := by kernel_rfl
def end_ (d1 d2 : D) : M D := m__law_fields_right [.lst (byV d1), .lst (byP d1), .lst (byN d1), .lst (byO d1 d2), .tup [d1, d2]]
theorem end_ok (d1 d2 d3 : D) (u : Option SV) (pt : Pot) : g__law_right_s9 (lst_ d1 d2 d3 u) pt = bndR (end_ d1 d2 pt) fun d => ret (.rt d) := by
  unfold g__law_right_s9 end_
  simp
end LW

set_option Elab.async false
set_option linter.all false
set_option maxRecDepth 100000
set_option maxHeartbeats 4000000
namespace LW
open PySem L2 DF
def isT : Res D → Bool
  | .ok (.bl true) _ => true
  | _ => false
def fst_ (f : Slots → M Out) : Slots → M Out := seqS g__law_fields_right_s1 (seqS g__law_fields_right_s2 (seqS g__law_fields_right_s3 (seqS g__law_fields_right_s4 (seqS g__law_fields_right_s5 (seqS g__law_fields_right_s6 (seqS g__law_fields_right_s7 f))))))
abbrev fs0 (d1 d2 : D) : Slots := ini 9 [.lst (byV d1), .lst (byP d1), .lst (byN d1), .lst (byO d1 d2), .tup [d1, d2]]
abbrev fs1 (d1 d2 : D) : Slots := [some (.val (.lst (byV d1))), some (.val (.lst (byP d1))), some (.val (.lst (byN d1))), some (.val (.lst (byO d1 d2))), some (.val (.tup [d1, d2])), some (.val d1), some (.val d2), none, some (.val (.lst (List.replicate 8 d1)))]
theorem fst_ok (f : Slots → M Out) (d1 d2 : D) (pt : Pot) (h : d1 ∈ things) : fst_ f (fs0 d1 d2) pt = f (fs1 d1 d2) pt := by
  simp only [things, List.mem_cons, List.not_mem_nil, or_false] at h
  rcases h with rfl | rfl | rfl | rfl | rfl | rfl | rfl | rfl | rfl | rfl | rfl | rfl | rfl | rfl | rfl
  all_goals kernel_rfl
def snd_ : Slots → M Out := seqS g__law_fields_right_s8 (seqS g__law_fields_right_s9 g__law_fields_right_s10)
theorem snd_all (pt : Pot) : (things.all fun d1 => things.all fun d2 => isT (bndR (snd_ (fs1 d1 d2) pt) finK)) = true := by kernel_rfl
theorem snd_ok {d1 d2 : D} (pt : Pot) (h1 : d1 ∈ things) (h2 : d2 ∈ things) : ∃ q, bndR (snd_ (fs1 d1 d2) pt) finK = .ok (.bl true) q := by
  have h := List.all_eq_true.mp (List.all_eq_true.mp (snd_all pt) d1 h1) d2 h2
  generalize bndR (snd_ (fs1 d1 d2) pt) finK = r at h
  unfold isT at h
  split at h
  · exact ⟨_, rfl⟩
  · cases h
theorem end_true {d1 d2 : D} (pt : Pot) (h1 : d1 ∈ things) (h2 : d2 ∈ things) : ∃ q, end_ d1 d2 pt = .ok (.bl true) q := by
  obtain ⟨q, e⟩ := snd_ok pt h1 h2
  refine ⟨q, ?_⟩
  unfold end_ m__law_fields_right
  rw [e_fnM]
  have : g__law_fields_right (fs0 d1 d2) pt = snd_ (fs1 d1 d2) pt := fst_ok snd_ d1 d2 pt h1
  rw [this, e]
theorem maths : AllPots m__law_right := by
  intro pt hp
  obtain ⟨d1, d2, d3, q, e, ⟨k1, k2⟩, hq⟩ := three1 hp.pt
  obtain ⟨z, ez⟩ := end_true (d1 := d1) (d2 := d2) q k1 k2
  refine ⟨z, ?_⟩
  have tail : ∀ pt, mid (seqS g__law_right_s5 (fre g__law_right_s9)) (st0 d1 d2 d3) pt = g__law_right_s9 (lst_ d1 d2 d3 (some (.val (.lst (byV d3 ++ byP d3 ++ byN d3 ++ byO d2 d3))))) pt := fun pt => by
    rw [mid_ok, e_seqS, loop_ok, e_bndok, e_seqK, fre_ok]
  unfold m__law_right
  rw [e_fnM]
  have : g__law_right (ini 15 [.pot]) pt = mid (seqS g__law_right_s5 (fre g__law_right_s9)) (st0 d1 d2 d3) q := by
    unfold g__law_right
    rw [e_seqS, e, e_bndok, e_seqK]
    rfl
  rw [this, tail, end_ok, ez]
  rfl
end LW

set_option Elab.async false
set_option linter.all false
set_option maxRecDepth 100000
set_option maxHeartbeats 0
namespace LW
open PySem PySem.Spec PyProof.Rows L2 DF
abbrev R_ : PySem.W.OpenRow := PySem.W.OpenLaw.row PySem.Challenge.rw_stitchsizes_k14_errors_created
def tab_ : MTab := ("StitchError", ["StitchError"], ["ValueError", "Exception", "BaseException", "object"]) :: ("InvalidName", ["InvalidName", "StitchError"], ["ValueError", "Exception", "BaseException", "object"]) :: ("InvalidNumber", ["InvalidNumber", "StitchError"], ["ValueError", "Exception", "BaseException", "object"]) :: ("InvalidKind", ["InvalidKind", "StitchError"], ["ValueError", "Exception", "BaseException", "object"]) :: ("InvalidBook", ["InvalidBook", "StitchError"], ["ValueError", "Exception", "BaseException", "object"]) :: ("InvalidWord", ["InvalidWord", "StitchError"], ["ValueError", "Exception", "BaseException", "object"]) :: ("InvalidParts", ["InvalidParts", "StitchError"], ["ValueError", "Exception", "BaseException", "object"]) :: ("InvalidText", ["InvalidText", "StitchError"], ["ValueError", "Exception", "BaseException", "object"]) :: ("InvalidTexts", ["InvalidTexts", "StitchError"], ["ValueError", "Exception", "BaseException", "object"]) :: ("InvalidCounts", ["InvalidCounts", "StitchError"], ["ValueError", "Exception", "BaseException", "object"]) :: ("InvalidSection", ["InvalidSection", "StitchError"], ["ValueError", "Exception", "BaseException", "object"]) :: ("InvalidEdge", ["InvalidEdge", "StitchError"], ["ValueError", "Exception", "BaseException", "object"]) :: ("InvalidRows", ["InvalidRows", "StitchError"], ["ValueError", "Exception", "BaseException", "object"]) :: ("InvalidWay", ["InvalidWay", "StitchError"], ["ValueError", "Exception", "BaseException", "object"]) :: ("InvalidCastOn", ["InvalidCastOn", "StitchError"], ["ValueError", "Exception", "BaseException", "object"]) :: ("InvalidSteps", ["InvalidSteps", "StitchError"], ["ValueError", "Exception", "BaseException", "object"]) :: ("InvalidBlock", ["InvalidBlock", "StitchError"], ["ValueError", "Exception", "BaseException", "object"]) :: ("InvalidStretches", ["InvalidStretches", "StitchError"], ["ValueError", "Exception", "BaseException", "object"]) :: ("InvalidSchedules", ["InvalidSchedules", "StitchError"], ["ValueError", "Exception", "BaseException", "object"]) :: ("InvalidSketch", ["InvalidSketch", "StitchError"], ["ValueError", "Exception", "BaseException", "object"]) :: ("InvalidPattern", ["InvalidPattern", "StitchError"], ["ValueError", "Exception", "BaseException", "object"]) :: ("InvalidBooks", ["InvalidBooks", "StitchError"], ["ValueError", "Exception", "BaseException", "object"]) :: ("InvalidForm", ["InvalidForm", "StitchError"], ["ValueError", "Exception", "BaseException", "object"]) :: ("InvalidPoint", ["InvalidPoint", "StitchError"], ["ValueError", "Exception", "BaseException", "object"]) :: ("InvalidCell", ["InvalidCell", "StitchError"], ["ValueError", "Exception", "BaseException", "object"]) :: ("InvalidFamily", ["InvalidFamily", "StitchError"], ["ValueError", "Exception", "BaseException", "object"]) :: ("InvalidLine", ["InvalidLine", "StitchError"], ["ValueError", "Exception", "BaseException", "object"]) :: ("InvalidCommand", ["InvalidCommand", "StitchError"], ["ValueError", "Exception", "BaseException", "object"]) :: ("MissingError", ["MissingError"], ["LookupError", "Exception", "BaseException", "object"]) :: ("UnknownKind", ["UnknownKind", "MissingError"], ["LookupError", "Exception", "BaseException", "object"]) :: ("NoBack", ["NoBack", "MissingError"], ["LookupError", "Exception", "BaseException", "object"]) :: ("NoMirror", ["NoMirror", "MissingError"], ["LookupError", "Exception", "BaseException", "object"]) :: ("NoRow", ["NoRow", "MissingError"], ["LookupError", "Exception", "BaseException", "object"]) :: ("UnknownPattern", ["UnknownPattern", "MissingError"], ["LookupError", "Exception", "BaseException", "object"]) :: ("StateError", ["StateError"], ["RuntimeError", "Exception", "BaseException", "object"]) :: ("NotFitting", ["NotFitting", "StateError"], ["RuntimeError", "Exception", "BaseException", "object"]) :: ("NotThrough", ["NotThrough", "StateError"], ["RuntimeError", "Exception", "BaseException", "object"]) :: ("BelowZero", ["BelowZero", "StateError"], ["RuntimeError", "Exception", "BaseException", "object"]) :: ("NothingToUndo", ["NothingToUndo", "StateError"], ["RuntimeError", "Exception", "BaseException", "object"]) :: ("LimitError", ["LimitError"], ["ArithmeticError", "Exception", "BaseException", "object"]) :: ("TooMany", ["TooMany", "LimitError"], ["ArithmeticError", "Exception", "BaseException", "object"]) :: []
def ok0_ : List Fct := fFree "range" ::
  fFree "divmod" ::
  fFree "int" ::
  fGlo "_law_draw" ::
  fFree "len" ::
  fGlo "_law_pick" ::
  fGlo "_law_thing" ::
  fGlo "InvalidTexts" ::
  fOex "InvalidTexts" ::
  fNoat "InvalidTexts" "position" ::
  fMeth "InvalidTexts" "__init__" ::
  fGlo "InvalidParts" ::
  fOex "InvalidParts" ::
  fNoat "InvalidParts" "position" ::
  fMeth "InvalidParts" "__init__" ::
  fGlo "InvalidCastOn" ::
  fOex "InvalidCastOn" ::
  fNoat "InvalidCastOn" "position" ::
  fMeth "InvalidCastOn" "__init__" ::
  fGlo "InvalidRows" ::
  fOex "InvalidRows" ::
  fNoat "InvalidRows" "position" ::
  fMeth "InvalidRows" "__init__" ::
  fGlo "InvalidBlock" ::
  fOex "InvalidBlock" ::
  fNoat "InvalidBlock" "position" ::
  fMeth "InvalidBlock" "__init__" ::
  fGlo "InvalidSteps" ::
  fOex "InvalidSteps" ::
  fNoat "InvalidSteps" "position" ::
  fMeth "InvalidSteps" "__init__" ::
  fGlo "InvalidSchedules" ::
  fOex "InvalidSchedules" ::
  fNoat "InvalidSchedules" "position" ::
  fMeth "InvalidSchedules" "__init__" ::
  fGlo "InvalidStretches" ::
  fOex "InvalidStretches" ::
  fNoat "InvalidStretches" "position" ::
  fMeth "InvalidStretches" "__init__" ::
  fGlo "InvalidCell" ::
  fOex "InvalidCell" ::
  fNoat "InvalidCell" "position" ::
  fMeth "InvalidCell" "__init__" ::
  fGlo "BelowZero" ::
  fOex "BelowZero" ::
  fNoat "BelowZero" "position" ::
  fMeth "BelowZero" "__init__" ::
  fGlo "_law_by_position" ::
  fGlo "InvalidNumber" ::
  fOex "InvalidNumber" ::
  fNoat "InvalidNumber" "value" ::
  fMeth "InvalidNumber" "__init__" ::
  fGlo "InvalidName" ::
  fOex "InvalidName" ::
  fNoat "InvalidName" "value" ::
  fMeth "InvalidName" "__init__" ::
  fGlo "InvalidWord" ::
  fOex "InvalidWord" ::
  fNoat "InvalidWord" "value" ::
  fMeth "InvalidWord" "__init__" ::
  fGlo "InvalidKind" ::
  fOex "InvalidKind" ::
  fNoat "InvalidKind" "value" ::
  fMeth "InvalidKind" "__init__" ::
  fGlo "InvalidSection" ::
  fOex "InvalidSection" ::
  fNoat "InvalidSection" "value" ::
  fMeth "InvalidSection" "__init__" ::
  fGlo "InvalidCounts" ::
  fOex "InvalidCounts" ::
  fNoat "InvalidCounts" "value" ::
  fMeth "InvalidCounts" "__init__" ::
  fGlo "InvalidWay" ::
  fOex "InvalidWay" ::
  fNoat "InvalidWay" "value" ::
  fMeth "InvalidWay" "__init__" ::
  fGlo "InvalidEdge" ::
  fOex "InvalidEdge" ::
  fNoat "InvalidEdge" "value" ::
  fMeth "InvalidEdge" "__init__" ::
  fGlo "InvalidPattern" ::
  fOex "InvalidPattern" ::
  fNoat "InvalidPattern" "value" ::
  fMeth "InvalidPattern" "__init__" ::
  fGlo "InvalidSketch" ::
  fOex "InvalidSketch" ::
  fNoat "InvalidSketch" "value" ::
  fMeth "InvalidSketch" "__init__" ::
  fGlo "InvalidPoint" ::
  fOex "InvalidPoint" ::
  fNoat "InvalidPoint" "value" ::
  fMeth "InvalidPoint" "__init__" ::
  fGlo "InvalidForm" ::
  fOex "InvalidForm" ::
  fNoat "InvalidForm" "value" ::
  fMeth "InvalidForm" "__init__" ::
  fGlo "InvalidCommand" ::
  fOex "InvalidCommand" ::
  fNoat "InvalidCommand" "value" ::
  fMeth "InvalidCommand" "__init__" ::
  fGlo "InvalidFamily" ::
  fOex "InvalidFamily" ::
  fNoat "InvalidFamily" "value" ::
  fMeth "InvalidFamily" "__init__" ::
  fGlo "_law_by_value" ::
  fGlo "InvalidText" ::
  fOex "InvalidText" ::
  fNoat "InvalidText" "problem" ::
  fMeth "InvalidText" "__init__" ::
  fGlo "NoRow" ::
  fOex "NoRow" ::
  fNoat "NoRow" "number" ::
  fMeth "NoRow" "__init__" ::
  fGlo "NotThrough" ::
  fOex "NotThrough" ::
  fNoat "NotThrough" "outcome" ::
  fMeth "NotThrough" "__init__" ::
  fGlo "InvalidLine" ::
  fOex "InvalidLine" ::
  fNoat "InvalidLine" "line" ::
  fMeth "InvalidLine" "__init__" ::
  fGlo "InvalidBook" ::
  fOex "InvalidBook" ::
  fNoat "InvalidBook" "problem" ::
  fNoat "InvalidBook" "name" ::
  fMeth "InvalidBook" "__init__" ::
  fGlo "NotFitting" ::
  fOex "NotFitting" ::
  fNoat "NotFitting" "section" ::
  fNoat "NotFitting" "loops" ::
  fMeth "NotFitting" "__init__" ::
  fGlo "TooMany" ::
  fOex "TooMany" ::
  fNoat "TooMany" "what" ::
  fNoat "TooMany" "limit" ::
  fMeth "TooMany" "__init__" ::
  fGlo "NothingToUndo" ::
  fOxn "NothingToUndo" ::
  fGlo "InvalidBooks" ::
  fOxn "InvalidBooks" ::
  fGlo "_law_others" ::
  fGlo "NoBack" ::
  fOex "NoBack" ::
  fNoat "NoBack" "name" ::
  fMeth "NoBack" "__init__" ::
  fGlo "UnknownKind" ::
  fOex "UnknownKind" ::
  fNoat "UnknownKind" "name" ::
  fMeth "UnknownKind" "__init__" ::
  fGlo "UnknownPattern" ::
  fOex "UnknownPattern" ::
  fNoat "UnknownPattern" "name" ::
  fMeth "UnknownPattern" "__init__" ::
  fGlo "NoMirror" ::
  fOex "NoMirror" ::
  fNoat "NoMirror" "name" ::
  fMeth "NoMirror" "__init__" ::
  fGlo "_law_by_name" ::
  fFree "enumerate" ::
  fExcs nms_ xcs_ ::
  fFree "isinstance" ::
  fGlo "_law_marks" ::
  fGlo "StateError" ::
  fGlo "MissingError" ::
  fGlo "StitchError" ::
  fFree "LookupError" ::
  fFree "ValueError" ::
  fGlo "LimitError" ::
  fFree "ArithmeticError" ::
  fFree "RuntimeError" ::
  fGlo "_law_base_right" ::
  fExm "StitchError" nms_ exm_StitchError_InvalidBook ::
  fExm "MissingError" nms_ exm_MissingError_UnknownPattern ::
  fExm "StateError" nms_ exm_StateError_NotFitting ::
  fExm "LimitError" nms_ exm_LimitError_TooMany ::
  fGlo "_law_raised" ::
  fSys ::
  fFree "repr" ::
  fFree "all" ::
  fGlo "_law_fields_right" ::
  fGlo "_law_pot" ::
  fGlo "law" ::
  fFree "max" ::
  fFree "min" ::
  fFree "abs" ::
  fGlo "_law_right" ::
  fMros tab_ ::
  fRise (tab_.map (·.1)) :: []
def oks2 : List Fct := ok0_ ++ []
theorem more_ {K : PySem.W.Frag} (c : SaysZ oks2 fns K) : SaysZ oks fns K := by
  have hm : fMros tab_ K = true := c.fact 186 (by rfl)
  have hr : fRise (tab_.map (·.1)) K = true := c.fact 187 (by rfl)
  have ho : tabOk tab_ = true := by decide +kernel
  refine says_of c ?_
  unfold oks
  refine allc (c.fact 0 (by rfl)) ?_
  refine allc (c.fact 1 (by rfl)) ?_
  refine allc (c.fact 2 (by rfl)) ?_
  refine allc (c.fact 3 (by rfl)) ?_
  refine allc (c.fact 4 (by rfl)) ?_
  refine allc (c.fact 5 (by rfl)) ?_
  refine allc (c.fact 6 (by rfl)) ?_
  refine allc (c.fact 7 (by rfl)) ?_
  refine allc (c.fact 8 (by rfl)) ?_
  refine allc (c.fact 9 (by rfl)) ?_
  refine allc (c.fact 10 (by rfl)) ?_
  refine allc (c.fact 11 (by rfl)) ?_
  refine allc (c.fact 12 (by rfl)) ?_
  refine allc (c.fact 13 (by rfl)) ?_
  refine allc (c.fact 14 (by rfl)) ?_
  refine allc (c.fact 15 (by rfl)) ?_
  refine allc (c.fact 16 (by rfl)) ?_
  refine allc (c.fact 17 (by rfl)) ?_
  refine allc (c.fact 18 (by rfl)) ?_
  refine allc (c.fact 19 (by rfl)) ?_
  refine allc (c.fact 20 (by rfl)) ?_
  refine allc (c.fact 21 (by rfl)) ?_
  refine allc (c.fact 22 (by rfl)) ?_
  refine allc (c.fact 23 (by rfl)) ?_
  refine allc (c.fact 24 (by rfl)) ?_
  refine allc (c.fact 25 (by rfl)) ?_
  refine allc (c.fact 26 (by rfl)) ?_
  refine allc (c.fact 27 (by rfl)) ?_
  refine allc (c.fact 28 (by rfl)) ?_
  refine allc (c.fact 29 (by rfl)) ?_
  refine allc (c.fact 30 (by rfl)) ?_
  refine allc (c.fact 31 (by rfl)) ?_
  refine allc (c.fact 32 (by rfl)) ?_
  refine allc (c.fact 33 (by rfl)) ?_
  refine allc (c.fact 34 (by rfl)) ?_
  refine allc (c.fact 35 (by rfl)) ?_
  refine allc (c.fact 36 (by rfl)) ?_
  refine allc (c.fact 37 (by rfl)) ?_
  refine allc (c.fact 38 (by rfl)) ?_
  refine allc (c.fact 39 (by rfl)) ?_
  refine allc (c.fact 40 (by rfl)) ?_
  refine allc (c.fact 41 (by rfl)) ?_
  refine allc (c.fact 42 (by rfl)) ?_
  refine allc (c.fact 43 (by rfl)) ?_
  refine allc (c.fact 44 (by rfl)) ?_
  refine allc (c.fact 45 (by rfl)) ?_
  refine allc (c.fact 46 (by rfl)) ?_
  refine allc (c.fact 47 (by rfl)) ?_
  refine allc (c.fact 48 (by rfl)) ?_
  refine allc (c.fact 49 (by rfl)) ?_
  refine allc (c.fact 50 (by rfl)) ?_
  refine allc (c.fact 51 (by rfl)) ?_
  refine allc (c.fact 52 (by rfl)) ?_
  refine allc (c.fact 53 (by rfl)) ?_
  refine allc (c.fact 54 (by rfl)) ?_
  refine allc (c.fact 55 (by rfl)) ?_
  refine allc (c.fact 56 (by rfl)) ?_
  refine allc (c.fact 57 (by rfl)) ?_
  refine allc (c.fact 58 (by rfl)) ?_
  refine allc (c.fact 59 (by rfl)) ?_
  refine allc (c.fact 60 (by rfl)) ?_
  refine allc (c.fact 61 (by rfl)) ?_
  refine allc (c.fact 62 (by rfl)) ?_
  refine allc (c.fact 63 (by rfl)) ?_
  refine allc (c.fact 64 (by rfl)) ?_
  refine allc (c.fact 65 (by rfl)) ?_
  refine allc (c.fact 66 (by rfl)) ?_
  refine allc (c.fact 67 (by rfl)) ?_
  refine allc (c.fact 68 (by rfl)) ?_
  refine allc (c.fact 69 (by rfl)) ?_
  refine allc (c.fact 70 (by rfl)) ?_
  refine allc (c.fact 71 (by rfl)) ?_
  refine allc (c.fact 72 (by rfl)) ?_
  refine allc (c.fact 73 (by rfl)) ?_
  refine allc (c.fact 74 (by rfl)) ?_
  refine allc (c.fact 75 (by rfl)) ?_
  refine allc (c.fact 76 (by rfl)) ?_
  refine allc (c.fact 77 (by rfl)) ?_
  refine allc (c.fact 78 (by rfl)) ?_
  refine allc (c.fact 79 (by rfl)) ?_
  refine allc (c.fact 80 (by rfl)) ?_
  refine allc (c.fact 81 (by rfl)) ?_
  refine allc (c.fact 82 (by rfl)) ?_
  refine allc (c.fact 83 (by rfl)) ?_
  refine allc (c.fact 84 (by rfl)) ?_
  refine allc (c.fact 85 (by rfl)) ?_
  refine allc (c.fact 86 (by rfl)) ?_
  refine allc (c.fact 87 (by rfl)) ?_
  refine allc (c.fact 88 (by rfl)) ?_
  refine allc (c.fact 89 (by rfl)) ?_
  refine allc (c.fact 90 (by rfl)) ?_
  refine allc (c.fact 91 (by rfl)) ?_
  refine allc (c.fact 92 (by rfl)) ?_
  refine allc (c.fact 93 (by rfl)) ?_
  refine allc (c.fact 94 (by rfl)) ?_
  refine allc (c.fact 95 (by rfl)) ?_
  refine allc (c.fact 96 (by rfl)) ?_
  refine allc (c.fact 97 (by rfl)) ?_
  refine allc (c.fact 98 (by rfl)) ?_
  refine allc (c.fact 99 (by rfl)) ?_
  refine allc (c.fact 100 (by rfl)) ?_
  refine allc (c.fact 101 (by rfl)) ?_
  refine allc (c.fact 102 (by rfl)) ?_
  refine allc (c.fact 103 (by rfl)) ?_
  refine allc (c.fact 104 (by rfl)) ?_
  refine allc (c.fact 105 (by rfl)) ?_
  refine allc (c.fact 106 (by rfl)) ?_
  refine allc (c.fact 107 (by rfl)) ?_
  refine allc (c.fact 108 (by rfl)) ?_
  refine allc (c.fact 109 (by rfl)) ?_
  refine allc (c.fact 110 (by rfl)) ?_
  refine allc (c.fact 111 (by rfl)) ?_
  refine allc (c.fact 112 (by rfl)) ?_
  refine allc (c.fact 113 (by rfl)) ?_
  refine allc (c.fact 114 (by rfl)) ?_
  refine allc (c.fact 115 (by rfl)) ?_
  refine allc (c.fact 116 (by rfl)) ?_
  refine allc (c.fact 117 (by rfl)) ?_
  refine allc (c.fact 118 (by rfl)) ?_
  refine allc (c.fact 119 (by rfl)) ?_
  refine allc (c.fact 120 (by rfl)) ?_
  refine allc (c.fact 121 (by rfl)) ?_
  refine allc (c.fact 122 (by rfl)) ?_
  refine allc (c.fact 123 (by rfl)) ?_
  refine allc (c.fact 124 (by rfl)) ?_
  refine allc (c.fact 125 (by rfl)) ?_
  refine allc (c.fact 126 (by rfl)) ?_
  refine allc (c.fact 127 (by rfl)) ?_
  refine allc (c.fact 128 (by rfl)) ?_
  refine allc (c.fact 129 (by rfl)) ?_
  refine allc (c.fact 130 (by rfl)) ?_
  refine allc (c.fact 131 (by rfl)) ?_
  refine allc (c.fact 132 (by rfl)) ?_
  refine allc (c.fact 133 (by rfl)) ?_
  refine allc (c.fact 134 (by rfl)) ?_
  refine allc (c.fact 135 (by rfl)) ?_
  refine allc (c.fact 136 (by rfl)) ?_
  refine allc (c.fact 137 (by rfl)) ?_
  refine allc (c.fact 138 (by rfl)) ?_
  refine allc (c.fact 139 (by rfl)) ?_
  refine allc (c.fact 140 (by rfl)) ?_
  refine allc (c.fact 141 (by rfl)) ?_
  refine allc (c.fact 142 (by rfl)) ?_
  refine allc (c.fact 143 (by rfl)) ?_
  refine allc (c.fact 144 (by rfl)) ?_
  refine allc (c.fact 145 (by rfl)) ?_
  refine allc (c.fact 146 (by rfl)) ?_
  refine allc (c.fact 147 (by rfl)) ?_
  refine allc (c.fact 148 (by rfl)) ?_
  refine allc (c.fact 149 (by rfl)) ?_
  refine allc (c.fact 150 (by rfl)) ?_
  refine allc (c.fact 151 (by rfl)) ?_
  refine allc (c.fact 152 (by rfl)) ?_
  refine allc (c.fact 153 (by rfl)) ?_
  refine allc (c.fact 154 (by rfl)) ?_
  refine allc (c.fact 155 (by rfl)) ?_
  refine allc (c.fact 156 (by rfl)) ?_
  refine allc (c.fact 157 (by rfl)) ?_
  refine allc (c.fact 158 (by rfl)) ?_
  refine allc (c.fact 159 (by rfl)) ?_
  refine allc (kitR_of (tab := tab_) hm hr ho (by decide +kernel)) ?_
  refine allc (c.fact 160 (by rfl)) ?_
  refine allc (kitR_of (tab := tab_) hm hr ho (by decide +kernel)) ?_
  refine allc (kitR_of (tab := tab_) hm hr ho (by decide +kernel)) ?_
  refine allc (kitR_of (tab := tab_) hm hr ho (by decide +kernel)) ?_
  refine allc (kitR_of (tab := tab_) hm hr ho (by decide +kernel)) ?_
  refine allc (kitR_of (tab := tab_) hm hr ho (by decide +kernel)) ?_
  refine allc (kitR_of (tab := tab_) hm hr ho (by decide +kernel)) ?_
  refine allc (kitR_of (tab := tab_) hm hr ho (by decide +kernel)) ?_
  refine allc (kitR_of (tab := tab_) hm hr ho (by decide +kernel)) ?_
  refine allc (kitR_of (tab := tab_) hm hr ho (by decide +kernel)) ?_
  refine allc (kitR_of (tab := tab_) hm hr ho (by decide +kernel)) ?_
  refine allc (kitR_of (tab := tab_) hm hr ho (by decide +kernel)) ?_
  refine allc (kitR_of (tab := tab_) hm hr ho (by decide +kernel)) ?_
  refine allc (kitR_of (tab := tab_) hm hr ho (by decide +kernel)) ?_
  refine allc (kitR_of (tab := tab_) hm hr ho (by decide +kernel)) ?_
  refine allc (kitR_of (tab := tab_) hm hr ho (by decide +kernel)) ?_
  refine allc (kitR_of (tab := tab_) hm hr ho (by decide +kernel)) ?_
  refine allc (kitR_of (tab := tab_) hm hr ho (by decide +kernel)) ?_
  refine allc (kitR_of (tab := tab_) hm hr ho (by decide +kernel)) ?_
  refine allc (kitR_of (tab := tab_) hm hr ho (by decide +kernel)) ?_
  refine allc (kitR_of (tab := tab_) hm hr ho (by decide +kernel)) ?_
  refine allc (kitR_of (tab := tab_) hm hr ho (by decide +kernel)) ?_
  refine allc (kitR_of (tab := tab_) hm hr ho (by decide +kernel)) ?_
  refine allc (kitR_of (tab := tab_) hm hr ho (by decide +kernel)) ?_
  refine allc (kitR_of (tab := tab_) hm hr ho (by decide +kernel)) ?_
  refine allc (kitR_of (tab := tab_) hm hr ho (by decide +kernel)) ?_
  refine allc (kitR_of (tab := tab_) hm hr ho (by decide +kernel)) ?_
  refine allc (kitR_of (tab := tab_) hm hr ho (by decide +kernel)) ?_
  refine allc (kitR_of (tab := tab_) hm hr ho (by decide +kernel)) ?_
  refine allc (kitR_of (tab := tab_) hm hr ho (by decide +kernel)) ?_
  refine allc (kitR_of (tab := tab_) hm hr ho (by decide +kernel)) ?_
  refine allc (kitR_of (tab := tab_) hm hr ho (by decide +kernel)) ?_
  refine allc (kitR_of (tab := tab_) hm hr ho (by decide +kernel)) ?_
  refine allc (kitR_of (tab := tab_) hm hr ho (by decide +kernel)) ?_
  refine allc (kitR_of (tab := tab_) hm hr ho (by decide +kernel)) ?_
  refine allc (kitR_of (tab := tab_) hm hr ho (by decide +kernel)) ?_
  refine allc (kitR_of (tab := tab_) hm hr ho (by decide +kernel)) ?_
  refine allc (c.fact 161 (by rfl)) ?_
  refine allc (c.fact 162 (by rfl)) ?_
  refine allc (kitR_of (tab := tab_) hm hr ho (by decide +kernel)) ?_
  refine allc (c.fact 163 (by rfl)) ?_
  refine allc (kitR_of (tab := tab_) hm hr ho (by decide +kernel)) ?_
  refine allc (c.fact 164 (by rfl)) ?_
  refine allc (kitR_of (tab := tab_) hm hr ho (by decide +kernel)) ?_
  refine allc (c.fact 165 (by rfl)) ?_
  refine allc (kitT_of (tab := tab_) hm ho (by decide +kernel)) ?_
  refine allc (c.fact 166 (by rfl)) ?_
  refine allc (kitT_of (tab := tab_) hm ho (by decide +kernel)) ?_
  refine allc (c.fact 167 (by rfl)) ?_
  refine allc (kitR_of (tab := tab_) hm hr ho (by decide +kernel)) ?_
  refine allc (c.fact 168 (by rfl)) ?_
  refine allc (kitT_of (tab := tab_) hm ho (by decide +kernel)) ?_
  refine allc (c.fact 169 (by rfl)) ?_
  refine allc (kitT_of (tab := tab_) hm ho (by decide +kernel)) ?_
  refine allc (c.fact 170 (by rfl)) ?_
  refine allc (c.fact 171 (by rfl)) ?_
  refine allc (c.fact 172 (by rfl)) ?_
  refine allc (c.fact 173 (by rfl)) ?_
  refine allc (c.fact 174 (by rfl)) ?_
  refine allc (c.fact 175 (by rfl)) ?_
  refine allc (nc (c.fact 54 (by rfl)) (nc (c.fact 50 (by rfl)) (nc (c.fact 62 (by rfl)) (nc (c.fact 58 (by rfl)) (nc (c.fact 70 (by rfl)) (nc (c.fact 66 (by rfl)) (nc (c.fact 78 (by rfl)) (nc (c.fact 74 (by rfl)) (nc (c.fact 86 (by rfl)) (nc (c.fact 82 (by rfl)) (nc (c.fact 94 (by rfl)) (nc (c.fact 90 (by rfl)) (nc (c.fact 102 (by rfl)) (nc (c.fact 98 (by rfl)) (no (no (no (no (no (no (no (no (no (no (no (no (no (no (no (no (no (no (no (no (no (no (no nz))))))))))))))))))))))))))))))))))))) ?_
  refine allc (c.fact 176 (by rfl)) ?_
  refine allc (c.fact 177 (by rfl)) ?_
  refine allc (c.fact 178 (by rfl)) ?_
  refine allc (no (no (no (no (no (no (no (no (no (no (no (no (no (no (nc (c.fact 13 (by rfl)) (nc (c.fact 9 (by rfl)) (nc (c.fact 21 (by rfl)) (nc (c.fact 17 (by rfl)) (nc (c.fact 29 (by rfl)) (nc (c.fact 25 (by rfl)) (nc (c.fact 37 (by rfl)) (nc (c.fact 33 (by rfl)) (nc (c.fact 41 (by rfl)) (nc (c.fact 45 (by rfl)) (no (no (no (no (no (no (no (no (no (no (no (no (no nz))))))))))))))))))))))))))))))))))))) ?_
  refine allc (no (no (no (no (no (no (no (no (no (no (no (no (no (no (no (no (no (no (no (no (no (no (no (no (nc (c.fact 147 (by rfl)) (nc (c.fact 143 (by rfl)) (nc (c.fact 155 (by rfl)) (nc (c.fact 151 (by rfl)) (no (no (no (no (nc (c.fact 124 (by rfl)) (no (no (no (no nz))))))))))))))))))))))))))))))))))))) ?_
  refine allc (no (no (no (no (no (no (no (no (no (no (no (no (no (no (no (no (no (no (no (no (no (no (no (no (no (no (no (no (no (nc (c.fact 107 (by rfl)) (no (no (nc (c.fact 123 (by rfl)) (no (no (no (no nz))))))))))))))))))))))))))))))))))))) ?_
  refine allc (no (no (no (no (no (no (no (no (no (no (no (no (no (no (no (no (no (no (no (no (no (no (no (no (no (no (no (no (nc (c.fact 111 (by rfl)) (no (no (no (no (no (no (no (no nz))))))))))))))))))))))))))))))))))))) ?_
  refine allc (no (no (no (no (no (no (no (no (no (no (no (no (no (no (no (no (no (no (no (no (no (no (no (no (no (no (no (no (no (no (no (nc (c.fact 115 (by rfl)) (no (no (no (no (no nz))))))))))))))))))))))))))))))))))))) ?_
  refine allc (no (no (no (no (no (no (no (no (no (no (no (no (no (no (no (no (no (no (no (no (no (no (no (no (no (no (no (no (no (no (nc (c.fact 119 (by rfl)) (no (no (no (no (no (no nz))))))))))))))))))))))))))))))))))))) ?_
  refine allc (no (no (no (no (no (no (no (no (no (no (no (no (no (no (no (no (no (no (no (no (no (no (no (no (no (no (no (no (no (no (no (no (no (nc (c.fact 129 (by rfl)) (no (no (no nz))))))))))))))))))))))))))))))))))))) ?_
  refine allc (no (no (no (no (no (no (no (no (no (no (no (no (no (no (no (no (no (no (no (no (no (no (no (no (no (no (no (no (no (no (no (no (no (nc (c.fact 128 (by rfl)) (no (no (no nz))))))))))))))))))))))))))))))))))))) ?_
  refine allc (no (no (no (no (no (no (no (no (no (no (no (no (no (no (no (no (no (no (no (no (no (no (no (no (no (no (no (no (no (no (no (no (no (no (nc (c.fact 134 (by rfl)) (no (no nz))))))))))))))))))))))))))))))))))))) ?_
  refine allc (no (no (no (no (no (no (no (no (no (no (no (no (no (no (no (no (no (no (no (no (no (no (no (no (no (no (no (no (no (no (no (no (no (no (nc (c.fact 133 (by rfl)) (no (no nz))))))))))))))))))))))))))))))))))))) ?_
  refine allc (c.fact 179 (by rfl)) ?_
  refine allc (c.fact 180 (by rfl)) ?_
  refine allc (c.fact 181 (by rfl)) ?_
  refine allc (c.fact 182 (by rfl)) ?_
  refine allc (c.fact 183 (by rfl)) ?_
  refine allc (c.fact 184 (by rfl)) ?_
  refine allc (c.fact 185 (by rfl)) ?_
  exact alln
def loose_ : List Str := "StitchError" :: "InvalidName" :: "InvalidNumber" :: "InvalidKind" :: "InvalidBook" :: "InvalidWord" :: "InvalidParts" :: "InvalidText" :: "InvalidTexts" :: "InvalidCounts" :: "InvalidSection" :: "InvalidEdge" :: "InvalidRows" :: "InvalidWay" :: "InvalidCastOn" :: "InvalidSteps" :: "InvalidBlock" :: "InvalidStretches" :: "InvalidSchedules" :: "InvalidSketch" :: "InvalidPattern" :: "InvalidBooks" :: "InvalidForm" :: "InvalidPoint" :: "InvalidCell" :: "InvalidFamily" :: "InvalidLine" :: "InvalidCommand" :: "MissingError" :: "UnknownKind" :: "NoBack" :: "NoMirror" :: "NoRow" :: "UnknownPattern" :: "StateError" :: "NotFitting" :: "NotThrough" :: "BelowZero" :: "NothingToUndo" :: "LimitError" :: "TooMany" :: "_law_pot" :: "_law_draw" :: "_law_pick" :: "_law_thing" :: "_law_by_value" :: "_law_by_position" :: "_law_by_name" :: "_law_others" :: "_law_marks" :: "_law_base_right" :: "_law_fields_right" :: "_law_raised" :: "_law_right" :: "__name__" :: []
def as_ : List Addr := 1 :: 3 :: 2 :: rngA 900 4
theorem run0_ (w : World) : EndIs R_ as_ 20000 ok0_ w := by
  intro os
  kernel_rfl
theorem runf_ (w : World) : EndFn R_ as_ 20000 fns w := by
  intro os
  kernel_rfl
theorem runz_ (w : World) : HandSHeadRun.RunEq R_ (PySem.W.view R_.prog [56]) (hookL as_ [] [] tfs_) (fun s => obsLG as_ [] [] tfs_ (HandSHeadRun.getT s)) 20000 loose_ w := by
  intro os
  kernel_rfl
abbrev hk_ : PySem.W.Hook := hookL as_ oks2 (fns ++ []) tfs_
def ob_ (s : PySem.W.SharedT) : AlY := obsLG as_ oks2 (fns ++ []) tfs_ (HandSHeadRun.getT s)
theorem ob_eq (s : PySem.W.SharedT) : ob_ s = hk_.obs s.abs := obsLG_eq (HandSHeadRun.getT_eq s)
theorem run_ (w : World) : HandSHeadRun.RunEq R_ (PySem.W.view R_.prog [56]) hk_ ob_ 20000 loose_ w := run_add (run_fn (runz_ w) (runf_ w)) (run0_ w)
theorem facts_ {P : Program} {w : World} {K : PySem.W.Frag} {h : Heap} {mg : Str → Option Value} {f : Addr} (X : K.In h) (G : h.Ns mainGlobals mg) (hfa : mg ("law" : Str) = some (.ref f)) (c2 : SaysZ oks2 fns K) :
    ∃ fd : FuncData, (∀ (s : Shared) (v : Value), BindsTo s fd ⟨[v], []⟩ [("_law_script", v)]) ∧ ∀ base : Heap, K.In base → base.Ns mainGlobals mg → FnG True P w K mg base (L2.CX P w) 8 f fd ["_law_script"] (spLaw K (tbOf cls_ tabs_ K)) := by
  have t : TX K mg := ⟨more_ c2, h, X, G⟩
  have e := hfa.symm.trans (t.glo (x := "law") 237)
  cases e
  have b := FunD.bindsA (ps := ["_law_script"]) (u_law t) fun _ _ _ _ _ _ us hl => match us, hl with | [_], _ => rfl
  exact ⟨_, fun s v => b s [v] rfl, fun base _ _ => ok_law maths t (t.free (x := "len") 4) (t.free (x := "max") 238) (t.free (x := "min") 239) (t.free (x := "abs") 240) (t.free (x := "int") 2) (t.free (x := "range") 0) (t.free (x := "all") 224) (t.glo (x := "_law_pot") 236) (t.glo (x := "_law_right") 241)⟩
end LW
open PySem PySem.W PySem.Calls PyProof.Rows
theorem PySem.Challenge.cw_stitchsizes_k14_errors_created_holds : PySem.Challenge.rw_stitchsizes_k14_errors_created.Holds := by
  w_on; o_law
  refine HandSHeadRun.head_any (r := OpenLaw.row PySem.Challenge.rw_stitchsizes_k14_errors_created) (q := view (OpenLaw.row PySem.Challenge.rw_stitchsizes_k14_errors_created).prog [56]) (H := LW.hk_) (ob := LW.ob_) (M := 20000) (loose := LW.loose_) (d := HandSHeadRun.topDef (OpenLaw.row PySem.Challenge.rw_stitchsizes_k14_errors_created).prog 56) (kwd := []) LW.ob_eq
    (by kernel_rfl) (fun s => by kernel_rfl) LW.run_ (by kernel_rfl) (by kernel_rfl) (by kernel_rfl) (by rfl) (by first | assumption | decide +kernel) (by decide +kernel) ⟨rfl, rfl, rfl, rfl, rfl, by decide +kernel⟩ ?hw ?hc
  case hw => w_witness2
  case hc =>
    refine DF.walkG (lw := PySem.Challenge.rw_stitchsizes_k14_errors_created) (k := 8) (x := "_law_script") rfl (by kernel_rfl) ⟨rfl, by decide, by decide⟩ ?F
    intro w mg fa h Y G hmg0
    obtain ⟨K, KX, c⟩ := Y
    have hmg : mg ("law" : PySem.Str) = some (.ref fa) := by
      have e : (HandSHeadRun.topDef (OpenLaw.row PySem.Challenge.rw_stitchsizes_k14_errors_created).prog 56).name = ("law" : PySem.Str) := by kernel_rfl
      rw [← e]
      exact hmg0
    obtain ⟨fd, hb, hF⟩ := LW.facts_ (P := (PySem.Challenge.rw_stitchsizes_k14_errors_created).prog) (w := w) KX G hmg (List.append_nil LW.fns ▸ c.z)
    exact ⟨K, fd, [], DF.tbOf LW.cls_ LW.tabs_ K, KX, fun p hp => (nomatch hp), fun p hp => (nomatch hp), fun p hp => (nomatch hp), fun q hq => (nomatch (show q ∈ ([] : List (Addr × PySem.Str)) from hq)), hb, fun bb k1 k2 _ => hF bb k1 k2⟩

