import PyProof.Rows.All
import Wide.All
import OpenK.AllK
import Wide.FinOn
import HandS.ForMost
import HandS.ForExc
import HandS.Lambda
import HandS.TryMany
import HandS.ExcInit
import HandS.ExcField
import HandS.MakeKwOnly
import HandS.MakeKw
import HandS.Wide
import HandS.WideBits
import HandS.Property
import HandS.Defaults
import KE.KOpsOwn
import KE.KCallOwn
import HandS.IsInst
import HandS.FStr
import HandS.RaiseMore
import HandS.Zip
import HandS.Text
import HandS.Style
import HandS.TryOnly
import HandS.Head0
import HandS.Head1
import HandS.Head2
import HandS.HeadEnd
import HandS.HeadHook1
import HandS.HeadHook2
import HandS.HeadNt
import HandS.Ends
import HandS.HeadWalk
import PyProof.ReprRoads
import HandS.HeadHook4
import PySem.Challenge.RW_stitchsizes_k15_kinds_by_their_fields
set_option Elab.async false
set_option linter.all false
set_option maxRecDepth 100000
set_option maxHeartbeats 4000000
/-! DF: Python data as plain Lean data (D), and what a piece of the text does to it. -/
namespace DF
open PySem L2

inductive D where
  | non | bl (b : Bool) | int (i : Int) | str (x : Str)
  | tup (ds : List D) | lst (ds : List D)
  | dct (kvs : List (Key × D))
  | obj (c : Nat) (fs : List D)
  | pot
  | fn (n : Nat) | cls (c : Nat) | ty (n : String)

/-- the pot that is drawn from: two ints -/
abbrev Pot := Int × Int
inductive Res (α : Type) where
  | ok (a : α) (p : Pot)
  | exc (c : Nat) (fs : List D) (p : Pot)
  | stuck
abbrev M (α : Type) := Pot → Res α
section
variable {α β : Type}
def ret (a : α) : M α := fun p => .ok a p
def fail : M α := fun _ => .stuck
def bnd (m : M α) (f : α → M β) : M β := fun p => match m p with
  | .ok a p' => f a p'
  | .exc c fs p' => .exc c fs p'
  | .stuck => .stuck
def opt : Option α → M α
  | some a => ret a
  | none => fail
end

/-- where classes and defs stand; the fields of a class in their order -/
structure Tb where
  cls : Nat → Addr
  names : Nat → List Str
  fn : Nat → Addr
  tb : List (Addr × Str)

mutual
def R (K : PySem.W.Frag) (T : Tb) (p : Addr) (H : Hp) : D → V → Prop
  | .non, v => v = .non
  | .bl b, v => v = .bl b
  | .int i, v => v = .int i
  | .str x, v => v = .str x
  | .tup ds, v => ∃ a vs, v = .ref a ∧ SqT K H a vs ∧ RL K T p H ds vs
  | .lst ds, v => ∃ a vs, v = .ref a ∧ H a = some (.lst vs) ∧ RL K T p H ds vs
  | .dct kvs, v => ∃ a es, v = .ref a ∧ H a = some (.dK es) ∧ RK K T p H kvs es
  | .obj c fs, v => ∃ a dx vs, v = .ref a ∧ H a = some (.ins (T.cls c) dx ((T.names c).zip vs)) ∧ fs.length = (T.names c).length ∧ RL K T p H fs vs
  | .pot, v => v = .ref p
  | .fn n, v => v = .ref (T.fn n)
  | .cls c, v => v = .ref (T.cls c)
  | .ty n, v => v = .ty n
def RL (K : PySem.W.Frag) (T : Tb) (p : Addr) (H : Hp) : List D → List V → Prop
  | [], vs => vs = []
  | d :: ds, vs => ∃ v ws, vs = v :: ws ∧ R K T p H d v ∧ RL K T p H ds ws
def RK (K : PySem.W.Frag) (T : Tb) (p : Addr) (H : Hp) : List (Key × D) → List (Key × V) → Prop
  | [], vs => vs = []
  | (k, d) :: ds, vs => ∃ v ws, vs = (k, v) :: ws ∧ R K T p H d v ∧ RK K T p H ds ws
end

/-- a heap that has grown -/
def Gr (H H' : Hp) : Prop := ∀ a o, H a = some o → H' a = some o
theorem Gr.refl (H : Hp) : Gr H H := fun _ _ h => h
theorem Gr.trans {H H1 H2 : Hp} (a : Gr H H1) (b : Gr H1 H2) : Gr H H2 := fun x o h => b x o (a x o h)
theorem Gr.sqt {K : PySem.W.Frag} {H H' : Hp} {a : Addr} {xs : List V} (e : Gr H H') (h : SqT K H a xs) : SqT K H' a xs :=
  h.elim (fun h => .inl (h.elim (fun h => .inl (e _ _ h)) fun ⟨o, h⟩ => .inr ⟨o, e _ _ h⟩)) fun h => .inr h
theorem Gr.sql {K : PySem.W.Frag} {H H' : Hp} {a : Addr} {xs : List V} (e : Gr H H') (h : SqL K H a xs) : SqL K H' a xs :=
  h.elim (fun h => .inl (h.elim (fun h => .inl (e _ _ h)) fun ⟨o, h⟩ => .inr ⟨o, e _ _ h⟩)) fun h => .inr h
theorem Gr.rd {H H' : Hp} {a : Addr} {u : HO} (e : Gr H H') (h : Rd H a u) : Rd H' a u := h.elim (fun h => .inl (e _ _ h)) fun ⟨o, h⟩ => .inr ⟨o, e _ _ h⟩

mutual
theorem R.gr {K : PySem.W.Frag} {T : Tb} {p : Addr} {H H' : Hp} (g : Gr H H') : ∀ {d : D} {v : V}, R K T p H d v → R K T p H' d v
  | .non, _, h | .bl _, _, h | .int _, _, h | .str _, _, h | .pot, _, h | .fn _, _, h | .cls _, _, h | .ty _, _, h => by simpa [R] using h
  | .tup ds, v, h => by
    simp only [R] at h ⊢
    obtain ⟨a, vs, e, s, r⟩ := h
    exact ⟨a, vs, e, g.sqt s, RL.gr g r⟩
  | .lst ds, v, h => by
    simp only [R] at h ⊢
    obtain ⟨a, vs, e, s, r⟩ := h
    exact ⟨a, vs, e, g _ _ s, RL.gr g r⟩
  | .dct ds, v, h => by
    simp only [R] at h ⊢
    obtain ⟨a, vs, e, s, r⟩ := h
    exact ⟨a, vs, e, g _ _ s, RK.gr g r⟩
  | .obj c fs, v, h => by
    simp only [R] at h ⊢
    obtain ⟨a, dx, vs, e, s, l, r⟩ := h
    exact ⟨a, dx, vs, e, g _ _ s, l, RL.gr g r⟩
theorem RL.gr {K : PySem.W.Frag} {T : Tb} {p : Addr} {H H' : Hp} (g : Gr H H') : ∀ {ds : List D} {vs : List V}, RL K T p H ds vs → RL K T p H' ds vs
  | [], _, h => by simpa [RL] using h
  | d :: ds, vs, h => by
    simp only [RL] at h ⊢
    obtain ⟨v, ws, e, r, rs⟩ := h
    exact ⟨v, ws, e, R.gr g r, RL.gr g rs⟩
theorem RK.gr {K : PySem.W.Frag} {T : Tb} {p : Addr} {H H' : Hp} (g : Gr H H') : ∀ {ds : List (Key × D)} {vs : List (Key × V)}, RK K T p H ds vs → RK K T p H' ds vs
  | [], _, h => by simpa [RK] using h
  | (k, d) :: ds, vs, h => by
    simp only [RK] at h ⊢
    obtain ⟨v, ws, e, r, rs⟩ := h
    exact ⟨v, ws, e, R.gr g r, RK.gr g rs⟩
end

/-- no table of code objects -/
def nt : HO → Bool
  | .tbl _ => false
  | _ => true
/-- what may be changed -/
def mt : HO → Bool
  | .tbl _ => false
  | .ext _ => false
  | _ => true
theorem mt_nt {o : HO} (h : mt o = true) : nt o = true := by
  cases o <;> first | rfl | cases h
/-- some addresses left out of sight, and all tables -/
def Hd (S : List Addr) (H : Hp) : Hp := fun a => if a ∈ S then none else (H a).filter nt
theorem Hd.in_ {S : List Addr} {H : Hp} {a : Addr} (h : a ∈ S) : Hd S H a = none := if_pos h
theorem Hd.out {S : List Addr} {H : Hp} {a : Addr} {o : HO} (h : a ∉ S) (e : H a = some o) (n : nt o = true := by rfl) : Hd S H a = some o := by
  unfold Hd
  rw [if_neg h, e]
  simp [Option.filter, n]
theorem Hd.sees {S : List Addr} {H : Hp} {a : Addr} {o : HO} (h : Hd S H a = some o) : a ∉ S ∧ H a = some o ∧ nt o = true := by
  unfold Hd at h
  by_cases q : a ∈ S
  · rw [if_pos q] at h; cases h
  · rw [if_neg q] at h
    cases e : H a with
    | none => rw [e] at h; cases h
    | some u =>
      rw [e] at h
      by_cases z : nt u = true
      · simp [Option.filter, z] at h
        subst h
        exact ⟨q, rfl, z⟩
      · simp [Option.filter, z] at h
theorem Hd.no {S : List Addr} {H : Hp} {a : Addr} (h : H a = none) : Hd S H a = none := by
  unfold Hd
  rw [h]
  simp
theorem Hd.ne {H : Hp} {a b : Addr} {o : HO} (e : H a = some o) (n : nt o = true) (h : Hd [] H b = none) : a ≠ b := fun z => by
  rw [← z, Hd.out (by simp) e n] at h
  cases h
theorem Hd.le {S : List Addr} {H : Hp} : Gr (Hd S H) H := fun a o h => (Hd.sees h).2.1
/-- fewer hidden -/
theorem Hd.sub {S S' : List Addr} {H : Hp} (s : ∀ a ∈ S', a ∈ S) : Gr (Hd S H) (Hd S' H) := fun a o h => by
  obtain ⟨h1, h2, h3⟩ := Hd.sees h
  exact Hd.out (fun q => h1 (s a q)) h2 h3

/-- the exception that was caught, the lambda that was handed in -/
structure Xc where
  a : Addr
  cls : Value
  d : Option Addr
  lf : Addr
  lc : Addr
  lq : Str
def x0 : Xc := ⟨0, .none, none, 0, 0, Str.empty⟩
/-- the context of a body: the text's facts, the pot, the heap at the entry -/
structure Cy where
  K : PySem.W.Frag
  T : Tb
  p : Addr
  S : List Addr
  H0 : Hp
  me : Addr
  x : Xc
abbrev Cy.R (c : Cy) (H : Hp) (d : D) (v : V) : Prop := DF.R c.K c.T c.p H d v
abbrev Cy.RL (c : Cy) (H : Hp) (d : List D) (v : List V) : Prop := DF.RL c.K c.T c.p H d v

def potO (pt : Pot) : HO := .lst [.int pt.1, .int pt.2]
/-- the pot, and the tables -/
structure Pots (tb : List (Addr × Str)) (p : Addr) (H : Hp) (pt : Pot) : Prop where
  at_ : H p = some (potO pt)
  tab : LamX.Tabs tb H
theorem Pots.ext {tb : List (Addr × Str)} {p : Addr} {H H' : Hp} {pt : Pot} (h : Pots tb p H pt) (g : ∀ a o, H a = some o → H' a = some o) : Pots tb p H' pt := ⟨g _ _ h.at_, h.tab.ext g⟩
theorem Pots.upd {tb : List (Addr × Str)} {p : Addr} {H : Hp} {pt : Pot} {a : Addr} {o u : HO} (h : Pots tb p H pt) (n : p ≠ a) (e : H a = some u) (m : mt u = true) : Pots tb p (L2.upd H a o) pt := by
  refine ⟨by rw [upd_ne n]; exact h.at_, fun q hq => ?_⟩
  obtain ⟨ps, h1, h2, h3⟩ := h.tab q hq
  refine ⟨ps, ?_, h2, fun pos cv hc => ?_⟩
  · rw [upd_ne (fun z => by rw [z, e] at h1; cases h1; cases m)]
    exact h1
  · obtain ⟨c, e1, e2⟩ := h3 pos cv hc
    refine ⟨c, e1, ?_⟩
    rw [upd_ne (fun z => by
      rw [z, e] at e2
      have e3 : u = LamX.CodeO a q.2 := Option.some.inj e2
      rw [e3] at m
      cases m)]
    exact e2
/-- the pot is changed -/
theorem Pots.put {tb : List (Addr × Str)} {p : Addr} {H : Hp} {pt q : Pot} (h : Pots tb p H pt) : Pots tb p (L2.upd H p (potO q)) q := by
  refine ⟨upd_same, fun r hr => ?_⟩
  obtain ⟨ps, h1, h2, h3⟩ := h.tab r hr
  refine ⟨ps, ?_, h2, fun pos cv hc => ?_⟩
  · rw [upd_ne (fun z => by rw [z, h.at_] at h1; cases h1)]
    exact h1
  · obtain ⟨c, e1, e2⟩ := h3 pos cv hc
    refine ⟨c, e1, ?_⟩
    rw [upd_ne (fun z => by rw [z, h.at_] at e2; cases e2)]
    exact e2
/-- from H to H': all but the pot and the tables is kept -/
structure Stp (tb : List (Addr × Str)) (p : Addr) (H H' : Hp) (pt : Pot) : Prop where
  keep : ∀ a o, a ≠ p → H a = some o → (n : nt o = true := by rfl) → H' a = some o
  pot : Pots tb p H' pt
theorem Stp.trans {tb : List (Addr × Str)} {p : Addr} {H H1 H2 : Hp} {q r : Pot} (a : Stp tb p H H1 q) (b : Stp tb p H1 H2 r) : Stp tb p H H2 r := ⟨fun x o n h m => b.keep x o n (a.keep x o n h m) m, b.pot⟩
theorem Stp.gr {tb : List (Addr × Str)} {p : Addr} {H H' : Hp} {pt : Pot} (s : Stp tb p H H' pt) {S : List Addr} (hp : p ∈ S) : Gr (Hd S H) (Hd S H') := fun a o h => by
  obtain ⟨h1, h2, h3⟩ := Hd.sees h
  exact Hd.out h1 (s.keep a o (fun e => h1 (e ▸ hp)) h2 h3) h3

inductive SV where
  | val (d : D)
  | own (ds : List D)
  | ownd (kvs : List (Key × D))
  | slf (c : Nat) (fs : List D)
  | exv (e : Nat) (fs : List D)
  | lam
  | raw (v : V)
abbrev Slots := List (Option SV)
def isOwn : SV → Bool
  | .own _ => true
  | .ownd _ => true
  | .slf _ _ => true
  | _ => false
/-- an exception of the text as data -/
def Xv (c : Cy) (H : Hp) (e : Nat) (fs : List D) (cls : Value) (dd : Option Addr) : Prop :=
  cls = .ref (c.T.cls e) ∧ ((fs = [] ∧ dd = none) ∨ ∃ d fl vs, dd = some d ∧ H d = some (.xd fl) ∧ (∀ (i : Nat) (n : Str) (v : V), (c.T.names e)[i]? = some n → vs[i]? = some v → fl.lookup n = some v) ∧ fs.length = (c.T.names e).length ∧ c.RL H fs vs)
theorem Xv.gr {c : Cy} {H H' : Hp} {e : Nat} {fs : List D} {cls : Value} {dd : Option Addr} (g : Gr H H') (h : Xv c H e fs cls dd) : Xv c H' e fs cls dd :=
  ⟨h.1, h.2.imp id fun ⟨d, fl, vs, h1, h2, h3, h4, h5⟩ => ⟨d, fl, vs, h1, g _ _ h2, h3, h4, RL.gr g h5⟩⟩

abbrev hid (c : Cy) (O : List (Nat × Addr)) : List Addr := c.S ++ O.map (·.2)
def SlotOk (c : Cy) (O : List (Nat × Addr)) (H : Hp) (i : Nat) (x : Option (Option V)) : SV → Prop
  | .val d => ∃ v, x = some (some v) ∧ c.R (Hd (hid c O) H) d v
  | .own ds => ∃ a vs, (i, a) ∈ O ∧ x = some (some (.ref a)) ∧ H a = some (.lst vs) ∧ c.RL (Hd (hid c O) H) ds vs
  | .ownd kvs => ∃ a vs, (i, a) ∈ O ∧ x = some (some (.ref a)) ∧ H a = some (.dK vs) ∧ RK c.K c.T c.p (Hd (hid c O) H) kvs vs
  | .slf k fs => ∃ a dx vs, (i, a) ∈ O ∧ a = c.me ∧ x = some (some (.ref a)) ∧ H a = some (.ins (c.T.cls k) dx ((c.T.names k).zip vs)) ∧ fs.length ≤ (c.T.names k).length ∧ c.RL (Hd (hid c O) H) fs vs
  | .exv e fs => x = some (some (.ref c.x.a)) ∧ Xv c (Hd (hid c O) H) e fs c.x.cls c.x.d
  | .lam => x = some (some (.ref c.x.lf)) ∧ Hd (hid c O) H c.x.lc = some (LamX.CodeO c.x.lc c.x.lq)
  | .raw v => x = some (some v)
structure RS (c : Cy) (O : List (Nat × Addr)) (ρ : Slots) (σ : L2.St) (H : Hp) (pt : Pot) : Prop where
  pot : Pots c.T.tb c.p H pt
  ext : ∀ a o, a ≠ c.p → c.H0 a = some o → (n : nt o = true := by rfl) → H a = some o
  hp : c.p ∈ c.S
  hS : ∀ a ∈ c.S, ∃ o, H a = some o ∧ mt o = true
  new : ∀ q ∈ O, Hd [] c.H0 q.2 = none ∧ q.2 ≠ c.p ∧ q.2 ∉ c.S ∧ ∃ o, H q.2 = some o ∧ mt o = true
  nd : (O.map (·.2)).Nodup
  nf : (O.map (·.1)).Nodup
  len : ρ.length = σ.length
  ow : ∀ q ∈ O, ∃ s, ρ[q.1]? = some (some s) ∧ isOwn s = true
  sl : ∀ i s, ρ[i]? = some (some s) → SlotOk c O H i σ[i]? s

theorem SlotOk.stp {c : Cy} {O : List (Nat × Addr)} {H H' : Hp} {pt : Pot} {i : Nat} {x : Option (Option V)} {s : SV} (st : Stp c.T.tb c.p H H' pt) (hp : c.p ∈ c.S) (np : ∀ q ∈ O, q.2 ≠ c.p) (h : SlotOk c O H i x s) : SlotOk c O H' i x s := by
  have g : Gr (Hd (hid c O) H) (Hd (hid c O) H') := st.gr (List.mem_append_left _ hp)
  cases s with
  | val d =>
    obtain ⟨v, e, r⟩ := h
    exact ⟨v, e, R.gr g r⟩
  | own ds =>
    obtain ⟨a, vs, m, e, q, r⟩ := h
    exact ⟨a, vs, m, e, st.keep _ _ (np _ m) q, RL.gr g r⟩
  | ownd ds =>
    obtain ⟨a, vs, m, e, q, r⟩ := h
    exact ⟨a, vs, m, e, st.keep _ _ (np _ m) q, RK.gr g r⟩
  | slf k fs =>
    obtain ⟨a, dx, vs, m, em, e, q, l, r⟩ := h
    exact ⟨a, dx, vs, m, em, e, st.keep _ _ (np _ m) q, l, RL.gr g r⟩
  | exv e fs => exact ⟨h.1, Xv.gr g h.2⟩
  | lam => exact ⟨h.1, g _ _ h.2⟩
  | raw v => exact h
theorem RS.stp {c : Cy} {O : List (Nat × Addr)} {ρ : Slots} {σ : L2.St} {H H' : Hp} {pt pt' : Pot} (r : RS c O ρ σ H pt) (st : Stp c.T.tb c.p H H' pt') : RS c O ρ σ H' pt' :=
  ⟨st.pot, fun a o n h m => st.keep a o n (r.ext a o n h m) m, r.hp, fun a ha => let ⟨o, e, m⟩ := r.hS a ha; if q : a = c.p then ⟨_, q ▸ st.pot.at_, rfl⟩ else ⟨o, st.keep a o q e (mt_nt m), m⟩, fun q hq => let ⟨h1, h2, h4, o, h3, m⟩ := r.new q hq; ⟨h1, h2, h4, o, st.keep _ _ h2 h3 (mt_nt m), m⟩, r.nd, r.nf, r.len, r.ow, fun i s h => (r.sl i s h).stp st r.hp fun q hq => (r.new q hq).2.1⟩

def RX (c : Cy) (H : Hp) (e : Nat) (fs : List D) (cls : Value) (dd : Option Addr) : Prop := Xv c (Hd c.S H) e fs cls dd
/-- the heap when a body is left -/
structure Fin (c : Cy) (H : Hp) (pt : Pot) : Prop where
  pot : Pots c.T.tb c.p H pt
  ext : ∀ a o, a ≠ c.p → c.H0 a = some o → (n : nt o = true := by rfl) → H a = some o
  hS : ∀ a ∈ c.S, ∃ o, H a = some o ∧ mt o = true

/-- what is wanted of an outcome: its value with the heap behind it, or its exception -/
def Wg {α : Type} (c : Cy) (W : WX) (σ : L2.St) (H : Hp) (P : α → Pot → Hp → Prop) : Res α → Prop
  | .ok a pt => ∀ H', Stp c.T.tb c.p H H' pt → P a pt H'
  | .exc e fs pt => ∀ cls dd H', Stp c.T.tb c.p H H' pt → RX c H' e fs cls dd → W cls dd σ H'
  | .stuck => False
def dE (c : Cy) (W : WX) (f : Slots → M D) : TE := fun σ H Q => ∃ O ρ pt, RS c O ρ σ H pt ∧ Wg c W σ H (fun d _ H' => ∀ v, c.R (Hd (hid c O) H') d v → Q v H') (f ρ pt)
/-- a value, or a list or dict that may still be changed: to be looked at, not to be kept -/
def RB (c : Cy) (O : List (Nat × Addr)) (H : Hp) (d : D) (v : V) : Prop :=
  c.R (Hd (hid c O) H) d v ∨ (∃ i a ds vs, d = .lst ds ∧ v = .ref a ∧ (i, a) ∈ O ∧ H a = some (.lst vs) ∧ c.RL (Hd (hid c O) H) ds vs) ∨
    (∃ i a ds vs, d = .dct ds ∧ v = .ref a ∧ (i, a) ∈ O ∧ H a = some (.dK vs) ∧ RK c.K c.T c.p (Hd (hid c O) H) ds vs)
def dB (c : Cy) (W : WX) (f : Slots → M D) : TE := fun σ H Q => ∃ O ρ pt, RS c O ρ σ H pt ∧ Wg c W σ H (fun d _ H' => ∀ v, RB c O H' d v → Q v H') (f ρ pt)
def dT (c : Cy) (W : WX) (f : Slots → M Bool) : TT := fun σ H Q => ∃ O ρ pt, RS c O ρ σ H pt ∧ Wg c W σ H (fun b _ H' => Q b H') (f ρ pt)
def dA (c : Cy) (W : WX) (f : Slots → M (List D)) : TA := fun σ H Q => ∃ O ρ pt, RS c O ρ σ H pt ∧ Wg c W σ H (fun d _ H' => ∀ v, c.RL (Hd (hid c O) H') d v → Q v H') (f ρ pt)
inductive Out where
  | nx (ρ : Slots) | rt (d : D) | bk (ρ : Slots) | ct (ρ : Slots)
/-- what cannot change any more stays so -/
def Mv (c : Cy) (O : List (Nat × Addr)) (H : Hp) (O' : List (Nat × Addr)) (H' : Hp) : Prop := ∀ a o, a ∉ hid c O → H a = some o → nt o = true → a ∉ hid c O' ∧ H' a = some o
theorem Mv.trans {c : Cy} {O O1 O2 : List (Nat × Addr)} {H H1 H2 : Hp} (a : Mv c O H O1 H1) (b : Mv c O1 H1 O2 H2) : Mv c O H O2 H2 := fun x o h e m => b x o (a x o h e m).1 (a x o h e m).2 m
theorem Mv.gr {c : Cy} {O O1 : List (Nat × Addr)} {H H1 : Hp} (a : Mv c O H O1 H1) : Gr (Hd (hid c O) H) (Hd (hid c O1) H1) := fun x o h => by
  obtain ⟨h1, h2, h3⟩ := Hd.sees h
  obtain ⟨q1, q2⟩ := a x o h1 h2 h3
  exact Hd.out q1 q2 h3
theorem Stp.mv {c : Cy} {O : List (Nat × Addr)} {H H1 : Hp} {pt : Pot} (s : Stp c.T.tb c.p H H1 pt) (hp : c.p ∈ c.S) : Mv c O H O H1 := fun a o h e m => ⟨h, s.keep a o (fun q => h (q ▸ List.mem_append_left _ hp)) e m⟩
def WO (c : Cy) (W : WX) (E : Ends) (O : List (Nat × Addr)) (H : Hp) : Res Out → Prop
  | .ok (.nx ρ') pt' => ∀ O' σ' H', RS c O' ρ' σ' H' pt' → Mv c O H O' H' → E.nx σ' H'
  | .ok (.bk ρ') pt' => ∀ O' σ' H', RS c O' ρ' σ' H' pt' → Mv c O H O' H' → E.bk σ' H'
  | .ok (.ct ρ') pt' => ∀ O' σ' H', RS c O' ρ' σ' H' pt' → Mv c O H O' H' → E.ct σ' H'
  | .ok (.rt d) pt' => ∀ v H', Fin c H' pt' → c.R (Hd c.S H') d v → E.rt v H'
  | .exc e fs pt' => ∀ cls dd σ' H', Fin c H' pt' → RX c H' e fs cls dd → W cls dd σ' H'
  | .stuck => False
def dS (c : Cy) (W : WX) (g : Slots → M Out) : TS := fun E σ H => ∃ O ρ pt, RS c O ρ σ H pt ∧ WO c W E O H (g ρ pt)
/-- a new list -/
def dL (c : Cy) (W : WX) (f : Slots → M (List D)) : TE := fun σ H Q => ∃ O ρ pt, RS c O ρ σ H pt ∧ Wg c W σ H (fun ds _ H' => ∀ l vs, Hd [] H l = none → H' l = some (.lst vs) → c.RL (Hd (l :: hid c O) H') ds vs → Q (.ref l) H') (f ρ pt)

/-! ### weakening a judgement -/
section
variable {X : Cx}
theorem pe_imp {e : Expr} {t t' : TE} (h : PE X e t) (i : ∀ σ H Q, t' σ H Q → t σ H Q) : PE X e t' := ⟨fun pins s σ H Q I q => h.run pins s σ H Q I (i σ H Q q)⟩
theorem pt_imp {e : Expr} {t t' : TT} (h : PT X e t) (i : ∀ σ H Q, t' σ H Q → t σ H Q) : PT X e t' := ⟨fun pins s σ H Q I q => h.run pins s σ H Q I (i σ H Q q)⟩
theorem pw_imp {e : Expr} {t t' : TT} (h : PW X e t) (i : ∀ σ H Q, t' σ H Q → t σ H Q) : PW X e t' := ⟨fun wh pins s σ H Q I q => h.run wh pins s σ H Q I (i σ H Q q)⟩
theorem pa_imp {e : List Expr} {t t' : TA} (h : PA X e t) (i : ∀ σ H Q, t' σ H Q → t σ H Q) : PA X e t' := ⟨fun pos pins s σ H Q I q => h.run pos pins s σ H Q I (i σ H Q q)⟩
theorem ps_imp {st : Stmt} {t t' : TS} (h : PS X st t) (i : ∀ E σ H, t' E σ H → t E σ H) : PS X st t' := ⟨fun pins s σ H Q I q => h.run pins s σ H Q I (i Q σ H q)⟩
theorem pss_imp {st : List Stmt} {t t' : TS} (h : PSs X st t) (i : ∀ E σ H, t' E σ H → t E σ H) : PSs X st t' := ⟨fun pins s σ H Q I q => h.run pins s σ H Q I (i Q σ H q)⟩
theorem pe_or2 {e : Expr} {t t' : TE} (h : PE X e t) (h' : PE X e t') : PE X e (fun σ H Q => t σ H Q ∨ t' σ H Q) := ⟨fun pins s σ H Q I q => q.elim (h.run pins s σ H Q I) (h'.run pins s σ H Q I)⟩
end

section
variable {c : Cy} {W : WX} {σ : L2.St} {H : Hp} {α β : Type}
theorem RS.fin {O : List (Nat × Addr)} {ρ : Slots} {pt : Pot} (r : RS c O ρ σ H pt) : Fin c H pt := ⟨r.pot, fun a o n h m => r.ext a o n h m, r.hS⟩
theorem Wg.from {H1 : Hp} {P : α → Pot → Hp → Prop} {q : Pot} {r : Res α} (st : Stp c.T.tb c.p H H1 q) (h : Wg c W σ H P r) : Wg c W σ H1 P r := by
  cases r with
  | ok a pt => exact fun H' s => h H' (st.trans s)
  | exc e fs pt => exact fun cls dd H' s x => h cls dd H' (st.trans s) x
  | stuck => exact h
theorem Wg.bnd {P : β → Pot → Hp → Prop} {m : M α} {k : α → M β} {pt : Pot} (h : Wg c W σ H P (DF.bnd m k pt)) : Wg c W σ H (fun a q H' => Wg c W σ H' P (k a q)) (m pt) := by
  unfold DF.bnd at h
  cases e : m pt with
  | ok a q =>
    rw [e] at h
    exact fun H' st => Wg.from st h
  | exc _ _ _ =>
    rw [e] at h
    exact h
  | stuck =>
    rw [e] at h
    exact h
theorem Wg.imp {P P' : α → Pot → Hp → Prop} {r : Res α} (h : Wg c W σ H P r) (i : ∀ a q H', r = .ok a q → Stp c.T.tb c.p H H' q → P a q H' → P' a q H') : Wg c W σ H P' r := by
  cases r with
  | ok a pt => exact fun H' st => i a pt H' rfl st (h H' st)
  | exc e fs pt => exact h
  | stuck => exact h
/-- a value that is told at once -/
theorem Wg.here {P : α → Pot → Hp → Prop} {a : α} {q : Pot} (h : Wg c W σ H P (.ok a q)) (hp : Pots c.T.tb c.p H q) : P a q H := h H ⟨fun _ _ _ x _ => x, hp⟩
theorem Wg.opt {P : α → Pot → Hp → Prop} {o : Option α} {q : Pot} (h : Wg c W σ H P (DF.opt o q)) (hp : Pots c.T.tb c.p H q) : ∃ a, o = some a ∧ P a q H := by
  cases o with
  | none => exact h.elim
  | some a => exact ⟨a, rfl, Wg.here h hp⟩
end
end DF

set_option Elab.async false
set_option linter.all false
set_option maxRecDepth 100000
set_option maxHeartbeats 4000000
namespace DF
open PySem L2

section
variable {c : Cy} {W : WX} {σ : L2.St} {H H' : Hp} {O : List (Nat × Addr)} {ρ : Slots} {pt pt' : Pot} {a l : Addr} {o : HO} {v : V} {vs : List V} {d : D} {ds : List D}
theorem RS.hidden (r : RS c O ρ σ H pt) (h : a ∈ hid c O) : ∃ o, H a = some o ∧ mt o = true := by
  rcases List.mem_append.mp h with e | e
  · exact r.hS a e
  · obtain ⟨q, hq, e⟩ := List.mem_map.mp e
    obtain ⟨_, _, _, o, h, m⟩ := r.new q hq
    exact ⟨o, e ▸ h, m⟩
theorem RS.pm (r : RS c O ρ σ H pt) : c.p ∈ hid c O := List.mem_append_left _ r.hp
theorem RS.freshF (r : RS c O ρ σ H pt) (h : Hd [] H l = none) : l ∉ hid c O := fun q => by
  rcases List.mem_append.mp q with e | e
  · obtain ⟨o, h1, n⟩ := r.hS l e
    exact Hd.ne h1 (mt_nt n) h rfl
  · obtain ⟨q, hq, e⟩ := List.mem_map.mp e
    obtain ⟨_, _, _, o, h1, n⟩ := r.new q hq
    exact Hd.ne h1 (mt_nt n) h e
theorem RS.fresh (r : RS c O ρ σ H pt) (h : H l = none) : l ∉ hid c O := r.freshF (Hd.no h)
theorem Stp.refl {tb : List (Addr × Str)} {p : Addr} (h : Pots tb p H pt) : Stp tb p H H pt := ⟨fun _ _ _ x _ => x, h⟩
theorem Stp.gr_ {tb : List (Addr × Str)} {p : Addr} (h : Pots tb p H pt) (g : ∀ a o, H a = some o → H' a = some o) : Stp tb p H H' pt := ⟨fun b u _ e _ => g b u e, h.ext g⟩
theorem Stp.new {tb : List (Addr × Str)} {p : Addr} (h : Pots tb p H pt) (hl : H l = none) : Stp tb p H (upd H l o) pt :=
  Stp.gr_ h fun b u e => by rw [upd_ne (ne_of_none e hl)]; exact e
theorem Stp.newK {tb : List (Addr × Str)} {p : Addr} (s : Stp tb p H H' pt) (hl : H' l = none) : Stp tb p H (upd H' l o) pt := s.trans (Stp.new s.pot hl)
theorem Hd.new {S : List Addr} (hl : H l = none) : Gr (Hd S H) (Hd S (upd H l o)) := fun b u e => by
  obtain ⟨h1, h2, h3⟩ := Hd.sees e
  exact Hd.out h1 (by rw [upd_ne (ne_of_none h2 hl)]; exact h2) h3
theorem Hd.at_new {S : List Addr} (hs : l ∉ S) (n : nt o = true := by rfl) : Hd S (upd H l o) l = some o := Hd.out hs upd_same n
theorem RL.len : ∀ {K : PySem.W.Frag} {T : Tb} {p : Addr} {H : Hp} {ds : List D} {vs : List V}, RL K T p H ds vs → ds.length = vs.length
  | _, _, _, _, [], _, h => by simp only [RL] at h; subst h; rfl
  | _, _, _, _, d :: ds, _, h => by
    simp only [RL] at h
    obtain ⟨v, ws, rfl, _, h⟩ := h
    simp [RL.len h]
theorem RL.get : ∀ {K : PySem.W.Frag} {T : Tb} {p : Addr} {H : Hp} {ds : List D} {vs : List V} {i : Nat} {v : V}, RL K T p H ds vs → vs[i]? = some v → ∃ d, ds[i]? = some d ∧ R K T p H d v
  | _, _, _, _, [], _, _, _, h, e => by simp only [RL] at h; subst h; simp at e
  | _, _, _, _, d :: ds, _, i, v, h, e => by
    simp only [RL] at h
    obtain ⟨w, ws, rfl, r, h⟩ := h
    cases i with
    | zero => simp at e; subst e; exact ⟨d, rfl, r⟩
    | succ i => simp at e; obtain ⟨d', e', r'⟩ := RL.get h e; exact ⟨d', by simpa using e', r'⟩
theorem RL.getD : ∀ {K : PySem.W.Frag} {T : Tb} {p : Addr} {H : Hp} {ds : List D} {vs : List V} {i : Nat} {d : D}, RL K T p H ds vs → ds[i]? = some d → ∃ v, vs[i]? = some v ∧ R K T p H d v
  | _, _, _, _, [], _, _, _, h, e => by simp at e
  | _, _, _, _, d :: ds, _, i, d', h, e => by
    simp only [RL] at h
    obtain ⟨w, ws, rfl, r, h⟩ := h
    cases i with
    | zero => simp at e; subst e; exact ⟨w, rfl, r⟩
    | succ i => simp at e; obtain ⟨v', e', r'⟩ := RL.getD h e; exact ⟨v', by simpa using e', r'⟩
theorem RL.app : ∀ {K : PySem.W.Frag} {T : Tb} {p : Addr} {H : Hp} {ds es : List D} {vs ws : List V}, RL K T p H ds vs → RL K T p H es ws → RL K T p H (ds ++ es) (vs ++ ws)
  | _, _, _, _, [], _, _, _, h, h' => by simp only [RL] at h; subst h; simpa using h'
  | _, _, _, _, d :: ds, _, _, _, h, h' => by
    simp only [RL] at h
    obtain ⟨w, ws, rfl, r, h⟩ := h
    simp only [List.cons_append, RL]
    exact ⟨_, _, rfl, r, RL.app h h'⟩
theorem RL.take : ∀ {K : PySem.W.Frag} {T : Tb} {p : Addr} {H : Hp} {ds : List D} {vs : List V} (n : Nat), RL K T p H ds vs → RL K T p H (ds.take n) (vs.take n)
  | _, _, _, _, _, _, 0, _ => by simp [RL]
  | _, _, _, _, [], _, n + 1, h => by simp only [RL] at h; subst h; simp [RL]
  | _, _, _, _, d :: ds, _, n + 1, h => by
    simp only [RL] at h
    obtain ⟨w, ws, rfl, r, h⟩ := h
    simp only [List.take_succ_cons, RL]
    exact ⟨_, _, rfl, r, RL.take n h⟩
theorem RL.drop : ∀ {K : PySem.W.Frag} {T : Tb} {p : Addr} {H : Hp} {ds : List D} {vs : List V} (n : Nat), RL K T p H ds vs → RL K T p H (ds.drop n) (vs.drop n)
  | _, _, _, _, _, _, 0, h => by simpa using h
  | _, _, _, _, [], _, n + 1, h => by simp only [RL] at h; subst h; simp [RL]
  | _, _, _, _, d :: ds, _, n + 1, h => by
    simp only [RL] at h
    obtain ⟨w, ws, rfl, r, h⟩ := h
    simpa using RL.drop n h
theorem RL.set : ∀ {K : PySem.W.Frag} {T : Tb} {p : Addr} {H : Hp} {ds : List D} {vs : List V} {d : D} {v : V} (n : Nat), RL K T p H ds vs → R K T p H d v → RL K T p H (ds.set n d) (vs.set n v)
  | _, _, _, _, [], _, _, _, n, h, _ => by simp only [RL] at h; subst h; simp [RL]
  | _, _, _, _, d :: ds, _, _, _, 0, h, q => by
    simp only [RL] at h
    obtain ⟨w, ws, rfl, r, h⟩ := h
    simp only [List.set_cons_zero, RL]
    exact ⟨_, _, rfl, q, h⟩
  | _, _, _, _, d :: ds, _, _, _, n + 1, h, q => by
    simp only [RL] at h
    obtain ⟨w, ws, rfl, r, h⟩ := h
    simp only [List.set_cons_succ, RL]
    exact ⟨_, _, rfl, r, RL.set n h q⟩
theorem RL.rev {K : PySem.W.Frag} {T : Tb} {p : Addr} {H : Hp} : ∀ {ds : List D} {vs : List V}, RL K T p H ds vs → RL K T p H ds.reverse vs.reverse
  | [], _, h => by simp only [RL] at h; subst h; simp [RL]
  | d :: ds, _, h => by
    simp only [RL] at h
    obtain ⟨w, ws, rfl, r, h⟩ := h
    rw [List.reverse_cons, List.reverse_cons]
    exact RL.app (RL.rev h) (by simp only [RL]; exact ⟨_, _, rfl, r, rfl⟩)
theorem RL.nil {K : PySem.W.Frag} {T : Tb} {p : Addr} {H : Hp} : RL K T p H [] [] := by simp [RL]
theorem RL.cons {K : PySem.W.Frag} {T : Tb} {p : Addr} {H : Hp} (h : R K T p H d v) (hs : RL K T p H ds vs) : RL K T p H (d :: ds) (v :: vs) := by
  simp only [RL]
  exact ⟨_, _, rfl, h, hs⟩
theorem RL.one {K : PySem.W.Frag} {T : Tb} {p : Addr} {H : Hp} (h : R K T p H d v) : RL K T p H [d] [v] := RL.cons h RL.nil
theorem mk_lst (r : RS c O ρ σ H pt) (hl : H l = none) (h : c.RL (Hd (hid c O) H) ds vs) : c.R (Hd (hid c O) (upd H l (.lst vs))) (.lst ds) (.ref l) := by
  simp only [Cy.R, R]
  exact ⟨l, vs, rfl, Hd.at_new (r.fresh hl), RL.gr (Hd.new hl) h⟩
theorem mk_tup (r : RS c O ρ σ H pt) (hl : H l = none) (h : c.RL (Hd (hid c O) H) ds vs) : c.R (Hd (hid c O) (upd H l (.tup vs))) (.tup ds) (.ref l) := by
  simp only [Cy.R, R]
  exact ⟨l, vs, rfl, .inl (.inl (Hd.at_new (r.fresh hl))), RL.gr (Hd.new hl) h⟩

theorem RB.of (h : c.R (Hd (hid c O) H) d v) : RB c O H d v := .inl h
theorem RB.int {i : Int} (h : RB c O H (.int i) v) : v = .int i := by
  rcases h with h | ⟨_, _, _, _, e, _⟩ | ⟨_, _, _, _, e, _⟩
  · simpa [Cy.R, R] using h
  · cases e
  · cases e
theorem RB.str {i : Str} (h : RB c O H (.str i) v) : v = .str i := by
  rcases h with h | ⟨_, _, _, _, e, _⟩ | ⟨_, _, _, _, e, _⟩
  · simpa [Cy.R, R] using h
  · cases e
  · cases e
theorem RB.bl {i : Bool} (h : RB c O H (.bl i) v) : v = .bl i := by
  rcases h with h | ⟨_, _, _, _, e, _⟩ | ⟨_, _, _, _, e, _⟩
  · simpa [Cy.R, R] using h
  · cases e
  · cases e
theorem RB.non (h : RB c O H .non v) : v = .non := by
  rcases h with h | ⟨_, _, _, _, e, _⟩ | ⟨_, _, _, _, e, _⟩
  · simpa [Cy.R, R] using h
  · cases e
  · cases e
theorem RB.lst (h : RB c O H (.lst ds) v) : ∃ a vs, v = .ref a ∧ H a = some (.lst vs) ∧ c.RL (Hd (hid c O) H) ds vs := by
  rcases h with h | ⟨_, a, _, vs, e, ev, _, ha, rl⟩ | ⟨_, _, _, _, e, _⟩
  · simp only [Cy.R, R] at h
    obtain ⟨a, vs, e, s, r⟩ := h
    exact ⟨a, vs, e, Hd.le _ _ s, r⟩
  · cases e
    exact ⟨a, vs, ev, ha, rl⟩
  · cases e
theorem RB.tup (h : RB c O H (.tup ds) v) : ∃ a vs, v = .ref a ∧ SqT c.K H a vs ∧ c.RL (Hd (hid c O) H) ds vs := by
  rcases h with h | ⟨_, _, _, _, e, _⟩ | ⟨_, _, _, _, e, _⟩
  · simp only [Cy.R, R] at h
    obtain ⟨a, vs, e, s, r⟩ := h
    exact ⟨a, vs, e, Hd.le.sqt s, r⟩
  · cases e
  · cases e
theorem RB.dct {kvs : List (Key × D)} (h : RB c O H (.dct kvs) v) : ∃ a vs, v = .ref a ∧ H a = some (.dK vs) ∧ RK c.K c.T c.p (Hd (hid c O) H) kvs vs := by
  rcases h with h | ⟨_, _, _, _, e, _⟩ | ⟨_, a, _, vs, e, ev, _, ha, rl⟩
  · simp only [Cy.R, R] at h
    obtain ⟨a, vs, e, s, r⟩ := h
    exact ⟨a, vs, e, Hd.le _ _ s, r⟩
  · cases e
  · cases e
    exact ⟨a, vs, ev, ha, rl⟩
theorem RB.obj {k : Nat} {fs : List D} (h : RB c O H (.obj k fs) v) : c.R (Hd (hid c O) H) (.obj k fs) v := by
  rcases h with h | ⟨_, _, _, _, e, _⟩ | ⟨_, _, _, _, e, _⟩
  · exact h
  · cases e
  · cases e
theorem RB.stp (r : RS c O ρ σ H pt) (st : Stp c.T.tb c.p H H' pt') (h : RB c O H d v) : RB c O H' d v := by
  have g : Gr (Hd (hid c O) H) (Hd (hid c O) H') := st.gr r.pm
  rcases h with h | ⟨i, a, ds, vs, e, ev, m, ha, rl⟩ | ⟨i, a, ds, vs, e, ev, m, ha, rl⟩
  · exact .inl (R.gr g h)
  · exact .inr (.inl ⟨i, a, ds, vs, e, ev, m, st.keep _ _ (r.new _ m).2.1 ha, RL.gr g rl⟩)
  · exact .inr (.inr ⟨i, a, ds, vs, e, ev, m, st.keep _ _ (r.new _ m).2.1 ha, RK.gr g rl⟩)
end

/-! ### names, constants -/
section
variable {X : Cx} {c : Cy} {W : WX}
def valOf : Option (Option SV) → Option D
  | some (some (.val d)) => some d
  | _ => none
def bvalOf : Option (Option SV) → Option D
  | some (some (.val d)) => some d
  | some (some (.own ds)) => some (.lst ds)
  | some (some (.ownd ds)) => some (.dct ds)
  | _ => none
def varE (i : Nat) : Slots → M D := fun ρ => opt (valOf ρ[i]?)
def bvarE (i : Nat) : Slots → M D := fun ρ => opt (bvalOf ρ[i]?)
theorem valOf_some {x : Option (Option SV)} {d : D} (h : valOf x = some d) : x = some (some (.val d)) := by
  unfold valOf at h
  split at h
  · cases h; rfl
  · cases h
theorem de_var {x : Str} {pos : Pos} (i : Nat) (hN : X.N[i]? = some x := by rfl) (hv : Vis X.env.scope x := by first | exact Or.inl rfl | exact Or.inr (Or.inl rfl) | exact Or.inr (Or.inr rfl)) (hd : (x == ("__debug__" : Str)) = false := by decide)
    (hcd : (x == ("__classdict__" : Str)) = false := by decide) : PE X (.Name x pos) (dE c W (varE i)) := by
  refine pe_imp (pe_var hN hv hd hcd) fun σ H Q ⟨O, ρ, pt, r, h⟩ => ?_
  obtain ⟨d, e, h⟩ := Wg.opt h r.pot
  obtain ⟨v, ev, rv⟩ := r.sl i _ (valOf_some e)
  exact ⟨v, ev, h v rv⟩
theorem db_var {x : Str} {pos : Pos} (i : Nat) (hN : X.N[i]? = some x := by rfl) (hv : Vis X.env.scope x := by first | exact Or.inl rfl | exact Or.inr (Or.inl rfl) | exact Or.inr (Or.inr rfl)) (hd : (x == ("__debug__" : Str)) = false := by decide)
    (hcd : (x == ("__classdict__" : Str)) = false := by decide) : PE X (.Name x pos) (dB c W (bvarE i)) := by
  refine pe_imp (pe_var hN hv hd hcd) fun σ H Q ⟨O, ρ, pt, r, h⟩ => ?_
  obtain ⟨d, e, h⟩ := Wg.opt h r.pot
  unfold bvalOf at e
  split at e
  · rename_i d1 e1
    cases e
    obtain ⟨v, ev, rv⟩ := r.sl i _ e1
    exact ⟨v, ev, h v (.inl rv)⟩
  · rename_i d1 e1
    cases e
    obtain ⟨a, vs, m, ev, ha, rl⟩ := r.sl i _ e1
    exact ⟨_, ev, h _ (.inr (.inl ⟨i, a, d1, vs, rfl, rfl, m, ha, rl⟩))⟩
  · rename_i d1 e1
    cases e
    obtain ⟨a, vs, m, ev, ha, rl⟩ := r.sl i _ e1
    exact ⟨_, ev, h _ (.inr (.inr ⟨i, a, d1, vs, rfl, rfl, m, ha, rl⟩))⟩
  · cases e
/-- what is kept may be looked at -/
theorem db_of {e : Expr} {f : Slots → M D} (h : PE X e (dE c W f)) : PE X e (dB c W f) :=
  pe_imp h fun σ H Q ⟨O, ρ, pt, r, q⟩ => ⟨O, ρ, pt, r, q.imp fun _ _ _ _ _ q v rv => q v (.inl rv)⟩
def cE (d : D) : Slots → M D := fun _ => ret d
theorem de_c {e : Expr} {v : V} {d : D} (h : PE X e (tC v)) (r : ∀ H, c.R H d v) : PE X e (dE c W (cE d)) :=
  pe_imp h fun σ H Q ⟨O, ρ, pt, rs, q⟩ => Wg.here q rs.pot v (r _)
theorem de_int {i j pos} : PE X (.Constant (.int i) j pos) (dE c W (cE (.int i))) := de_c pe_int fun H => by simp [Cy.R, R]
theorem de_bl {b j pos} : PE X (.Constant (.bool b) j pos) (dE c W (cE (.bl b))) := de_c pe_bl fun H => by simp [Cy.R, R]
theorem de_non {j pos} : PE X (.Constant .none j pos) (dE c W (cE .non)) := de_c pe_non fun H => by simp [Cy.R, R]
theorem de_str {x j pos} : PE X (.Constant (.str x) j pos) (dE c W (cE (.str x))) := de_c pe_str fun H => by simp [Cy.R, R]

/-! ### argument lists, displays -/
def nilA : Slots → M (List D) := fun _ => ret []
def consA (f : Slots → M D) (g : Slots → M (List D)) : Slots → M (List D) := fun ρ => bnd (f ρ) fun d => bnd (g ρ) fun ds => ret (d :: ds)
theorem da_nil : PA X [] (dA c W nilA) := pa_imp pa_nil fun σ H Q ⟨O, ρ, pt, rs, q⟩ => Wg.here q rs.pot [] RL.nil
theorem da_cons {e : Expr} {es : List Expr} {f : Slots → M D} {g : Slots → M (List D)} (h : PE X e (dE c W f)) (hs : PA X es (dA c W g)) (hst : starEach (e :: es) X.env = (false, eval e X.env) :: starEach es X.env := by rfl) :
    PA X (e :: es) (dA c W (consA f g)) := by
  refine pa_imp (pa_cons h hs hst) fun σ H Q ⟨O, ρ, pt, r, q⟩ => ?_
  refine ⟨O, ρ, pt, r, (Wg.bnd q).imp fun d p1 H1 _ s1 q v rv => ?_⟩
  refine ⟨O, ρ, p1, r.stp s1, (Wg.bnd q).imp fun ds p2 H2 _ s2 q vs rvs => ?_⟩
  have r2 := (r.stp s1).stp s2
  exact Wg.here q r2.pot _ (RL.cons (R.gr (s2.gr r.pm) rv) rvs)
def tupE (g : Slots → M (List D)) : Slots → M D := fun ρ => bnd (g ρ) fun ds => if ds.length ≤ 100000 then ret (.tup ds) else fail
def lenA (g : Slots → M (List D)) : Slots → M (List D) := fun ρ => bnd (g ρ) fun ds => if ds.length ≤ 100000 then ret ds else fail
theorem sz5 {n : Nat} (h : n ≤ 100000) : n ≤ sizeLine := Nat.le_trans h (by decide)
theorem de_tup {es : List Expr} {g : Slots → M (List D)} {k : Nat} {pos : Pos} (h : PA X es (dA c W g)) : PE X (.Tuple es k pos) (dE c W (tupE g)) := by
  refine pe_imp (pe_tup h) fun σ H Q ⟨O, ρ, pt, r, q⟩ => ?_
  refine ⟨O, ρ, pt, r, (Wg.bnd q).imp fun ds p1 H1 _ s1 q vs rvs => ?_⟩
  by_cases hz : ds.length ≤ 100000
  · rw [if_pos hz] at q
    refine ⟨sz5 (by rw [← RL.len rvs]; exact hz), fun l hl => q _ (Stp.new s1.pot hl) _ (mk_tup (r.stp s1) hl rvs)⟩
  · rw [if_neg hz] at q
    exact q.elim
def boxE (f : Slots → M (List D)) : Slots → M D := fun ρ => bnd (f ρ) fun ds => ret (.lst ds)
theorem de_box {e : Expr} {f : Slots → M (List D)} (h : PE X e (dL c W f)) : PE X e (dE c W (boxE f)) := by
  refine pe_imp h fun σ H Q ⟨O, ρ, pt, r, q⟩ => ⟨O, ρ, pt, r, (Wg.bnd q).imp fun ds p1 H1 _ s1 q l vs hl h1 rl => ?_⟩
  refine Wg.here q s1.pot _ ?_
  simp only [Cy.R, R]
  refine ⟨l, vs, rfl, ?_, RL.gr (Hd.sub fun a h => List.mem_cons_of_mem _ h) rl⟩
  exact Hd.out (r.freshF hl) h1
/-- a new list from its items -/
theorem new_lst {σ : L2.St} {O : List (Nat × Addr)} {ρ : Slots} {pt p1 : Pot} {H H1 : Hp} {ds : List D} {vs : List V} {l : Addr} {Q : VK} (r : RS c O ρ σ H pt) (s1 : Stp c.T.tb c.p H H1 p1) (rl : c.RL (Hd (hid c O) H1) ds vs) (hl : H1 l = none)
    (q : ∀ H', Stp c.T.tb c.p H1 H' p1 → ∀ l vs, Hd [] H l = none → H' l = some (.lst vs) → c.RL (Hd (l :: hid c O) H') ds vs → Q (.ref l) H') : Q (.ref l) (upd H1 l (.lst vs)) := by
  have h0 : Hd [] H l = none := by
    cases e : Hd [] H l with
    | none => rfl
    | some o =>
      obtain ⟨_, e, n⟩ := Hd.sees e
      by_cases el : l = c.p
      · rw [el, s1.pot.at_] at hl; cases hl
      · rw [s1.keep l o el e n] at hl; cases hl
  refine q _ (Stp.new s1.pot hl) l vs h0 upd_same (RL.gr (fun a o h => ?_) rl)
  obtain ⟨h1, h2, h3⟩ := Hd.sees h
  have na : a ≠ l := ne_of_none h2 hl
  exact Hd.out (fun q => (List.mem_cons.mp q).elim na h1) (by rw [upd_ne na]; exact h2) h3
theorem dl_lst {es : List Expr} {g : Slots → M (List D)} {pos : Pos} (h : PA X es (dA c W g)) : PE X (.List es pos) (dL c W (lenA g)) := by
  refine pe_imp (pe_lst h) fun σ H Q ⟨O, ρ, pt, r, q⟩ => ?_
  refine ⟨O, ρ, pt, r, (Wg.bnd q).imp fun ds p1 H1 _ s1 q vs rvs => ?_⟩
  by_cases hz : ds.length ≤ 100000
  · rw [if_pos hz] at q
    exact ⟨sz5 (by rw [← RL.len rvs]; exact hz), fun l hl => new_lst r s1 rvs hl q⟩
  · rw [if_neg hz] at q
    exact q.elim

/-! ### operators -/
/-- an operation on two values, its wishes at the slots -/
def OpS (X : Cx) (f : Value → Value → Sem Value) (r : L2.St → R2) : Prop := ∀ (pins : List (Addr × Obj)) (s : Shared) (σ : L2.St) (H : Hp) (x y : V) (v u : Value) (Q : VK),
  Inv X pins σ H s → RelV x v → RelV y u → r σ x y H Q → wpAny (model X.prog X.w) X.A (f v u) (EP X pins σ Q) X.xe s
theorem ops_of {f : Value → Value → Sem Value} {r : R2} (h : OpR X f r) : OpS X f fun _ => r := fun pins s σ H x y v u Q => h pins s σ H x y v u Q
theorem OpS.or {f : Value → Value → Sem Value} {r r' : L2.St → R2} (h : OpS X f r) (h' : OpS X f r') : OpS X f (fun σ x y H Q => r σ x y H Q ∨ r' σ x y H Q) := fun pins s σ H x y v u Q I rx ry q =>
  q.elim (h pins s σ H x y v u Q I rx ry) (h' pins s σ H x y v u Q I rx ry)
/-- what an operator's rule r says, as a function of data -/
def OpD (X : Cx) (c : Cy) (W : WX) (f : Value → Value → Sem Value) (g : D → D → M D) : Prop := ∃ r : L2.St → R2, OpS X f r ∧
  ∀ (σ : L2.St) (O : List (Nat × Addr)) (ρ : Slots) (pt : Pot) (H : Hp) (Q : VK) (x y : D) (v w : V), RS c O ρ σ H pt → RB c O H x v → RB c O H y w →
    Wg c W σ H (fun d _ H' => ∀ v, c.R (Hd (hid c O) H') d v → Q v H') (g x y pt) → r σ v w H Q
def binE (g : D → D → M D) (fa fb : Slots → M D) : Slots → M D := fun ρ => bnd (fa ρ) fun x => bnd (fb ρ) fun y => g x y
theorem OpD.use {f : Value → Value → Sem Value} {g : D → D → M D} {fa fb : Slots → M D} (o : OpD X c W f g) : ∃ r : L2.St → R2, OpS X f r ∧ ∀ σ H Q, dE c W (binE g fa fb) σ H Q → dB c W fa σ H fun x H1 => dB c W fb σ H1 fun y H2 => r σ x y H2 Q := by
  obtain ⟨r, h1, h2⟩ := o
  refine ⟨r, h1, fun σ H Q ⟨O, ρ, pt, rs, q⟩ => ?_⟩
  refine ⟨O, ρ, pt, rs, (Wg.bnd q).imp fun x p1 H1 _ s1 q v rv => ?_⟩
  have rs1 := rs.stp s1
  refine ⟨O, ρ, p1, rs1, (Wg.bnd q).imp fun y p2 H2 _ s2 q w rw => ?_⟩
  exact h2 σ O ρ p2 H2 Q x y v w (rs1.stp s2) (rv.stp rs1 s2) rw q
theorem de_op {op : Operator} {g : D → D → M D} {a b : Expr} {fa fb : Slots → M D} {pos : Pos} (o : OpD X c W (binaryOp op) g) (ha : PE X a (dB c W fa)) (hb : PE X b (dB c W fb)) : PE X (.BinOp a op b pos) (dE c W (binE g fa fb)) := by
  obtain ⟨r, h1, h2⟩ := OpD.use (fa := fa) (fb := fb) o
  exact ⟨fun pins s σ H Q I h => wpAny_BinOp (binT ha hb I (h2 σ H Q h) fun v u s2 x y H2 I2 rx ry q => h1 pins s2 σ H2 x y v u Q I2 rx ry q)⟩
theorem de_cmp {op : CmpOp} {g : D → D → M D} {a b : Expr} {fa fb : Slots → M D} {pos : Pos} (o : OpD X c W (compareOp op) g) (ha : PE X a (dB c W fa)) (hb : PE X b (dB c W fb)) (hm : behindInMarks op b = false := by first | exact nomark _ | rfl) : PE X (.Compare a [op] [b] pos) (dE c W (binE g fa fb)) := by
  obtain ⟨r, h1, h2⟩ := OpD.use (fa := fa) (fb := fb) o
  exact ⟨fun pins s σ H Q I h => wpAny_Compare1 (binT ha hb I (h2 σ H Q h) fun v u s2 x y H2 I2 rx ry q => h1 pins s2 σ H2 x y v u Q I2 rx ry q) hm⟩
def asB : D → M Bool
  | .bl b => ret b
  | _ => fail
def testE (f : Slots → M D) : Slots → M Bool := fun ρ => bnd (f ρ) asB
theorem asB_ok {σ : L2.St} {H : Hp} {pt : Pot} {P : Bool → Pot → Hp → Prop} {d : D} (h : Wg c W σ H P (asB d pt)) (hp : Pots c.T.tb c.p H pt) : ∃ b, d = .bl b ∧ P b pt H := by
  unfold asB at h
  split at h
  · exact ⟨_, rfl, Wg.here h hp⟩
  · exact h.elim
theorem dt_cmp {op : CmpOp} {g : D → D → M D} {a b : Expr} {fa fb : Slots → M D} {pos : Pos} (o : OpD X c W (compareOp op) g) (ha : PE X a (dB c W fa)) (hb : PE X b (dB c W fb)) (hm : behindInMarks op b = false := by first | exact nomark _ | rfl) : PT X (.Compare a [op] [b] pos) (dT c W (testE (binE g fa fb))) := by
  obtain ⟨r, h1, h2⟩ := OpD.use (fa := fa) (fb := fb) o
  refine ⟨fun pins s σ H Q I ⟨O, ρ, pt, rs, q⟩ => ?_⟩
  have q1 : dE c W (binE g fa fb) σ H (fun x H' => ∃ k, x = .bl k ∧ Q k H') := ⟨O, ρ, pt, rs, (Wg.bnd q).imp fun d p1 H1 _ s1 q v rv => by
    obtain ⟨b, ed, q2⟩ := asB_ok q s1.pot
    subst ed
    exact ⟨b, by simpa [Cy.R, R] using rv, q2⟩⟩
  refine wpAny_isTrue_Compare1 (thn (ha.run pins s σ H _ I (h2 σ H _ q1)) fun v s1 ⟨x, H1, I1, r1, q1⟩ => thn (hb.run pins s1 σ H1 _ I1 q1) fun u s2 ⟨y, H2, I2, r2, q2⟩ => thn (h1 pins s2 σ H2 x y v u _ I2 r1 r2 q2) fun z s3 ⟨t, H3, I3, r3, k, e, q3⟩ => ?_) hm
  subst e
  cases r3
  exact wpAny_truthy_bool ⟨H3, I3, q3⟩
/-- any expression whose value is True or False, as a test -/
theorem dt_val {e : Expr} {f : Slots → M D} (h : PE X e (dE c W f)) (he : ∀ whole, isTrue e X.env whole = (do let v ← whole; standAt e.pos; holding [v] (truthy v)) := by intro _; rfl) : PT X e (dT c W (testE f)) := by
  refine pt_imp (pt_val h he) fun σ H Q ⟨O, ρ, pt, rs, q⟩ => ?_
  refine ⟨O, ρ, pt, rs, (Wg.bnd q).imp fun d p1 H1 _ s1 q v rv => ?_⟩
  obtain ⟨b, ed, q2⟩ := asB_ok q s1.pot
  clear q
  subst ed
  have q := q2
  exact ⟨b, by simpa [Cy.R, R] using rv, q⟩

/-! ### and, or, not, if else -/
def andT (f g : Slots → M Bool) : Slots → M Bool := fun ρ => bnd (f ρ) fun b => if b then g ρ else ret false
def orT (f g : Slots → M Bool) : Slots → M Bool := fun ρ => bnd (f ρ) fun b => if b then ret true else g ρ
def notT (f : Slots → M Bool) : Slots → M Bool := fun ρ => bnd (f ρ) fun b => ret (!b)
theorem dw_and1 {a : Expr} {pos : Pos} {f : Slots → M Bool} (h : PT X a (dT c W f)) : PW X (.BoolOp .And [a] pos) (dT c W f) := pw_and1 h
theorem dw_or1 {a : Expr} {pos : Pos} {f : Slots → M Bool} (h : PT X a (dT c W f)) : PW X (.BoolOp .Or [a] pos) (dT c W f) := pw_or1 h
theorem dw_and {a b : Expr} {rest : List Expr} {pos : Pos} {f g : Slots → M Bool} (ha : PT X a (dT c W f)) (hb : PW X (.BoolOp .And (b :: rest) pos) (dT c W g)) : PW X (.BoolOp .And (a :: b :: rest) pos) (dT c W (andT f g)) := by
  refine pw_imp (pw_and ha hb) fun σ H Q ⟨O, ρ, pt, rs, q⟩ => ?_
  refine ⟨O, ρ, pt, rs, (Wg.bnd q).imp fun b p1 H1 _ s1 q => ?_⟩
  cases b with
  | true => exact ⟨O, ρ, p1, rs.stp s1, q⟩
  | false => exact Wg.here q s1.pot
theorem dw_or {a b : Expr} {rest : List Expr} {pos : Pos} {f g : Slots → M Bool} (ha : PT X a (dT c W f)) (hb : PW X (.BoolOp .Or (b :: rest) pos) (dT c W g)) : PW X (.BoolOp .Or (a :: b :: rest) pos) (dT c W (orT f g)) := by
  refine pw_imp (pw_or ha hb) fun σ H Q ⟨O, ρ, pt, rs, q⟩ => ?_
  refine ⟨O, ρ, pt, rs, (Wg.bnd q).imp fun b p1 H1 _ s1 q => ?_⟩
  cases b with
  | false => exact ⟨O, ρ, p1, rs.stp s1, q⟩
  | true => exact Wg.here q s1.pot
theorem dt_not {a : Expr} {pos : Pos} {f : Slots → M Bool} (h : PT X a (dT c W f)) : PT X (.UnaryOp .Not a pos) (dT c W (notT f)) := by
  refine pt_imp (pt_not h) fun σ H Q ⟨O, ρ, pt, rs, q⟩ => ?_
  exact ⟨O, ρ, pt, rs, (Wg.bnd q).imp fun b p1 H1 _ s1 q => Wg.here q s1.pot⟩
def andE (f g : Slots → M D) : Slots → M D := fun ρ => bnd (bnd (f ρ) asB) fun b => if b then g ρ else ret (.bl false)
def orE (f g : Slots → M D) : Slots → M D := fun ρ => bnd (bnd (f ρ) asB) fun b => if b then ret (.bl true) else g ρ
def notE (f : Slots → M D) : Slots → M D := fun ρ => bnd (bnd (f ρ) asB) fun b => ret (.bl (!b))
theorem de_one {op} {a : Expr} {pos : Pos} {f : Slots → M D} (h : PE X a (dE c W f)) : PE X (.BoolOp op [a] pos) (dE c W f) := pe_one h
theorem de_and {a b : Expr} {rest : List Expr} {pos : Pos} {f g : Slots → M D} (ha : PE X a (dE c W f)) (hb : PE X (.BoolOp .And (b :: rest) pos) (dE c W g)) : PE X (.BoolOp .And (a :: b :: rest) pos) (dE c W (andE f g)) := by
  refine pe_imp (pe_and ha hb) fun σ H Q ⟨O, ρ, pt, rs, q⟩ => ?_
  refine ⟨O, ρ, pt, rs, (Wg.bnd (Wg.bnd q)).imp fun d p1 H1 _ s1 q v rv => ?_⟩
  obtain ⟨b, ed, q2⟩ := asB_ok q s1.pot
  clear q
  subst ed
  have q := q2
  refine ⟨b, by simpa [Cy.R, R] using rv, ?_⟩
  cases b with
  | true => exact ⟨O, ρ, p1, rs.stp s1, q⟩
  | false => exact Wg.here q s1.pot _ (by simp [Cy.R, R])
theorem de_or {a b : Expr} {rest : List Expr} {pos : Pos} {f g : Slots → M D} (ha : PE X a (dE c W f)) (hb : PE X (.BoolOp .Or (b :: rest) pos) (dE c W g)) : PE X (.BoolOp .Or (a :: b :: rest) pos) (dE c W (orE f g)) := by
  refine pe_imp (pe_or ha hb) fun σ H Q ⟨O, ρ, pt, rs, q⟩ => ?_
  refine ⟨O, ρ, pt, rs, (Wg.bnd (Wg.bnd q)).imp fun d p1 H1 _ s1 q v rv => ?_⟩
  obtain ⟨b, ed, q2⟩ := asB_ok q s1.pot
  clear q
  subst ed
  have q := q2
  refine ⟨b, by simpa [Cy.R, R] using rv, ?_⟩
  cases b with
  | false => exact ⟨O, ρ, p1, rs.stp s1, q⟩
  | true => exact Wg.here q s1.pot _ (by simp [Cy.R, R])
theorem de_not {a : Expr} {pos : Pos} {f : Slots → M D} (h : PE X a (dE c W f)) : PE X (.UnaryOp .Not a pos) (dE c W (notE f)) := by
  refine pe_imp (pe_not h) fun σ H Q ⟨O, ρ, pt, rs, q⟩ => ?_
  refine ⟨O, ρ, pt, rs, (Wg.bnd (Wg.bnd q)).imp fun d p1 H1 _ s1 q v rv => ?_⟩
  obtain ⟨b, ed, q2⟩ := asB_ok q s1.pot
  clear q
  subst ed
  have q := q2
  exact ⟨b, by simpa [Cy.R, R] using rv, Wg.here q s1.pot _ (by simp [Cy.R, R])⟩
def ifE (t : Slots → M Bool) (f g : Slots → M D) : Slots → M D := fun ρ => bnd (t ρ) fun b => if b then f ρ else g ρ
theorem de_if {t a b : Expr} {pos : Pos} {ft : Slots → M Bool} {f g : Slots → M D} (ht : PT X t (dT c W ft)) (ha : PE X a (dE c W f)) (hb : PE X b (dE c W g)) : PE X (.IfExp t a b pos) (dE c W (ifE ft f g)) := by
  refine pe_imp (pe_ifExp ht ha hb) fun σ H Q ⟨O, ρ, pt, rs, q⟩ => ?_
  refine ⟨O, ρ, pt, rs, (Wg.bnd q).imp fun b p1 H1 _ s1 q => ?_⟩
  cases b with
  | true => exact ⟨O, ρ, p1, rs.stp s1, q⟩
  | false => exact ⟨O, ρ, p1, rs.stp s1, q⟩
end
end DF

set_option Elab.async false
set_option linter.all false
set_option maxRecDepth 100000
set_option maxHeartbeats 4000000
namespace DF
open PySem L2
section
variable {X : Cx} {c : Cy} {W : WX}
/-! ### operators without effects -/
def pu (g : D → D → Option D) : D → D → M D := fun x y => opt (g x y)
theorem opd_pu {f : Value → Value → Sem Value} {g : D → D → Option D} {r : R2} (h : OpR X f r)
    (ok : ∀ (O : List (Nat × Addr)) (H : Hp) (x y z : D) (v w : V) (Q : VK), RB c O H x v → RB c O H y w → g x y = some z → (∀ v', c.R (Hd (hid c O) H) z v' → Q v' H) → r v w H Q) : OpD X c W f (pu g) :=
  ⟨fun _ => r, ops_of h, fun σ O ρ pt H Q x y v w rs rx ry q => by
    obtain ⟨z, e, q⟩ := Wg.opt q rs.pot
    exact ok O H x y z v w Q rx ry e q⟩
def orM (g h : D → D → M D) : D → D → M D := fun x y pt => match g x y pt with
  | .stuck => h x y pt
  | r => r
theorem OpD.or {f : Value → Value → Sem Value} {g h : D → D → M D} (a : OpD X c W f g) (b : OpD X c W f h) : OpD X c W f (orM g h) := by
  obtain ⟨r, r1, r2⟩ := a
  obtain ⟨r', r1', r2'⟩ := b
  refine ⟨_, r1.or r1', fun σ O ρ pt H Q x y v w rs rx ry q => ?_⟩
  unfold orM at q
  cases e : g x y pt with
  | stuck =>
    rw [e] at q
    exact .inr (r2' σ O ρ pt H Q x y v w rs rx ry q)
  | ok d p =>
    rw [e] at q
    exact .inl (r2 σ O ρ pt H Q x y v w rs rx ry (by rw [e]; exact q))
  | exc k fs p =>
    rw [e] at q
    exact .inl (r2 σ O ρ pt H Q x y v w rs rx ry (by rw [e]; exact q))
def iop (g : Int → Int → Int) : D → D → Option D
  | .int i, .int j => some (.int (g i j))
  | _, _ => none
theorem opd_iop {f : Value → Value → Sem Value} {g : Int → Int → Int} (h : OpR X f (rI0 fun i j => .int (g i j))) : OpD X c W f (pu (iop g)) := opd_pu h fun O H x y z v w Q rx ry e q => by
  unfold iop at e
  split at e
  · cases e
    exact ⟨_, _, rx.int, ry.int, q _ (by simp [Cy.R, R])⟩
  · cases e
def iopC (C : Int → Int → Bool) (g : Int → Int → Int) : D → D → Option D
  | .int i, .int j => if C i j then some (.int (g i j)) else none
  | _, _ => none
theorem opd_iopC {f : Value → Value → Sem Value} {P : Int → Int → Prop} {C : Int → Int → Bool} {g : Int → Int → Int} (h : OpR X f (rI P fun i j => .int (g i j))) (hC : ∀ i j, C i j = true → P i j) : OpD X c W f (pu (iopC C g)) := opd_pu h fun O H x y z v w Q rx ry e q => by
  unfold iopC at e
  split at e
  · split at e
    · rename_i hc
      cases e
      exact ⟨_, _, rx.int, ry.int, hC _ _ hc, q _ (by simp [Cy.R, R])⟩
    · cases e
  · cases e
def icmp (g : Int → Int → Bool) : D → D → Option D
  | .int i, .int j => some (.bl (g i j))
  | _, _ => none
theorem opd_icmp {f : Value → Value → Sem Value} {g : Int → Int → Bool} (h : OpR X f (rI0 fun i j => .bl (g i j))) : OpD X c W f (pu (icmp g)) := opd_pu h fun O H x y z v w Q rx ry e q => by
  unfold icmp at e
  split at e
  · cases e
    exact ⟨_, _, rx.int, ry.int, q _ (by simp [Cy.R, R])⟩
  · cases e
def sAdd : D → D → Option D
  | .str a, .str b => if a.length + b.length ≤ 1000000 then some (.str (a ++ b)) else none
  | _, _ => none
theorem od_sAdd : OpD X c W (binaryOp .Add) (pu sAdd) := opd_pu op_add_str fun O H x y z v w Q rx ry e q => by
  unfold sAdd at e
  split at e
  · split at e
    · rename_i hc
      cases e
      exact ⟨_, _, rx.str, ry.str, Nat.le_trans hc (by decide), q _ (by simp [Cy.R, R])⟩
    · cases e
  · cases e
abbrev iAdd := iop (· + ·)
abbrev iSub := iop (· - ·)
abbrev iMul := iopC (fun i j => decide (i.natAbs.log2 + j.natAbs.log2 < 1000000)) (· * ·)
abbrev iDiv := iopC (fun _ j => decide (0 < j) && decide (j.natAbs.log2 < 9000)) (· / ·)
abbrev iMod := iopC (fun _ j => decide (0 < j)) (· % ·)
abbrev iPow := iopC (fun i j => decide (0 ≤ j) && (decide (j ≤ 1000000) && decide (i.natAbs < 2 ^ 64))) (fun i j => i ^ j.toNat)
theorem od_iAdd : OpD X c W (binaryOp .Add) (pu iAdd) := opd_iop op_add
theorem od_iSub : OpD X c W (binaryOp .Sub) (pu iSub) := opd_iop op_sub
theorem od_iMul : OpD X c W (binaryOp .Mult) (pu iMul) := opd_iopC op_mulW fun i j h => (of_decide_eq_true h : i.natAbs.log2 + j.natAbs.log2 < 1000000)
theorem od_iDiv : OpD X c W (binaryOp .FloorDiv) (pu iDiv) := opd_iopC op_fdivW fun i j h => by
  rw [Bool.and_eq_true] at h
  exact ⟨of_decide_eq_true h.1, of_decide_eq_true h.2⟩
theorem od_iMod : OpD X c W (binaryOp .Mod) (pu iMod) := opd_iopC op_mod fun i j h => of_decide_eq_true h
theorem od_iPow : OpD X c W (binaryOp .Pow) (pu iPow) := opd_iopC op_pow fun i j h => by
  rw [Bool.and_eq_true, Bool.and_eq_true] at h
  exact ⟨of_decide_eq_true h.1, of_decide_eq_true h.2.1, of_decide_eq_true h.2.2⟩
abbrev iLt := icmp fun i j => decide (i < j)
abbrev iLe := icmp fun i j => decide (i ≤ j)
abbrev iGt := icmp fun i j => decide (j < i)
abbrev iGe := icmp fun i j => decide (j ≤ i)
theorem od_iLt : OpD X c W (compareOp .Lt) (pu iLt) := opd_icmp op_lt
theorem od_iLe : OpD X c W (compareOp .LtE) (pu iLe) := opd_icmp op_le
theorem od_iGt : OpD X c W (compareOp .Gt) (pu iGt) := opd_icmp op_gt
theorem od_iGe : OpD X c W (compareOp .GtE) (pu iGe) := opd_icmp op_ge
/-! ### lists and tuples put together -/
/-- what an operator's rule r says, where it makes a new list -/
def OpL (X : Cx) (c : Cy) (W : WX) (f : Value → Value → Sem Value) (g : D → D → M (List D)) : Prop := ∃ r : R2, OpR X f r ∧
  ∀ (σ : L2.St) (O : List (Nat × Addr)) (ρ : Slots) (pt p1 : Pot) (H H1 : Hp) (Q : VK) (x y : D) (v w : V), RS c O ρ σ H pt → Stp c.T.tb c.p H H1 p1 → RB c O H1 x v → RB c O H1 y w →
    Wg c W σ H1 (fun ds _ H' => ∀ l vs, Hd [] H l = none → H' l = some (.lst vs) → c.RL (Hd (l :: hid c O) H') ds vs → Q (.ref l) H') (g x y p1) → r v w H1 Q
def binL (g : D → D → M (List D)) (fa fb : Slots → M D) : Slots → M (List D) := fun ρ => bnd (fa ρ) fun x => bnd (fb ρ) fun y => g x y
theorem dl_op {op : Operator} {g : D → D → M (List D)} {a b : Expr} {fa fb : Slots → M D} {pos : Pos} (o : OpL X c W (binaryOp op) g) (ha : PE X a (dB c W fa)) (hb : PE X b (dB c W fb)) : PE X (.BinOp a op b pos) (dL c W (binL g fa fb)) := by
  obtain ⟨r, h1, h2⟩ := o
  refine pe_imp (pe_op h1 ha hb) fun σ H Q ⟨O, ρ, pt, rs, q⟩ => ?_
  refine ⟨O, ρ, pt, rs, (Wg.bnd q).imp fun x p1 H1 _ s1 q v rv => ?_⟩
  have rs1 := rs.stp s1
  refine ⟨O, ρ, p1, rs1, (Wg.bnd q).imp fun y p2 H2 _ s2 q w rw => ?_⟩
  exact h2 σ O ρ pt p2 H H2 Q x y v w rs (s1.trans s2) (rv.stp rs1 s2) rw q
def lCat : D → D → M (List D)
  | .lst xs, .lst ys => if xs.length + ys.length ≤ 100000 then ret (xs ++ ys) else fail
  | _, _ => fail
theorem od_lCat : OpL X c W (binaryOp .Add) lCat := ⟨_, op_cat, fun σ O ρ pt p1 H H1 Q x y v w rs s1 rx ry q => by
  cases x with
  | lst xs =>
    cases y with
    | lst ys =>
      simp only [lCat] at q
      by_cases hz : xs.length + ys.length ≤ 100000
      · rw [if_pos hz] at q
        obtain ⟨a, vs, rfl, ha, ra⟩ := rx.lst
        obtain ⟨b, ws, rfl, hb, rb⟩ := ry.lst
        exact ⟨a, b, vs, ws, rfl, rfl, ha, hb, sz5 (by rw [← RL.len ra, ← RL.len rb]; exact hz), fun l hl => new_lst rs s1 (RL.app ra rb) hl q⟩
      · rw [if_neg hz] at q
        exact q.elim
    | _ => exact q.elim
  | _ => exact q.elim⟩
def boxM (g : D → D → M (List D)) : D → D → M D := fun x y => bnd (g x y) fun ds => ret (.lst ds)
/-- .. as a value -/
theorem OpL.d {f : Value → Value → Sem Value} {g : D → D → M (List D)} (o : OpL X c W f g) : OpD X c W f (boxM g) := by
  obtain ⟨r, h1, h2⟩ := o
  refine ⟨fun _ => r, ops_of h1, fun σ O ρ pt H Q x y v w rs rx ry q => h2 σ O ρ pt pt H H Q x y v w rs (Stp.refl rs.pot) rx ry ((Wg.bnd q).imp fun ds p1 H1 _ s1 q l vs hl h1 rl => ?_)⟩
  refine Wg.here q s1.pot _ ?_
  simp only [Cy.R, R]
  refine ⟨l, vs, rfl, ?_, RL.gr (Hd.sub fun a h => List.mem_cons_of_mem _ h) rl⟩
  exact Hd.out (rs.freshF hl) h1
theorem RL.nil_iff {K : PySem.W.Frag} {T : Tb} {p : Addr} {H : Hp} {ds : List D} {vs : List V} (h : RL K T p H ds vs) : ds = [] ↔ vs = [] := by
  have := RL.len h
  constructor
  · intro e; subst e; simpa using this.symm
  · intro e; subst e; simpa using this
theorem RB.tupR {O : List (Nat × Addr)} {H : Hp} {ds : List D} {v : V} (h : RB c O H (.tup ds) v) : c.R (Hd (hid c O) H) (.tup ds) v := by
  rcases h with h | ⟨_, _, _, _, e, _⟩ | ⟨_, _, _, _, e, _⟩
  · exact h
  · cases e
  · cases e
def tCat : D → D → M D
  | .tup xs, .tup ys => if xs.length + ys.length ≤ 100000 ∧ xs.isEmpty = false then ret (.tup (xs ++ ys)) else fail
  | _, _ => fail
theorem od_tCat (hK : c.K = X.K := by rfl) : OpD X c W (binaryOp .Add) tCat := ⟨_, ops_of op_catT, fun σ O ρ pt H Q x y v w rs rx ry q => by
  cases x with
  | tup xs =>
    cases y with
    | tup ys =>
      simp only [tCat] at q
      by_cases hz : xs.length + ys.length ≤ 100000 ∧ xs.isEmpty = false
      · rw [if_pos hz] at q
        obtain ⟨a, vs, rfl, ha, ra⟩ := rx.tup
        obtain ⟨b, ws, rfl, hb, rb⟩ := ry.tup
        rw [hK] at ha hb
        refine ⟨a, b, vs, ws, rfl, rfl, ha, hb, fun e => ?_, sz5 (by rw [← RL.len ra, ← RL.len rb]; exact hz.1), fun e => ?_, fun _ l hl => q _ (Stp.new rs.pot hl) _ (mk_tup rs hl (RL.app ra rb))⟩
        · have := (RL.nil_iff ra).mpr e
          subst this
          simp at hz
        · have := (RL.nil_iff rb).mpr e
          subst this
          rw [List.append_nil] at q
          exact Wg.here q rs.pot _ rx.tupR
      · rw [if_neg hz] at q
        exact q.elim
    | _ => exact q.elim
  | _ => exact q.elim⟩

/-! ### == and != of data -/
mutual
def toPy : D → Option PyData
  | .non => some .none
  | .bl b => some (.bool b)
  | .int i => some (.int i)
  | .str x => some (.str x)
  | .tup ds => (toPyL ds).map .tuple
  | .lst ds => (toPyL ds).map .list
  | _ => none
def toPyL : List D → Option (List PyData)
  | [] => some []
  | d :: ds => (toPy d).bind fun x => (toPyL ds).map fun xs => x :: xs
end
mutual
theorem toPy_dp {K : PySem.W.Frag} {T : Tb} {p : Addr} {H H' : Hp} (g : Gr H H') : ∀ {d : D} {v : V} {x : PyData}, R K T p H d v → toPy d = some x → Dp K H' v x
  | .non, _, _, h, e => by simp only [R] at h; simp only [toPy] at e; cases e; subst h; exact .non
  | .bl b, _, _, h, e => by simp only [R] at h; simp only [toPy] at e; cases e; subst h; exact .bl b
  | .int b, _, _, h, e => by simp only [R] at h; simp only [toPy] at e; cases e; subst h; exact .int b
  | .str b, _, _, h, e => by simp only [R] at h; simp only [toPy] at e; cases e; subst h; exact .str b
  | .tup ds, _, _, h, e => by
    simp only [R] at h
    simp only [toPy] at e
    obtain ⟨a, vs, rfl, s, r⟩ := h
    cases q : toPyL ds with
    | none => rw [q] at e; cases e
    | some xs => rw [q] at e; cases e; exact .tup (g.sqt s) (toPyL_dp g r q)
  | .lst ds, _, _, h, e => by
    simp only [R] at h
    simp only [toPy] at e
    obtain ⟨a, vs, rfl, s, r⟩ := h
    cases q : toPyL ds with
    | none => rw [q] at e; cases e
    | some xs => rw [q] at e; cases e; exact .lst (.inl (.inl (g _ _ s))) (toPyL_dp g r q)
  | .dct _, _, _, _, e | .obj _ _, _, _, _, e | .pot, _, _, _, e | .fn _, _, _, _, e | .cls _, _, _, _, e | .ty _, _, _, _, e => by simp only [toPy] at e; cases e
theorem toPyL_dp {K : PySem.W.Frag} {T : Tb} {p : Addr} {H H' : Hp} (g : Gr H H') : ∀ {d : List D} {v : List V} {x : List PyData}, RL K T p H d v → toPyL d = some x → DpAll K H' v x
  | [], _, _, h, e => by simp only [RL] at h; simp only [toPyL] at e; cases e; subst h; exact .nil
  | d :: ds, _, _, h, e => by
    simp only [RL] at h
    simp only [toPyL] at e
    obtain ⟨v, ws, rfl, r, rs⟩ := h
    cases q : toPy d with
    | none => rw [q] at e; cases e
    | some x =>
      rw [q] at e
      cases q2 : toPyL ds with
      | none => rw [q2] at e; cases e
      | some xs => rw [q2] at e; cases e; exact .cons (toPy_dp g r q) (toPyL_dp g rs q2)
end
theorem RB.dp {O : List (Nat × Addr)} {H : Hp} {d : D} {v : V} {x : PyData} (h : RB c O H d v) (e : toPy d = some x) : Dp c.K H v x := by
  rcases h with h | ⟨i, a, ds, vs, e1, ev, m, ha, rl⟩ | ⟨i, a, ds, vs, e1, ev, m, ha, rl⟩
  · exact toPy_dp Hd.le h e
  · subst e1
    subst ev
    simp only [toPy] at e
    cases q : toPyL ds with
    | none => rw [q] at e; cases e
    | some xs => rw [q] at e; cases e; exact .lst (.inl (.inl ha)) (toPyL_dp Hd.le rl q)
  · subst e1
    simp only [toPy] at e
    cases e
def eqP : D → D → Option Bool
  | .int i, .int j => some (decide (i = j))
  | .str i, .str j => some (decide (i = j))
  | .bl i, .bl j => some (decide (i = j))
  | .non, .non => some true
  | .non, .int _ | .non, .bl _ | .non, .str _ | .int _, .non | .bl _, .non | .str _, .non | .int _, .str _ | .str _, .int _ | .bl _, .str _ | .str _, .bl _ => some false
  | x, y => (toPy x).bind fun a => (toPy y).bind fun b => if SeqAt.shaped a && SeqAt.shaped b then some (PyData.eqv a b) else none
def dEq (x y : D) : Option D := (eqP x y).map .bl
def dNe (x y : D) : Option D := (eqP x y).map fun b => .bl (!b)
theorem eqP_ok {O : List (Nat × Addr)} {H : Hp} {x y : D} {v w : V} {b : Bool} (rx : RB c O H x v) (ry : RB c O H y w) (e : eqP x y = some b) : (scal v w = true ∧ b = decide (v = w)) ∨ ∃ d e, Dp c.K H v d ∧ Dp c.K H w e ∧ SeqAt.shaped d = true ∧ SeqAt.shaped e = true ∧ b = PyData.eqv d e := by
  unfold eqP at e
  split at e
  · cases e
    rw [rx.int, ry.int]
    exact .inl ⟨rfl, by simp⟩
  · cases e
    rw [rx.str, ry.str]
    exact .inl ⟨rfl, by simp⟩
  · cases e
    rw [rx.bl, ry.bl]
    exact .inl ⟨rfl, by simp⟩
  · cases e
    rw [rx.non, ry.non]
    exact .inl ⟨rfl, by simp⟩
  · cases e; rw [rx.non, ry.int]; exact .inl ⟨rfl, by simp⟩
  · cases e; rw [rx.non, ry.bl]; exact .inl ⟨rfl, by simp⟩
  · cases e; rw [rx.non, ry.str]; exact .inl ⟨rfl, by simp⟩
  · cases e; rw [rx.int, ry.non]; exact .inl ⟨rfl, by simp⟩
  · cases e; rw [rx.bl, ry.non]; exact .inl ⟨rfl, by simp⟩
  · cases e; rw [rx.str, ry.non]; exact .inl ⟨rfl, by simp⟩
  · cases e; rw [rx.int, ry.str]; exact .inl ⟨rfl, by simp⟩
  · cases e; rw [rx.str, ry.int]; exact .inl ⟨rfl, by simp⟩
  · cases e; rw [rx.bl, ry.str]; exact .inl ⟨rfl, by simp⟩
  · cases e; rw [rx.str, ry.bl]; exact .inl ⟨rfl, by simp⟩
  · cases q1 : toPy x with
    | none => rw [q1] at e; cases e
    | some d1 =>
      cases q2 : toPy y with
      | none => rw [q1, q2] at e; cases e
      | some d2 =>
        rw [q1, q2] at e
        simp only [Option.bind_some] at e
        split at e
        · rename_i hs
          rw [Bool.and_eq_true] at hs
          cases e
          exact .inr ⟨d1, d2, rx.dp q1, ry.dp q2, hs.1, hs.2, rfl⟩
        · cases e
theorem od_dEq {k : Nat} (hr : Room k X.A) (hK : c.K = X.K := by rfl) : OpD X c W (compareOp .Eq) (pu dEq) := opd_pu (op_eq.or (op_eqD hr.units)) fun O H x y z v w Q rx ry e q => by
  unfold dEq at e
  cases q1 : eqP x y with
  | none => rw [q1] at e; cases e
  | some b =>
    rw [q1] at e
    cases e
    rcases eqP_ok rx ry q1 with ⟨h1, h2⟩ | ⟨d, e, h1, h2, h3, h4, h5⟩
    · exact .inl ⟨h1, h2 ▸ q _ (by simp [Cy.R, R])⟩
    · rw [hK] at h1 h2
      exact .inr ⟨d, e, h1, h2, h3, h4, h5 ▸ q _ (by simp [Cy.R, R])⟩
theorem od_dNe {k : Nat} (hr : Room k X.A) (hK : c.K = X.K := by rfl) : OpD X c W (compareOp .NotEq) (pu dNe) := opd_pu (op_ne.or (op_neD hr.units)) fun O H x y z v w Q rx ry e q => by
  unfold dNe at e
  cases q1 : eqP x y with
  | none => rw [q1] at e; cases e
  | some b =>
    rw [q1] at e
    cases e
    rcases eqP_ok rx ry q1 with ⟨h1, h2⟩ | ⟨d, e, h1, h2, h3, h4, h5⟩
    · exact .inl ⟨h1, h2 ▸ q _ (by simp [Cy.R, R])⟩
    · rw [hK] at h1 h2
      exact .inr ⟨d, e, h1, h2, h3, h4, h5 ▸ q _ (by simp [Cy.R, R])⟩
/-! ### is None -/
def isNon : D → Bool
  | .non => true
  | _ => false
theorem isNon_ok {O : List (Nat × Addr)} {H : Hp} {x : D} {v : V} (h : RB c O H x v) : decide (v = .non) = isNon x := by
  have fin : ∀ {a : Addr}, v = .ref a → decide (v = .non) = false := fun e => by subst e; simp
  cases x with
  | non => rw [h.non]; rfl
  | bl b => rw [h.bl]; simp [isNon]
  | int i => rw [h.int]; simp [isNon]
  | str x => rw [h.str]; simp [isNon]
  | tup ds => obtain ⟨a, _, e, _⟩ := h.tup; exact fin e
  | lst ds => obtain ⟨a, _, e, _⟩ := h.lst; exact fin e
  | dct ds => obtain ⟨a, _, e, _⟩ := h.dct; exact fin e
  | obj k fs =>
    have q := h.obj
    simp only [Cy.R, R] at q
    obtain ⟨a, _, _, e, _⟩ := q
    exact fin e
  | pot | fn _ | cls _ =>
    rcases h with h | ⟨_, _, _, _, e, _⟩ | ⟨_, _, _, _, e, _⟩
    · simp only [Cy.R, R] at h; exact fin h
    · cases e
    · cases e
  | ty n =>
    rcases h with h | ⟨_, _, _, _, e, _⟩ | ⟨_, _, _, _, e, _⟩
    · simp only [Cy.R, R] at h; subst h; simp [isNon]
    · cases e
    · cases e
def isN : D → D → Option D
  | x, .non => some (.bl (isNon x))
  | _, _ => none
def notN : D → D → Option D
  | x, .non => some (.bl (!isNon x))
  | _, _ => none
theorem od_isN : OpD X c W (compareOp .Is) (pu isN) := opd_pu op_isN fun O H x y z v w Q rx ry e q => by
  cases y <;> first | (simp only [isN] at e; cases e; done) | skip
  simp only [isN] at e
  cases e
  exact ⟨ry.non, by rw [isNon_ok rx]; exact q _ (by simp [Cy.R, R])⟩
theorem od_notN : OpD X c W (compareOp .IsNot) (pu notN) := opd_pu op_notN fun O H x y z v w Q rx ry e q => by
  cases y <;> first | (simp only [notN] at e; cases e; done) | skip
  simp only [notN] at e
  cases e
  exact ⟨ry.non, by rw [isNon_ok rx]; exact q _ (by simp [Cy.R, R])⟩
/-! ### unary -/
def negE (f : Slots → M D) : Slots → M D := fun ρ => bnd (f ρ) fun d => match d with
  | .int i => ret (.int (-i))
  | _ => fail
theorem de_neg {a : Expr} {pos : Pos} {f : Slots → M D} (h : PE X a (dE c W f)) : PE X (.UnaryOp .USub a pos) (dE c W (negE f)) := by
  refine pe_imp (pe_un un_neg h) fun σ H Q ⟨O, ρ, pt, rs, q⟩ => ?_
  refine ⟨O, ρ, pt, rs, (Wg.bnd q).imp fun d p1 H1 _ s1 q v rv => ?_⟩
  cases d with
  | int i => exact ⟨i, by simpa [Cy.R, R] using rv, Wg.here q s1.pot _ (by simp [Cy.R, R])⟩
  | _ => exact q.elim
end
end DF

set_option Elab.async false
set_option linter.all false
set_option maxRecDepth 100000
set_option maxHeartbeats 4000000
namespace DF
open PySem L2
/-! ### statements -/
section
variable {X : Cx} {c : Cy} {W : WX} {σ : L2.St} {H H' : Hp} {O : List (Nat × Addr)} {ρ : Slots} {pt pt' : Pot}
theorem Mv.refl : Mv c O H O H := fun a o h e _ => ⟨h, e⟩
/-- what is wanted of the rest, from a later heap -/
theorem WO.from {E : Ends} {O1 : List (Nat × Addr)} {H1 : Hp} {r : Res Out} (m : Mv c O H O1 H1) (h : WO c W E O H r) : WO c W E O1 H1 r := by
  cases r with
  | ok o p =>
    cases o with
    | nx ρ' => exact fun O' σ' H' rs m' => h O' σ' H' rs (m.trans m')
    | bk ρ' => exact fun O' σ' H' rs m' => h O' σ' H' rs (m.trans m')
    | ct ρ' => exact fun O' σ' H' rs m' => h O' σ' H' rs (m.trans m')
    | rt d => exact h
  | exc e fs p => exact h
  | stuck => exact h
theorem Fin.of_stp (r : RS c O ρ σ H pt) (s : Stp c.T.tb c.p H H' pt') : Fin c H' pt' := (r.stp s).fin
/-- an expression, then what is done with it -/
theorem WO.bnd {α : Type} {E : Ends} {m : M α} {k : α → M Out} (r : RS c O ρ σ H pt) (h : WO c W E O H (DF.bnd m k pt)) : Wg c W σ H (fun a q H' => WO c W E O H' (k a q)) (m pt) := by
  unfold DF.bnd at h
  cases e : m pt with
  | ok a q =>
    rw [e] at h
    exact fun H' st => WO.from (st.mv r.hp) h
  | exc _ _ _ =>
    rw [e] at h
    exact fun cls dd H' st x => h cls dd σ H' (Fin.of_stp r st) x
  | stuck =>
    rw [e] at h
    exact h
def seqS (f g : Slots → M Out) : Slots → M Out := fun ρ => bnd (f ρ) fun o => match o with
  | .nx ρ' => g ρ'
  | o => ret o
def nilS : Slots → M Out := fun ρ => ret (.nx ρ)
theorem dss_nil : PSs X [] (dS c W nilS) := pss_imp pss_nil fun E σ H ⟨O, ρ, pt, r, h⟩ => h O σ H r Mv.refl
theorem dss_cons {st : Stmt} {rest : List Stmt} {f g : Slots → M Out} (h1 : PS X st (dS c W f)) (h2 : PSs X rest (dS c W g)) : PSs X (st :: rest) (dS c W (seqS f g)) := by
  refine pss_imp (pss_cons h1 h2) fun E σ H ⟨O, ρ, pt, r, h⟩ => ⟨O, ρ, pt, r, ?_⟩
  unfold seqS DF.bnd at h
  cases e : f ρ pt with
  | ok o q =>
    rw [e] at h
    cases o with
    | nx ρ' => exact fun O' σ' H' rs m => ⟨O', ρ', q, rs, WO.from m h⟩
    | bk ρ' => exact h
    | ct ρ' => exact h
    | rt d => exact h
  | exc _ _ _ =>
    rw [e] at h
    exact h
  | stuck =>
    rw [e] at h
    exact h
theorem dss_one {st : Stmt} {f : Slots → M Out} (h1 : PS X st (dS c W f)) : PSs X [st] (dS c W f) := pss_one h1
theorem ds_pass {pos : Pos} : PS X (.Pass pos) (dS c W nilS) := ps_imp ps_pass fun E σ H ⟨O, ρ, pt, r, h⟩ => h O σ H r Mv.refl
def retS (f : Slots → M D) : Slots → M Out := fun ρ => bnd (f ρ) fun d => ret (.rt d)
theorem RS.out (r : RS c O ρ σ H pt) : Gr (Hd (hid c O) H) (Hd c.S H) := Hd.sub fun a h => List.mem_append_left _ h
theorem ds_ret {e : Expr} {f : Slots → M D} {pos : Pos} (h : PE X e (dE c W f)) : PS X (.Return (some e) pos) (dS c W (retS f)) := by
  refine ps_imp (ps_ret h) fun E σ H ⟨O, ρ, pt, r, h⟩ => ⟨O, ρ, pt, r, (WO.bnd r h).imp fun d p1 H1 _ s1 q v rv => ?_⟩
  exact q v H1 (Fin.of_stp r s1) (R.gr (r.stp s1).out rv)
def retNS : Slots → M Out := fun _ => ret (.rt .non)
theorem ds_retN {pos : Pos} : PS X (.Return none pos) (dS c W retNS) := ps_imp ps_retN fun E σ H ⟨O, ρ, pt, r, h⟩ => h .non H r.fin (by simp [Cy.R, R])
def dropS (f : Slots → M D) : Slots → M Out := fun ρ => bnd (f ρ) fun _ => ret (.nx ρ)
theorem ds_expr {e : Expr} {f : Slots → M D} {pos : Pos} (h : PE X e (dE c W f)) (hs : swapsWith e none pos.line X.env = pure false := by rfl) : PS X (.Expr e pos) (dS c W (dropS f)) := by
  refine ps_imp (ps_expr h hs) fun E σ H ⟨O, ρ, pt, r, h⟩ => ⟨O, ρ, pt, r, (WO.bnd r h).imp fun d p1 H1 _ s1 q v rv => ?_⟩
  exact q O σ H1 (r.stp s1) Mv.refl
def ifS (t : Slots → M Bool) (f g : Slots → M Out) : Slots → M Out := fun ρ => bnd (t ρ) fun b => if b then f ρ else g ρ
theorem ds_if {e : Expr} {t : Slots → M Bool} {a b : List Stmt} {f g : Slots → M Out} {pos : Pos} (h : PT X e (dT c W t)) (ha : PSs X a (dS c W f)) (hb : PSs X b (dS c W g)) : PS X (.If e a b pos) (dS c W (ifS t f g)) := by
  refine ps_imp (ps_if h ha hb) fun E σ H ⟨O, ρ, pt, r, h⟩ => ⟨O, ρ, pt, r, (WO.bnd r h).imp fun b p1 H1 _ s1 q => ?_⟩
  cases b with
  | true => exact ⟨O, ρ, p1, r.stp s1, q⟩
  | false => exact ⟨O, ρ, p1, r.stp s1, q⟩
/-- a statement that is not reached -/
theorem ds_never {st : Stmt} : PS X st (dS c W fun _ => fail) := ps_imp (ps_never (st := st)) fun E σ H ⟨O, ρ, pt, r, h⟩ => h.elim

/-! ### slots -/
theorem fil_mem {O : List (Nat × Addr)} {i : Nat} {q : Nat × Addr} (h : q ∈ O.filter fun q => decide (q.1 ≠ i)) : q ∈ O ∧ q.1 ≠ i := by
  obtain ⟨h1, h2⟩ := List.mem_filter.mp h
  exact ⟨h1, of_decide_eq_true h2⟩
theorem fil_sub {c : Cy} {O : List (Nat × Addr)} {i : Nat} : ∀ a ∈ hid c (O.filter fun q => decide (q.1 ≠ i)), a ∈ hid c O := fun a h => by
  rcases List.mem_append.mp h with h | h
  · exact List.mem_append_left _ h
  · obtain ⟨q, hq, e⟩ := List.mem_map.mp h
    exact List.mem_append_right _ (List.mem_map.mpr ⟨q, (fil_mem hq).1, e⟩)
theorem fil_nd {O : List (Nat × Addr)} {i : Nat} {β : Type} (f : Nat × Addr → β) (h : (O.map f).Nodup) : ((O.filter fun q => decide (q.1 ≠ i)).map f).Nodup :=
  List.Nodup.sublist (List.Sublist.map f List.filter_sublist) h
/-- fewer things are one's own: what stands in another slot stands -/
theorem SlotOk.fewer {i j : Nat} {x : Option (Option V)} {s : SV} (hj : j ≠ i) (h : SlotOk c O H j x s) : SlotOk c (O.filter fun q => decide (q.1 ≠ i)) H j x s := by
  have g : Gr (Hd (hid c O) H) (Hd (hid c (O.filter fun q => decide (q.1 ≠ i))) H) := Hd.sub fil_sub
  have keep : ∀ {a : Addr}, (j, a) ∈ O → (j, a) ∈ O.filter fun q => decide (q.1 ≠ i) := fun m => List.mem_filter.mpr ⟨m, decide_eq_true hj⟩
  cases s with
  | val d =>
    obtain ⟨v, e, r⟩ := h
    exact ⟨v, e, R.gr g r⟩
  | own ds =>
    obtain ⟨a, vs, m, e, q, r⟩ := h
    exact ⟨a, vs, keep m, e, q, RL.gr g r⟩
  | ownd ds =>
    obtain ⟨a, vs, m, e, q, r⟩ := h
    exact ⟨a, vs, keep m, e, q, RK.gr g r⟩
  | slf k fs =>
    obtain ⟨a, dx, vs, m, em, e, q, l, r⟩ := h
    exact ⟨a, dx, vs, keep m, em, e, q, l, RL.gr g r⟩
  | exv e fs => exact ⟨h.1, Xv.gr g h.2⟩
  | lam => exact ⟨h.1, g _ _ h.2⟩
  | raw v => exact h
theorem fil_ow {ρ : Slots} {O : List (Nat × Addr)} (h : ∀ q ∈ O, ∃ s, ρ[q.1]? = some (some s) ∧ isOwn s = true) (i : Nat) (x : Option SV) : ∀ q ∈ O.filter (fun q => decide (q.1 ≠ i)), ∃ s, (ρ.set i x)[q.1]? = some (some s) ∧ isOwn s = true := fun q hq => by
  obtain ⟨h1, h2⟩ := fil_mem hq
  rw [List.getElem?_set_ne (Ne.symm h2)]
  exact h q h1
theorem RS.drop (r : RS c O ρ σ H pt) (i : Nat) : RS c (O.filter fun q => decide (q.1 ≠ i)) (ρ.set i none) σ H pt :=
  ⟨r.pot, fun a o n h m => r.ext a o n h m, r.hp, r.hS, fun q hq => r.new q (fil_mem hq).1, fil_nd _ r.nd, fil_nd _ r.nf, by rw [List.length_set]; exact r.len, fil_ow r.ow i _, fun j s h => by
    by_cases e : j = i
    · subst e
      by_cases hl : j < ρ.length
      · rw [List.getElem?_set_self hl] at h; cases h
      · rw [List.getElem?_eq_none (by simpa using hl)] at h; cases h
    · rw [List.getElem?_set_ne (Ne.symm e)] at h
      exact (r.sl j s h).fewer e⟩
theorem Mv.fewer {i : Nat} : Mv c O H (O.filter fun q => decide (q.1 ≠ i)) H := fun a o h e _ => ⟨fun q => h (fil_sub a q), e⟩
/-- a value is stored -/
theorem RS.put {d : D} {v : V} (r : RS c O ρ σ H pt) (i : Nat) (hi : i < σ.length) (rv : c.R (Hd (hid c O) H) d v) : RS c (O.filter fun q => decide (q.1 ≠ i)) (ρ.set i (some (.val d))) (σ.set i (some v)) H pt := by
  have r1 := r.drop i
  refine ⟨r1.pot, fun a o n h m => r1.ext a o n h m, r1.hp, r1.hS, r1.new, r1.nd, r1.nf, by rw [List.length_set, List.length_set]; exact r.len, fil_ow r.ow i _, fun j s h => ?_⟩
  by_cases e : j = i
  · subst e
    rw [List.getElem?_set_self (by rw [r.len]; exact hi)] at h
    cases h
    exact ⟨v, List.getElem?_set_self hi, R.gr (Hd.sub fil_sub) rv⟩
  · rw [List.getElem?_set_ne (Ne.symm e)] at h
    have q := r1.sl j s (by rw [List.getElem?_set_ne (Ne.symm e)]; exact h)
    rw [List.getElem?_set_ne (Ne.symm e)]
    exact q
def asgS (i : Nat) (f : Slots → M D) : Slots → M Out := fun ρ => bnd (f ρ) fun d => if i < ρ.length then ret (.nx (ρ.set i (some (.val d)))) else fail
theorem ds_asg {i : Nat} {x : Str} {e : Expr} {f : Slots → M D} {pos' pos : Pos} (hN : X.N.Nodup) (h : PE X e (dE c W f)) (hi : X.N[i]? = some x := by rfl) (hx : Loc X.env.scope x := by first | exact Or.inl rfl | exact Or.inr rfl) (hs : swapsWith e (some (.Name x pos')) pos.line X.env = pure false := by rfl)
    (hf : X.fn x = true ∨ X.env.scope.names.lookup x = some .local := by first | exact .inl rfl | exact .inr rfl | assumption) : PS X (.Assign [.Name x pos'] e pos) (dS c W (asgS i f)) := by
  refine ps_imp (ps_set hN hi hx h hs hf) fun E σ H ⟨O, ρ, pt, r, h⟩ => ⟨O, ρ, pt, r, (WO.bnd r h).imp fun d p1 H1 _ s1 q v rv => ?_⟩
  by_cases hl : i < ρ.length
  · rw [if_pos hl] at q
    exact q _ _ _ ((r.stp s1).put i (by rw [← r.len]; exact hl) rv) Mv.fewer
  · rw [if_neg hl] at q
    exact q.elim
/-- a list of one's own is stored: it may be changed -/
theorem RS.putOwn {ds : List D} {vs : List V} {l : Addr} (r : RS c O ρ σ H pt) {H1 : Hp} {p1 : Pot} (s1 : Stp c.T.tb c.p H H1 p1) (i : Nat) (hi : i < σ.length) (hl : Hd [] H l = none) (h1 : H1 l = some (.lst vs)) (rl : c.RL (Hd (l :: hid c O) H1) ds vs) :
    RS c ((i, l) :: O.filter fun q => decide (q.1 ≠ i)) (ρ.set i (some (.own ds))) (σ.set i (some (.ref l))) H1 p1 ∧ Mv c O H ((i, l) :: O.filter fun q => decide (q.1 ≠ i)) H1 := by
  have nh : l ∉ hid c O := r.freshF hl
  have r1 := (r.stp s1).drop i
  have hid1 : ∀ a, a ∈ hid c ((i, l) :: O.filter fun q => decide (q.1 ≠ i)) → a = l ∨ a ∈ hid c O := fun a h => by
    rcases List.mem_append.mp h with h | h
    · exact .inr (List.mem_append_left _ h)
    · rcases List.mem_cons.mp (show a ∈ l :: (O.filter fun q => decide (q.1 ≠ i)).map (·.2) from h) with h | h
      · exact .inl h
      · exact .inr (fil_sub a (List.mem_append_right _ h))
  have mv : Mv c O H ((i, l) :: O.filter fun q => decide (q.1 ≠ i)) H1 := fun a o h e n => ⟨fun q => (hid1 a q).elim (fun z => Hd.ne e n hl z) h, s1.keep a o (fun z => h (z ▸ r.pm)) e n⟩
  have g0 : Gr (Hd (l :: hid c O) H1) (Hd (hid c ((i, l) :: O.filter fun q => decide (q.1 ≠ i))) H1) := Hd.sub fun a h => (hid1 a h).elim (fun z => z ▸ List.mem_cons_self) fun z => List.mem_cons_of_mem _ z
  have nl : l ∉ (O.filter fun q => decide (q.1 ≠ i)).map (·.2) := fun h => nh (fil_sub l (List.mem_append_right _ h))
  refine ⟨⟨s1.pot, fun a o n h m => r1.ext a o n h m, r.hp, r1.hS, fun q hq => ?_, ?_, ?_, by rw [List.length_set, List.length_set]; exact r.len, fun q hq => ?_, fun j s h => ?_⟩, mv⟩
  · rcases List.mem_cons.mp hq with e | hq
    · subst e
      refine ⟨?_, fun z => ?_, fun z => nh (List.mem_append_left _ z), _, h1, rfl⟩
      · cases e : Hd [] c.H0 l with
        | none => rfl
        | some o =>
          obtain ⟨_, e, n⟩ := Hd.sees e
          by_cases lp : l = c.p
          · exact absurd (lp ▸ r.pm) nh
          · exact absurd rfl (Hd.ne (r.ext l o lp e n) n hl)
      · have z' : l = c.p := z
        exact nh (z' ▸ r.pm)
    · exact r1.new q hq
  · exact List.nodup_cons.mpr ⟨nl, r1.nd⟩
  · refine List.nodup_cons.mpr ⟨fun h => ?_, r1.nf⟩
    obtain ⟨q, hq, e⟩ := List.mem_map.mp h
    exact (fil_mem hq).2 e
  · rcases List.mem_cons.mp hq with e | hq
    · subst e
      exact ⟨.own ds, List.getElem?_set_self (by rw [r.len]; exact hi), rfl⟩
    · exact fil_ow r.ow i _ q hq
  · by_cases e : j = i
    · subst e
      rw [List.getElem?_set_self (by rw [r.len]; exact hi)] at h
      cases h
      exact ⟨l, vs, List.mem_cons_self, List.getElem?_set_self hi, h1, RL.gr g0 rl⟩
    · rw [List.getElem?_set_ne (Ne.symm e)] at h
      rw [List.getElem?_set_ne (Ne.symm e)]
      have g : Gr (Hd (hid c O) H) (Hd (hid c ((i, l) :: O.filter fun q => decide (q.1 ≠ i))) H1) := mv.gr
      have keep : ∀ {a : Addr}, (j, a) ∈ O → (j, a) ∈ (i, l) :: O.filter fun q => decide (q.1 ≠ i) := fun m => List.mem_cons_of_mem _ (List.mem_filter.mpr ⟨m, decide_eq_true e⟩)
      have st : ∀ {a : Addr} {o : HO}, (j, a) ∈ O → H a = some o → (n : nt o = true := by rfl) → H1 a = some o := fun m q n => s1.keep _ _ (r.new _ m).2.1 q n
      have q := r.sl j s h
      cases s with
      | val d =>
        obtain ⟨v, e, r⟩ := q
        exact ⟨v, e, R.gr g r⟩
      | own ds =>
        obtain ⟨a, vs, m, e, q, r⟩ := q
        exact ⟨a, vs, keep m, e, st m q, RL.gr g r⟩
      | ownd ds =>
        obtain ⟨a, vs, m, e, q, r⟩ := q
        exact ⟨a, vs, keep m, e, st m q, RK.gr g r⟩
      | slf k fs =>
        obtain ⟨a, dx, vs, m, em, e, q, l, r⟩ := q
        exact ⟨a, dx, vs, keep m, em, e, st m q, l, RL.gr g r⟩
      | exv e fs => exact ⟨q.1, Xv.gr g q.2⟩
      | lam => exact ⟨q.1, g _ _ q.2⟩
      | raw v => exact q
def asgL (i : Nat) (f : Slots → M (List D)) : Slots → M Out := fun ρ => bnd (f ρ) fun ds => if i < ρ.length then ret (.nx (ρ.set i (some (.own ds)))) else fail
theorem ds_asgL {i : Nat} {x : Str} {e : Expr} {f : Slots → M (List D)} {pos' pos : Pos} (hN : X.N.Nodup) (h : PE X e (dL c W f)) (hi : X.N[i]? = some x := by rfl) (hx : Loc X.env.scope x := by first | exact Or.inl rfl | exact Or.inr rfl) (hs : swapsWith e (some (.Name x pos')) pos.line X.env = pure false := by rfl)
    (hf : X.fn x = true ∨ X.env.scope.names.lookup x = some .local := by first | exact .inl rfl | exact .inr rfl | assumption) : PS X (.Assign [.Name x pos'] e pos) (dS c W (asgL i f)) := by
  refine ps_imp (ps_set hN hi hx h hs hf) fun E σ H ⟨O, ρ, pt, r, h⟩ => ⟨O, ρ, pt, r, ?_⟩
  unfold asgL DF.bnd at h
  cases e : f ρ pt with
  | ok ds p1 =>
    rw [e] at h
    intro H1 s1 l vs hl h1 rl
    simp only at h
    by_cases hz : i < ρ.length
    · rw [if_pos hz] at h
      obtain ⟨rs, mv⟩ := r.putOwn s1 i (by rw [← r.len]; exact hz) hl h1 rl
      exact h _ _ _ rs mv
    · rw [if_neg hz] at h
      exact h.elim
  | exc _ _ _ =>
    rw [e] at h
    exact fun cls dd H' st x => h cls dd σ H' (Fin.of_stp r st) x
  | stuck =>
    rw [e] at h
    exact h
theorem same_of {i : Nat} {a : Addr} {q : Nat × Addr} : ∀ {O : List (Nat × Addr)}, (O.map (·.2)).Nodup → (i, a) ∈ O → q ∈ O → q.2 = a → q = (i, a)
  | [], _, m, _, _ => nomatch m
  | z :: zs, nd, m, m2, e => by
    have nd' := List.nodup_cons.mp (show (z.2 :: zs.map (·.2)).Nodup from nd)
    rcases List.mem_cons.mp m with e1 | m
    · rcases List.mem_cons.mp m2 with e2 | m2
      · rw [e1, e2]
      · exact absurd (List.mem_map.mpr ⟨q, m2, by rw [e, ← e1]⟩) nd'.1
    · rcases List.mem_cons.mp m2 with e2 | m2
      · exact absurd (List.mem_map.mpr ⟨_, m, by rw [← e2]; exact e.symm⟩) nd'.1
      · exact same_of nd'.2 m m2 e
/-- from now on it is not changed any more -/
def frz1 (i : Nat) (ρ : Slots) : Slots := match ρ[i]? with
  | some (some (.own ds)) => ρ.set i (some (.val (.lst ds)))
  | some (some (.ownd ds)) => ρ.set i (some (.val (.dct ds)))
  | _ => ρ
theorem RS.frz (r : RS c O ρ σ H pt) (i : Nat) : ∃ O', RS c O' (frz1 i ρ) σ H pt ∧ Mv c O H O' H := by
  have low : ∀ {a : Addr}, (i, a) ∈ O → a ∉ hid c (O.filter fun q => decide (q.1 ≠ i)) := fun {a} m h => by
    rcases List.mem_append.mp h with h | h
    · exact (r.new _ m).2.2.1 h
    · obtain ⟨q, hq, e⟩ := List.mem_map.mp h
      obtain ⟨m2, n2⟩ := fil_mem hq
      have := same_of r.nd m m2 e
      exact n2 (by rw [this])
  unfold frz1
  split
  · rename_i ds e
    obtain ⟨a, vs, m, ev, ha, rl⟩ := r.sl i _ e
    refine ⟨_, ?_, Mv.fewer (i := i)⟩
    have r1 := r.drop i
    refine ⟨r1.pot, fun a o n h m => r1.ext a o n h m, r1.hp, r1.hS, r1.new, r1.nd, r1.nf, by rw [List.length_set]; exact r.len, fil_ow r.ow i _, fun j s h => ?_⟩
    by_cases ej : j = i
    · subst ej
      rw [List.getElem?_set_self (List.getElem?_eq_some_iff.mp e).1] at h
      cases h
      refine ⟨_, ev, ?_⟩
      simp only [Cy.R, R]
      exact ⟨a, vs, rfl, Hd.out (low m) ha, RL.gr (Hd.sub fil_sub) rl⟩
    · rw [List.getElem?_set_ne (Ne.symm ej)] at h
      exact r1.sl j s (by rw [List.getElem?_set_ne (Ne.symm ej)]; exact h)
  · rename_i ds e
    obtain ⟨a, vs, m, ev, ha, rl⟩ := r.sl i _ e
    refine ⟨_, ?_, Mv.fewer (i := i)⟩
    have r1 := r.drop i
    refine ⟨r1.pot, fun a o n h m => r1.ext a o n h m, r1.hp, r1.hS, r1.new, r1.nd, r1.nf, by rw [List.length_set]; exact r.len, fil_ow r.ow i _, fun j s h => ?_⟩
    by_cases ej : j = i
    · subst ej
      rw [List.getElem?_set_self (List.getElem?_eq_some_iff.mp e).1] at h
      cases h
      refine ⟨_, ev, ?_⟩
      simp only [Cy.R, R]
      exact ⟨a, vs, rfl, Hd.out (low m) ha, RK.gr (Hd.sub fil_sub) rl⟩
    · rw [List.getElem?_set_ne (Ne.symm ej)] at h
      exact r1.sl j s (by rw [List.getElem?_set_ne (Ne.symm ej)]; exact h)
  · exact ⟨O, r, Mv.refl⟩
theorem ds_frz {st : Stmt} {g : Slots → M Out} (i : Nat) (h : PS X st (dS c W g)) : PS X st (dS c W fun ρ => g (frz1 i ρ)) := by
  refine ps_imp h fun E σ H ⟨O, ρ, pt, r, q⟩ => ?_
  obtain ⟨O', r', m⟩ := r.frz i
  exact ⟨O', _, pt, r', WO.from m q⟩
end
end DF

set_option Elab.async false
set_option linter.all false
set_option maxRecDepth 100000
set_option maxHeartbeats 4000000
namespace DF
open PySem L2
/-! ### defs that may need to know that no repr is under way (gu) -/
structure Rm (gu : Prop) (k : Nat) (A : Around) : Prop where
  room : Room k A
  gd : gu → A.guards = some []
section
variable {gu : Prop} {j k : Nat} {A : Around}
theorem Rm.mono (r : Rm gu k A) (h : j ≤ k) : Rm gu j A := ⟨r.room.mono h, r.gd⟩
theorem Rm.lo (r : Rm gu k A) (h : j ≤ k) : Rm False j A := ⟨r.room.mono h, fun z => z.elim⟩
theorem Rm.in1 (r : Rm gu (k + 1) A) : Rm gu k A.in1 := ⟨r.room.in1, r.gd⟩
theorem Rm.make (r : Rm gu (k + 1) A) (C : Addr) (us : List Value) (kw : List (Str × Value)) : Rm gu k (A.under (.builtin "type.__call__" ⟨.ref C :: us, kw⟩)) := ⟨r.room.make C us kw, fun g => by
  have e := r.gd g
  show pushGuards (Code.builtin "type.__call__" ⟨.ref C :: us, kw⟩).guards A.guards = some []
  rw [e]
  have e2 : (Code.builtin "type.__call__" ⟨.ref C :: us, kw⟩).guards = [] := by
    unfold Code.guards
    rw [if_neg (show ¬ ((Code.builtin "type.__call__" ⟨.ref C :: us, kw⟩).isGuard = true) from by show ¬ (guardIds.contains "type.__call__" = true); decide +kernel)]
  rw [e2]
  rfl⟩
theorem Rm.units0 (r : Rm gu k A) : A.units < cLine := r.room.units0
theorem Rm.units (r : Rm gu k A) : A.units + 64 < cLine := r.room.units
theorem Rm.of (r : Room k A) : Rm False k A := ⟨r, fun z => z.elim⟩
end
structure FnG (gu : Prop) (P : Program) (w : World) (K : PySem.W.Frag) (mg : Str → Option Value) (base : Heap) (CX : CXT) (k : Nat) (f : Addr) (fd : FuncData) (ps : List Str) (sp : Sp) : Prop where
  len : ∀ vs H Q E, sp vs H Q E → vs.length = ps.length
  run : ∀ (A : Around) (outer : List Env) (s : Shared) (H : Hp) (args : Args) (us : List Value) (vs : List V) (Q : VK) (E : XK), Rm gu k A → Env0 P w K mg base A outer s H → BindsTo s fd args (ps.zip us) → Vals vs us → sp vs H Q E →
    codeAny (model P w) A (.call (.ref f) args) (CR CX outer P w H s Q E) s
theorem FnG.ok {P : Program} {w : World} {K : PySem.W.Frag} {mg : Str → Option Value} {base : Heap} {CX : CXT} {k : Nat} {f : Addr} {fd : FuncData} {ps : List Str} {sp : Sp} (F : FnG False P w K mg base CX k f fd ps sp) : FnOk P w K mg base CX k f fd ps sp :=
  ⟨F.len, fun A outer s H args us vs Q E hr => F.run A outer s H args us vs Q E (Rm.of hr)⟩
theorem fnOk_g {gu : Prop} {P : Program} {w : World} {K : PySem.W.Frag} {mg : Str → Option Value} {base : Heap} {CX : CXT} {k : Nat} {f : Addr} {fd : FuncData} {ps : List Str} {sp : Sp} (F : FnOk P w K mg base CX k f fd ps sp) : FnG gu P w K mg base CX k f fd ps sp :=
  ⟨F.len, fun A outer s H args us vs Q E hr => F.run A outer s H args us vs Q E hr.room⟩
theorem fn_okG {gu : Prop} {P : Program} {w : World} {K : PySem.W.Frag} {mg : Str → Option Value} {base : Heap} {CX : CXT} {x qual : Str} {params : Arguments} {body : List Stmt} {scope : Scope} {dvs : List V} {kws : List (Str × V)} {f : Addr} {fd : FuncData} {N ps : List Str} {k : Nat} {sp : Sp} (F : FunD K x qual params body scope dvs kws f fd) (S : FnScope N ps scope) (len : ∀ vs H Q E, sp vs H Q E → vs.length = ps.length)
    (hb : ∀ (cdv : Value), fd.code = cdv → ∀ (A : Around) (outer : List Env) (s : Shared) (H : Hp) (vs : List V) (Q : VK) (E : XK), Rm gu k (A.deeper (PyProof.Rows.envOfC qual scope s.heap.objs.size f cdv)) → sp vs H Q E →
      ∃ t, PSs (cxOf CX P w K mg base N qual scope f cdv A outer s H E) body t ∧ t { nx := fun _ H' => Q .non H', rt := Q } (start N vs) H) : FnG gu P w K mg base CX (k + 1) f fd ps sp := by
  obtain ⟨oc, od, dV, kV, doc, pm, an, cdv, ct, osl, rfl, lk, hcd, _, _⟩ := F.ex
  exact ⟨len, fun A outer s H args us vs Q E hr e0 hbd r hsp => LamX.run_ofS lk hcd S hr.room e0 hbd r (len _ _ _ _ hsp) fun hr1 => hb cdv rfl A outer s H vs Q E ⟨hr1, hr.gd⟩ hsp⟩
/-! ### a def as a function of data -/
/-- what a call with the data ds comes to -/
def Wf (c : Cy) (H : Hp) (Q : VK) (E : XK) : Res D → Prop
  | .ok d pt => ∀ v H', Stp c.T.tb c.p H H' pt → c.R (Hd c.S H') d v → Q v H'
  | .exc e fs pt => ∀ cls dd H', Stp c.T.tb c.p H H' pt → RX c H' e fs cls dd → E cls dd H'
  | .stuck => False
def spF (K : PySem.W.Frag) (T : Tb) (n : Nat) (m : List D → M D) : Sp := fun vs H Q E => ∃ p S ds pt, p ∈ S ∧ (∀ a ∈ S, ∃ o, H a = some o ∧ mt o = true) ∧ ds.length = n ∧ RL K T p (Hd S H) ds vs ∧ Pots T.tb p H pt ∧ Wf ⟨K, T, p, S, H, 0, x0⟩ H Q E (m ds pt)
/-- the slots at the entry -/
def ini (n : Nat) (ds : List D) : Slots := ds.map (fun d => some (.val d)) ++ List.replicate (n - ds.length) none
def fnM (n : Nat) (g : Slots → M Out) : List D → M D := fun ds => bnd (g (ini n ds)) fun o => match o with
  | .rt d => ret d
  | .nx _ => ret .non
  | _ => fail
section
variable {P : Program} {w : World} {K : PySem.W.Frag} {mg : Str → Option Value} {base : Heap} {T : Tb}
theorem ini_rs {c : Cy} {N : List Str} {ds : List D} {vs : List V} {pt : Pot} (hp : c.p ∈ c.S) (hS : ∀ a ∈ c.S, ∃ o, c.H0 a = some o ∧ mt o = true) (rl : c.RL (Hd c.S c.H0) ds vs) (hpot : Pots c.T.tb c.p c.H0 pt) (hl : ds.length ≤ N.length) :
    RS c [] (ini N.length ds) (L2.start N vs) c.H0 pt := by
  have lv := RL.len rl
  refine ⟨hpot, fun _ _ _ h _ => h, hp, hS, fun _ h => (nomatch h), .nil, .nil, ?_, fun _ h => (nomatch h), fun i s h => ?_⟩
  · unfold ini L2.start
    rw [List.length_append, List.length_append, List.length_map, List.length_map, List.length_replicate, List.length_replicate, lv]
  · have hh : hid c [] = c.S := List.append_nil _
    unfold ini at h
    unfold L2.start
    by_cases hi : i < ds.length
    · rw [List.getElem?_append_left (by rw [List.length_map]; exact hi), List.getElem?_map] at h
      cases e : ds[i]? with
      | none => rw [e] at h; cases h
      | some d =>
        rw [e] at h
        cases h
        obtain ⟨v, ev, rv⟩ := RL.getD rl e
        refine ⟨v, ?_, by rw [hh]; exact rv⟩
        rw [List.getElem?_append_left (by rw [List.length_map, ← lv]; exact hi), List.getElem?_map, ev]
        rfl
    · rw [List.getElem?_append_right (by rw [List.length_map]; omega), List.getElem?_replicate] at h
      split at h
      · cases h
      · cases h
/-- THE RULE for a def -/
theorem fnD {gu : Prop} {x qual : Str} {st : Stmt} {f : Addr} {fd : FuncData} {N ps : List Str} {k : Nat} {g : Slots → M Out} {dvs : List V} {kws : List (Str × V)} (F : FunD K x qual (defArgs st) (defBody st) (defScope st) dvs kws f fd) (S : FnScope N ps (defScope st)) (hl : ps.length ≤ N.length)
    (hb : ∀ (cdv : Value), fd.code = cdv → ∀ (A : Around) (outer : List Env) (s : Shared) (H : Hp) (E : XK) (p : Addr) (S : List Addr), Rm gu k (A.deeper (PyProof.Rows.envOfC qual (defScope st) s.heap.objs.size f cdv)) →
      PSs (cxOf (L2.CX P w) P w K mg base N qual (defScope st) f cdv A outer s H E) (defBody st) (dS ⟨K, T, p, S, H, 0, x0⟩ (fun cls d _ H => E cls d H) g)) :
    FnG gu P w K mg base (L2.CX P w) (k + 1) f fd ps (spF K T ps.length (fnM N.length g)) := by
  refine fn_okG F S (fun vs H Q E h => ?_) (fun cdv hcv A outer s H vs Q E hr h => ?_)
  · obtain ⟨p, S, ds, pt, _, _, e, rl, _⟩ := h
    rw [← RL.len rl, e]
  · obtain ⟨p, S, ds, pt, hp, hS, e, rl, hpot, q⟩ := h
    refine ⟨_, hb cdv hcv A outer s H E p S hr, ⟨[], _, pt, ini_rs (c := ⟨K, T, p, S, H, 0, x0⟩) hp hS rl hpot (by rw [e]; exact hl), ?_⟩⟩
    unfold fnM DF.bnd at q
    cases e2 : g (ini N.length ds) pt with
    | ok o p1 =>
      rw [e2] at q
      cases o with
      | nx ρ' => exact fun O' σ' H' rs _ => q .non H' ⟨fun a o n h m => rs.ext a o n h m, rs.pot⟩ (by simp [Cy.R, R])
      | rt d => exact fun v H' fi rv => q v H' ⟨fun a o n h m => fi.ext a o n h m, fi.pot⟩ rv
      | bk ρ' => exact q.elim
      | ct ρ' => exact q.elim
    | exc _ _ _ =>
      rw [e2] at q
      exact fun cls dd σ' H' fi x => q cls dd H' ⟨fun a o n h m => fi.ext a o n h m, fi.pot⟩ x
    | stuck =>
      rw [e2] at q
      exact q
end

/-! ### calls -/
section
variable {gu : Prop} {X : Cx} {c : Cy} {W : WX} {CX : CXT} {k : Nat} {f C : Addr} {fd : FuncData} {ps : List Str} {sp : Sp} {ds : List Value} {dvs : List V} {E : L2.St → XK} {x m : Str} {p pos apos : Pos} {e o : Expr} {es : List Expr} {ta : TE} {t : TA}
/-- the callee runs; what it lets out is wished for at the slots -/
theorem runAt {pins : List (Addr × Obj)} {σ : L2.St} {H : Hp} {s : Shared} {Q : VK} {us : List Value} {vs : List V} (F : FnG gu X.prog X.w X.K X.mg X.base CX k f fd ps sp) (hr : Rm gu k X.A) (hb : Binds X.K fd ps ds) (hd : Vals dvs ds) (hx : PassesAt CX X σ (E σ))
    (I : Inv X pins σ H s) (r : Vals vs us) (h : sp (vs ++ dvs) H Q (E σ)) : wpAny (model X.prog X.w) X.A (call (.ref f) us) (EP X pins σ Q) X.xe s := by
  have r2 := r.append hd
  have hl : (us ++ ds).length = ps.length := r2.length.symm.trans (F.len _ _ _ _ h)
  have go := F.run X.A X.stack s H ⟨us, []⟩ _ _ Q (E σ) hr I.env0 (hb s us I.kIn hl) r2 h
  refine wpAny_call (codeAny_mono go fun res s' hq => ?_)
  match res, hq with
  | .error e, hq => exact hx pins H s e s' I hq
  | .ok (.ret u), hq => exact I.after hq
def tCallA (sp : Sp) (dvs : List V) (E : L2.St → XK) (t : TA) : TE := fun σ H Q => t σ H fun vs H1 => sp (vs ++ dvs) H1 Q (E σ)
theorem pe_callA (F : FnG gu X.prog X.w X.K X.mg X.base CX k f fd ps sp) (hr : Rm gu k X.A) (hg : Gl X x) (hm : X.mg x = some (.ref f)) (hk : PySem.W.keepIn X.K (.ref f) = true) (hb : Binds X.K fd ps ds) (hd : Vals dvs ds) (hx : ∀ σ, PassesAt CX X σ (E σ)) (ha : PA X (e :: es) t)
    (hdb : (x == ("__debug__" : Str)) = false := by decide) (he : starEach (e :: es) X.env = (false, eval e X.env) :: starEach es X.env := by rfl) (hpl : (backTo pos (starEach es X.env)).any (·.1) = false := by rfl) : PE X (.Call (.Name x p) (e :: es) [] pos) (tCallA sp dvs E t) :=
  ⟨fun pins s σ H Q I h => wpAny_Call_Name_kw (ld_glob I hg hm (PySem.W.callWith_K (h₀ := X.base) I.ok.mod.kin hk (thn (ha.run pos pins s σ H _ I h) fun us s1 ⟨vs, H1, I1, r, q⟩ => ⟨I1.kIn, runAt F hr hb hd (hx σ) I1 r q⟩) he hpl) hdb)⟩
theorem pe_callA0 (F : FnG gu X.prog X.w X.K X.mg X.base CX k f fd ps sp) (hr : Rm gu k X.A) (hg : Gl X x) (hm : X.mg x = some (.ref f)) (hk : PySem.W.keepIn X.K (.ref f) = true) (hb : Binds X.K fd ps ds) (hd : Vals dvs ds) (hx : ∀ σ, PassesAt CX X σ (E σ))
    (hdb : (x == ("__debug__" : Str)) = false := by decide) : PE X (.Call (.Name x p) [] [] pos) (tCallA sp dvs E tNil) :=
  ⟨fun pins s σ H Q I h => wpAny_Call_Name_kw (ld_glob I hg hm (PySem.W.callWith_K0 I.kIn hk (runAt (us := []) F hr hb hd (hx σ) I .nil h)) hdb)⟩
def tMethA (C : Addr) (m : Str) (sp : Sp) (dvs : List V) (E : L2.St → XK) (ta : TE) (t : TA) : TE := fun σ H Q => ta σ H fun x H1 => ∃ a dx fs, x = .ref a ∧ H1 a = some (.ins C dx fs) ∧ fs.lookup m = none ∧ t σ H1 fun vs H2 => sp (.ref a :: (vs ++ dvs)) H2 Q (E σ)
theorem pe_methA {pl : Sem Bool} (he : PE X o ta) (cl : Cls X.K C) (hm : Meth X.K C m f) (F : FnG gu X.prog X.w X.K X.mg X.base CX k f fd ps sp) (hr : Rm gu k X.A) (hb : Binds X.K fd ps ds) (hd : Vals dvs ds) (hx : ∀ σ, PassesAt CX X σ (E σ)) (ha : PA X (e :: es) t)
    (hst : starEach (e :: es) X.env = (false, eval e X.env) :: starEach es X.env := by rfl) (hpl : (backTo pos (starEach es X.env)).any (·.1) = false := by rfl)
    (ht : eval (.Call (.Attribute o m apos) (e :: es) [] pos) X.env = (eval o X.env >>= fun ov => standAt apos.atName >>= fun _ => holding [ov] (getMethod ov m pl) >>= fun z => callWith pos z.1 z.2 (backTo pos (starEach (e :: es) X.env)) (backToKw pos (keywordEach [] X.env))) := by rfl) :
    PE X (.Call (.Attribute o m apos) (e :: es) [] pos) (tMethA C m sp dvs E ta t) := by
  refine ⟨fun pins s σ H Q I h => PySem.W.methodCall_KW (pl := pl) (thn (he.run pins s σ H _ I h) fun u s1 ⟨x, H1, I1, rx, a, dx, fs, ex, ea, l, q⟩ => ?_) ht⟩
  subst ex
  obtain rfl : u = Value.ref a := rx
  refine getmeth_ok I1 ea cl hm l (PySem.W.callWith_K (first := [.ref a]) (h₀ := X.base) I.ok.mod.kin hm.kp (thn (ha.run pos pins s1 σ H1 _ I1 q) fun us s2 ⟨vs, H2, I2, r, q2⟩ => ⟨I2.kIn, ?_⟩) hst hpl)
  exact runAt (us := .ref a :: us) (vs := .ref a :: vs) F hr hb hd (hx σ) I2 (.cons rfl r) q2
theorem pe_methA0 {pl : Sem Bool} (he : PE X o ta) (cl : Cls X.K C) (hm : Meth X.K C m f) (F : FnG gu X.prog X.w X.K X.mg X.base CX k f fd ps sp) (hr : Rm gu k X.A) (hb : Binds X.K fd ps ds) (hd : Vals dvs ds) (hx : ∀ σ, PassesAt CX X σ (E σ))
    (ht : eval (.Call (.Attribute o m apos) [] [] pos) X.env = (eval o X.env >>= fun ov => standAt apos.atName >>= fun _ => holding [ov] (getMethod ov m pl) >>= fun z => callWith pos z.1 z.2 (backTo pos (starEach [] X.env)) (backToKw pos (keywordEach [] X.env))) := by rfl) :
    PE X (.Call (.Attribute o m apos) [] [] pos) (tMethA C m sp dvs E ta tNil) := by
  refine ⟨fun pins s σ H Q I h => PySem.W.methodCall_KW (pl := pl) (thn (he.run pins s σ H _ I h) fun u s1 ⟨x, H1, I1, rx, a, dx, fs, ex, ea, l, q⟩ => ?_) ht⟩
  subst ex
  obtain rfl : u = Value.ref a := rx
  exact getmeth_ok I1 ea cl hm l (PySem.W.callWith_K0 (first := [.ref a]) I1.kIn hm.kp (runAt (us := [.ref a]) (vs := [.ref a]) F hr hb hd (hx σ) I1 (.cons rfl .nil) q))
def tMakeA (C : Addr) (sp : Sp) (dvs : List V) (E : L2.St → XK) (t : TA) : TE := fun σ H Q => t σ H fun vs H1 => ∀ x dx, H1 x = none → H1 dx = none → dx ≠ x →
  sp (.ref x :: (vs ++ dvs)) (upd (upd H1 dx (.own x)) x (.ins C dx [])) (fun v H2 => v = .non ∧ Q (.ref x) H2) (E σ)
theorem makeAt {pins : List (Addr × Obj)} {σ : L2.St} {H : Hp} {s : Shared} {Q : VK} {us : List Value} {vs : List V} (M : Mk X.K C f) (F : FnG gu X.prog X.w X.K X.mg X.base CX k f fd ps sp) (hr : Rm gu (k + 1) X.A) (hb : Binds X.K fd ps ds) (hd : Vals dvs ds) (hx : PassesAt CX X σ (E σ))
    (I : Inv X pins σ H s) (r : Vals vs us) (h : ∀ x dx, H x = none → H dx = none → dx ≠ x → sp (.ref x :: (vs ++ dvs)) (upd (upd H dx (.own x)) x (.ins C dx [])) (fun v H2 => v = .non ∧ Q (.ref x) H2) (E σ)) :
    wpAny (model X.prog X.w) X.A (call (.ref C) us) (EP X pins σ Q) X.xe s := by
  have hq := h (s.heap.objs.size + 1) s.heap.objs.size (I.hok.fresh (Nat.le_succ _)) (I.hok.fresh (Nat.le_refl _)) (Nat.ne_of_lt (Nat.lt_succ_self _))
  have J := Inv.made (C := C) I
  have r2 : Vals (V.ref (s.heap.objs.size + 1) :: (vs ++ dvs)) (Value.ref (s.heap.objs.size + 1) :: (us ++ ds)) := .cons rfl (r.append hd)
  have hl : (Value.ref (s.heap.objs.size + 1) :: us ++ ds).length = ps.length := r2.length.symm.trans (F.len _ _ _ _ hq)
  have go := F.run _ X.stack _ _ ⟨Value.ref (s.heap.objs.size + 1) :: us, []⟩ _ _ _ (E σ) (hr.make C us []) (J.env0.make C us []) (hb _ (Value.ref (s.heap.objs.size + 1) :: us) J.kIn hl) r2 hq
  refine wpAny_call (make_map (f := f) I.kIn M.makes M.init (beq_iff_eq.mp M.fn) (codeAny_mono go fun res s' hq' => ?_))
  match res, hq' with
  | .error e, hq' => exact hx pins _ _ e s' J hq'
  | .ok (.ret u), hq' =>
    obtain ⟨v, H', I3, rv, ev, q3⟩ := J.after hq'
    subst ev
    exact ⟨rv, ⟨V.ref (s.heap.objs.size + 1), H', I3, rfl, q3⟩⟩
theorem pe_makeA (M : Mk X.K C f) (F : FnG gu X.prog X.w X.K X.mg X.base CX k f fd ps sp) (hr : Rm gu (k + 1) X.A) (hg : Gl X x) (hm : X.mg x = some (.ref C)) (hb : Binds X.K fd ps ds) (hd : Vals dvs ds) (hx : ∀ σ, PassesAt CX X σ (E σ)) (ha : PA X (e :: es) t)
    (hdb : (x == ("__debug__" : Str)) = false := by decide) (he : starEach (e :: es) X.env = (false, eval e X.env) :: starEach es X.env := by rfl) (hpl : (backTo pos (starEach es X.env)).any (·.1) = false := by rfl) : PE X (.Call (.Name x p) (e :: es) [] pos) (tMakeA C sp dvs E t) :=
  ⟨fun pins s σ H Q I h => wpAny_Call_Name_kw (ld_glob I hg hm (PySem.W.callWith_K (h₀ := X.base) I.ok.mod.kin M.kp (thn (ha.run pos pins s σ H _ I h) fun us s1 ⟨vs, H1, I1, r, q⟩ => ⟨I1.kIn, makeAt M F hr hb hd (hx σ) I1 r q⟩) he hpl) hdb)⟩
theorem pe_makeA0 (M : Mk X.K C f) (F : FnG gu X.prog X.w X.K X.mg X.base CX k f fd ps sp) (hr : Rm gu (k + 1) X.A) (hg : Gl X x) (hm : X.mg x = some (.ref C)) (hb : Binds X.K fd ps ds) (hd : Vals dvs ds) (hx : ∀ σ, PassesAt CX X σ (E σ))
    (hdb : (x == ("__debug__" : Str)) = false := by decide) : PE X (.Call (.Name x p) [] [] pos) (tMakeA C sp dvs E tNil) :=
  ⟨fun pins s σ H Q I h => wpAny_Call_Name_kw (ld_glob I hg hm (PySem.W.callWith_K0 I.kIn M.kp (makeAt (us := []) M F hr hb hd (hx σ) I .nil h)) hdb)⟩
end

/-! ### the same of data -/
section
variable {gu : Prop} {X : Cx} {c : Cy} {W : WX} {k n : Nat} {f C : Addr} {fd : FuncData} {ps : List Str} {ds : List Value} {dvs : List V} {dd : List D} {x m : Str} {p pos apos : Pos} {e o : Expr} {es : List Expr} {fm : List D → M D} {fa : Slots → M (List D)} {fo : Slots → M D}
theorem RX.less {c c' : Cy} {H : Hp} {e : Nat} {fs : List D} {cls : Value} {dd : Option Addr} (h : RX c' H e fs cls dd) (hK : c'.K = c.K) (hT : c'.T = c.T) (hp : c'.p = c.p) (hS : ∀ a ∈ c.S, a ∈ c'.S) : RX c H e fs cls dd := by
  obtain ⟨K, T, p, S, H0, me, x0⟩ := c
  obtain ⟨K', T', p', S', H0', me', x1⟩ := c'
  simp only at hK hT hp hS
  subst hK hT hp
  exact Xv.gr (c := ⟨K', T', p', S, H0, me, x0⟩) (Hd.sub hS) h
/-- what a call of data asks, from what is wanted of its outcome -/
theorem spF_of {σ : L2.St} {O : List (Nat × Addr)} {ρ : Slots} {pt : Pot} {H : Hp} {xs : List D} {vs : List V} {Q : VK} (rs : RS c O ρ σ H pt) (rl : c.RL (Hd (hid c O) H) xs vs) (hl : xs.length = n)
    (h : Wg c W σ H (fun d _ H' => ∀ v, c.R (Hd (hid c O) H') d v → Q v H') (fm xs pt)) : spF c.K c.T n fm vs H Q (WE W σ) := by
  refine ⟨c.p, hid c O, xs, pt, rs.pm, fun a h => rs.hidden h, hl, rl, rs.pot, ?_⟩
  cases e : fm xs pt with
  | ok d p1 =>
    rw [e] at h
    exact fun v H' st rv => h H' st v rv
  | exc k fs p1 =>
    rw [e] at h
    exact fun cls dd H' st rx => h cls dd H' st (RX.less rx rfl rfl rfl fun a h => List.mem_append_left _ h)
  | stuck =>
    rw [e] at h
    exact h
/-- data that stand in every heap: defaults -/
def Cst (c : Cy) (dd : List D) (dvs : List V) : Prop := ∀ H, c.RL H dd dvs
theorem Cst.nil : Cst c [] [] := fun _ => RL.nil
theorem Cst.int {i : Int} (h : Cst c dd dvs) : Cst c (.int i :: dd) (.int i :: dvs) := fun H => RL.cons (by simp [R]) (h H)
theorem Cst.non (h : Cst c dd dvs) : Cst c (.non :: dd) (.non :: dvs) := fun H => RL.cons (by simp [R]) (h H)
theorem Cst.bl {b : Bool} (h : Cst c dd dvs) : Cst c (.bl b :: dd) (.bl b :: dvs) := fun H => RL.cons (by simp [R]) (h H)
def callE (n : Nat) (fm : List D → M D) (dd : List D) (fa : Slots → M (List D)) : Slots → M D := fun ρ => bnd (fa ρ) fun ds => if (ds ++ dd).length = n then fm (ds ++ dd) else fail
theorem de_call (F : FnG gu X.prog X.w X.K X.mg X.base (L2.CX X.prog X.w) k f fd ps (spF c.K c.T n fm)) (hr : Rm gu k X.A) (tk : Takes X W) (hm : X.mg x = some (.ref f)) (hk : PySem.W.keepIn X.K (.ref f) = true) (hb : Binds X.K fd ps ds) (hd : Vals dvs ds) (hc : Cst c dd dvs) (ha : PA X (e :: es) (dA c W fa))
    (hg : Gl X x := by rfl) (hdb : (x == ("__debug__" : Str)) = false := by decide) (he : starEach (e :: es) X.env = (false, eval e X.env) :: starEach es X.env := by rfl) (hpl : (backTo pos (starEach es X.env)).any (·.1) = false := by rfl) :
    PE X (.Call (.Name x p) (e :: es) [] pos) (dE c W (callE n fm dd fa)) := by
  refine pe_imp (pe_callA F hr hg hm hk hb hd (passAt tk) ha hdb he hpl) fun σ H Q ⟨O, ρ, pt, r, q⟩ => ⟨O, ρ, pt, r, (Wg.bnd q).imp fun ds p1 H1 _ s1 q vs rvs => ?_⟩
  by_cases hz : (ds ++ dd).length = n
  · rw [if_pos hz] at q
    exact spF_of (r.stp s1) (RL.app rvs (hc _)) hz q
  · rw [if_neg hz] at q
    exact q.elim
theorem de_call0 (F : FnG gu X.prog X.w X.K X.mg X.base (L2.CX X.prog X.w) k f fd ps (spF c.K c.T n fm)) (hr : Rm gu k X.A) (tk : Takes X W) (hm : X.mg x = some (.ref f)) (hk : PySem.W.keepIn X.K (.ref f) = true) (hb : Binds X.K fd ps ds) (hd : Vals dvs ds) (hc : Cst c dd dvs)
    (hg : Gl X x := by rfl) (hdb : (x == ("__debug__" : Str)) = false := by decide) : PE X (.Call (.Name x p) [] [] pos) (dE c W (callE n fm dd nilA)) := by
  refine pe_imp (pe_callA0 F hr hg hm hk hb hd (passAt tk) hdb) fun σ H Q ⟨O, ρ, pt, r, q⟩ => ?_
  have q := Wg.here (Wg.bnd q) r.pot
  by_cases hz : ([] ++ dd).length = n
  · rw [if_pos hz] at q
    exact spF_of (vs := [] ++ dvs) r (hc _) hz q
  · rw [if_neg hz] at q
    exact q.elim
/-- a method of the class number kc -/
def methE (kc : Nat) (n : Nat) (fm : List D → M D) (dd : List D) (fo : Slots → M D) (fa : Slots → M (List D)) : Slots → M D := fun ρ => bnd (fo ρ) fun z => match z with
  | .obj j fs => if j = kc then bnd (fa ρ) fun ds => if (ds ++ dd).length + 1 = n then fm (.obj j fs :: (ds ++ dd)) else fail else fail
  | _ => fail
theorem no_attr {T : Tb} {kc : Nat} {m : Str} {vs : List V} (h : m ∉ T.names kc) : ((T.names kc).zip vs).lookup m = none := by
  generalize T.names kc = ns at h
  induction ns generalizing vs with
  | nil => rfl
  | cons a as ih =>
    cases vs with
    | nil => rfl
    | cons v vs =>
      show (match m == a with | true => _ | false => _) = _
      have : (m == a) = false := by
        rw [beq_eq_false_iff_ne]
        intro q
        exact h (q ▸ List.mem_cons_self)
      rw [this]
      exact ih fun q => h (List.mem_cons_of_mem _ q)
theorem de_meth {kc : Nat} {pl : Sem Bool} (ho : PE X o (dE c W fo)) (hC : c.T.cls kc = C) (hno : m ∉ c.T.names kc) (cl : Cls X.K C) (hm : Meth X.K C m f) (F : FnG gu X.prog X.w X.K X.mg X.base (L2.CX X.prog X.w) k f fd ps (spF c.K c.T n fm)) (hr : Rm gu k X.A) (tk : Takes X W) (hb : Binds X.K fd ps ds) (hd : Vals dvs ds) (hc : Cst c dd dvs) (ha : PA X (e :: es) (dA c W fa))
    (hst : starEach (e :: es) X.env = (false, eval e X.env) :: starEach es X.env := by rfl) (hpl : (backTo pos (starEach es X.env)).any (·.1) = false := by rfl)
    (ht : eval (.Call (.Attribute o m apos) (e :: es) [] pos) X.env = (eval o X.env >>= fun ov => standAt apos.atName >>= fun _ => holding [ov] (getMethod ov m pl) >>= fun z => callWith pos z.1 z.2 (backTo pos (starEach (e :: es) X.env)) (backToKw pos (keywordEach [] X.env))) := by rfl) :
    PE X (.Call (.Attribute o m apos) (e :: es) [] pos) (dE c W (methE kc n fm dd fo fa)) := by
  refine pe_imp (pe_methA (pl := pl) ho cl hm F hr hb hd (passAt tk) ha hst hpl ht) fun σ H Q ⟨O, ρ, pt, r, q⟩ => ⟨O, ρ, pt, r, (Wg.bnd q).imp fun z p1 H1 _ s1 qz v rv => ?_⟩
  cases z with
  | obj j fs =>
    simp only at qz
    by_cases hj : j = kc
    · rw [if_pos hj] at qz
      subst hj
      have rv' := rv
      simp only [Cy.R, R] at rv
      obtain ⟨a, dx, ws, rfl, ha, _, _⟩ := rv
      refine ⟨a, dx, _, rfl, by rw [← hC]; exact Hd.le _ _ ha, no_attr hno, ⟨O, ρ, p1, r.stp s1, (Wg.bnd qz).imp fun ds p2 H2 _ s2 q vs rvs => ?_⟩⟩
      by_cases hz : (ds ++ dd).length + 1 = n
      · rw [if_pos hz] at q
        exact spF_of ((r.stp s1).stp s2) (RL.cons (R.gr (s2.gr r.pm) rv') (RL.app rvs (hc _))) hz q
      · rw [if_neg hz] at q
        exact q.elim
    · rw [if_neg hj] at qz
      exact qz.elim
  | _ => exact qz.elim
theorem de_meth0 {kc : Nat} {pl : Sem Bool} (ho : PE X o (dE c W fo)) (hC : c.T.cls kc = C) (hno : m ∉ c.T.names kc) (cl : Cls X.K C) (hm : Meth X.K C m f) (F : FnG gu X.prog X.w X.K X.mg X.base (L2.CX X.prog X.w) k f fd ps (spF c.K c.T n fm)) (hr : Rm gu k X.A) (tk : Takes X W) (hb : Binds X.K fd ps ds) (hd : Vals dvs ds) (hc : Cst c dd dvs)
    (ht : eval (.Call (.Attribute o m apos) [] [] pos) X.env = (eval o X.env >>= fun ov => standAt apos.atName >>= fun _ => holding [ov] (getMethod ov m pl) >>= fun z => callWith pos z.1 z.2 (backTo pos (starEach [] X.env)) (backToKw pos (keywordEach [] X.env))) := by rfl) :
    PE X (.Call (.Attribute o m apos) [] [] pos) (dE c W (methE kc n fm dd fo nilA)) := by
  refine pe_imp (pe_methA0 (pl := pl) ho cl hm F hr hb hd (passAt tk) ht) fun σ H Q ⟨O, ρ, pt, r, q⟩ => ⟨O, ρ, pt, r, (Wg.bnd q).imp fun z p1 H1 _ s1 qz v rv => ?_⟩
  cases z with
  | obj j fs =>
    simp only at qz
    by_cases hj : j = kc
    · rw [if_pos hj] at qz
      subst hj
      have rv' := rv
      simp only [Cy.R, R] at rv
      obtain ⟨a, dx, ws, rfl, ha, _, _⟩ := rv
      refine ⟨a, dx, _, rfl, by rw [← hC]; exact Hd.le _ _ ha, no_attr hno, ?_⟩
      have q := Wg.here (Wg.bnd qz) s1.pot
      by_cases hz : (([] : List D) ++ dd).length + 1 = n
      · rw [if_pos hz] at q
        exact spF_of (vs := .ref a :: ([] ++ dvs)) (r.stp s1) (RL.cons rv' (hc _)) hz q
      · rw [if_neg hz] at q
        exact q.elim
    · rw [if_neg hj] at qz
      exact qz.elim
  | _ => exact qz.elim
end
end DF

set_option Elab.async false
set_option linter.all false
set_option maxRecDepth 100000
set_option maxHeartbeats 4000000
namespace DF
open PySem L2
/-! ### objects: made, their fields -/
structure StpI (tb : List (Addr × Str)) (p x : Addr) (H H' : Hp) (pt : Pot) : Prop where
  keep : ∀ a o, a ≠ p → a ≠ x → H a = some o → (n : nt o = true := by rfl) → H' a = some o
  pot : Pots tb p H' pt
def Wi (c : Cy) (kc : Nat) (x : Addr) (H : Hp) (Q : VK) (E : XK) : Res (List D) → Prop
  | .ok fs pt => ∀ H' dx fvs, StpI c.T.tb c.p x H H' pt → H' x = some (.ins (c.T.cls kc) dx ((c.T.names kc).zip fvs)) → fs.length = (c.T.names kc).length → c.RL (Hd (x :: c.S) H') fs fvs → Q .non H'
  | .exc e fs pt => ∀ cls dd H', StpI c.T.tb c.p x H H' pt → RX c H' e fs cls dd → E cls dd H'
  | .stuck => False
def spI (K : PySem.W.Frag) (T : Tb) (kc n : Nat) (m : List D → M (List D)) : Sp := fun vs H Q E => ∃ p S x dx ds ws pt, vs = .ref x :: ws ∧ p ∈ S ∧ (∀ a ∈ S, ∃ o, H a = some o ∧ mt o = true) ∧ x ∉ S ∧ ds.length + 1 = n ∧ H x = some (.ins (T.cls kc) dx []) ∧
  RL K T p (Hd (x :: S) H) ds ws ∧ Pots T.tb p H pt ∧ Wi ⟨K, T, p, S, H, x, x0⟩ kc x H Q E (m ds pt)
def fldsOf (kc nf : Nat) : Slots → Option (List D)
  | some (.slf j fs) :: _ => if j = kc ∧ fs.length = nf then some fs else none
  | _ => none
def iniM (kc nf n : Nat) (g : Slots → M Out) : List D → M (List D) := fun ds => bnd (g (some (.slf kc []) :: ini n ds)) fun o => match o with
  | .nx ρ => opt (fldsOf kc nf ρ)
  | _ => fail
section
variable {P : Program} {w : World} {K : PySem.W.Frag} {mg : Str → Option Value} {base : Heap} {T : Tb}
theorem iniI_rs {c : Cy} {y : Str} {N : List Str} {ds : List D} {vs : List V} {pt : Pot} {H : Hp} {dx : Addr} {kc : Nat} (h0 : c.H0 = Hd [c.me] H) (hx : c.me ∉ c.S) (hp : c.p ∈ c.S) (hS : ∀ a ∈ c.S, ∃ o, H a = some o ∧ mt o = true) (hi : H c.me = some (.ins (c.T.cls kc) dx []))
    (rl : c.RL (Hd (c.me :: c.S) H) ds vs) (hpot : Pots c.T.tb c.p H pt) (hl : ds.length ≤ N.length) :
    RS c [(0, c.me)] (some (.slf kc []) :: ini N.length ds) (L2.start (y :: N) (.ref c.me :: vs)) H pt := by
  have lv := RL.len rl
  have eh : ∀ a, a ∈ hid c [(0, c.me)] → a ∈ c.me :: c.S := fun a h => (List.mem_append.mp h).elim (fun z => List.mem_cons_of_mem _ z) fun z => by
    have : a = c.me := by simpa using z
    rw [this]; exact List.mem_cons_self
  have hst : L2.start (y :: N) (.ref c.me :: vs) = some (.ref c.me) :: L2.start N vs := by
    unfold L2.start
    simp [Nat.succ_sub_succ]
  rw [hst]
  refine ⟨hpot, fun a o n h m => ?_, hp, fun a h => ?_, fun q hq => ?_, ?_, ?_, ?_, fun q hq => ⟨.slf kc [], by rw [List.mem_singleton.mp hq]; rfl, rfl⟩, fun i s h => ?_⟩
  · rw [h0] at h
    exact (Hd.sees h).2.1
  · exact hS a h
  · have e : q = (0, c.me) := by simpa using hq
    subst e
    refine ⟨?_, fun z => hx (show c.me ∈ c.S from (show c.me = c.p from z) ▸ hp), hx, _, hi, rfl⟩
    rw [h0]
    exact Hd.no (Hd.in_ List.mem_cons_self)
  · simp
  · simp
  · simp only [List.length_cons]
    unfold ini L2.start
    simp [lv]
  · cases i with
    | zero =>
      simp only [List.getElem?_cons_zero] at h
      cases h
      exact ⟨c.me, dx, [], List.mem_cons_self, rfl, rfl, by simpa using hi, Nat.zero_le _, RL.nil⟩
    | succ i =>
      simp only [List.getElem?_cons_succ] at h ⊢
      unfold ini at h
      unfold L2.start
      by_cases hi : i < ds.length
      · rw [List.getElem?_append_left (by rw [List.length_map]; exact hi), List.getElem?_map] at h
        cases e : ds[i]? with
        | none => rw [e] at h; cases h
        | some d =>
          rw [e] at h
          cases h
          obtain ⟨v, ev, rv⟩ := RL.getD rl e
          refine ⟨v, ?_, R.gr (Hd.sub eh) rv⟩
          rw [List.getElem?_append_left (by rw [List.length_map, ← lv]; exact hi), List.getElem?_map, ev]
          rfl
      · rw [List.getElem?_append_right (by rw [List.length_map]; omega), List.getElem?_replicate] at h
        split at h
        · cases h
        · cases h
/-- THE RULE for an __init__ -/
theorem fnI {gu : Prop} {x qual y : Str} {st : Stmt} {f : Addr} {fd : FuncData} {N ps : List Str} {k kc : Nat} {g : Slots → M Out} {dvs : List V} {kws : List (Str × V)} (F : FunD K x qual (defArgs st) (defBody st) (defScope st) dvs kws f fd) (S : FnScope (y :: N) (y :: ps) (defScope st)) (hl : ps.length ≤ N.length)
    (hb : ∀ (cdv : Value), fd.code = cdv → ∀ (A : Around) (outer : List Env) (s : Shared) (H H0 : Hp) (E : XK) (p me : Addr) (S : List Addr), Rm gu k (A.deeper (PyProof.Rows.envOfC qual (defScope st) s.heap.objs.size f cdv)) →
      PSs (cxOf (L2.CX P w) P w K mg base (y :: N) qual (defScope st) f cdv A outer s H E) (defBody st) (dS ⟨K, T, p, S, H0, me, x0⟩ (fun cls d _ H => E cls d H) g))
    {nf : Nat} (hnf : nf = (T.names kc).length) : FnG gu P w K mg base (L2.CX P w) (k + 1) f fd (y :: ps) (spI K T kc (y :: ps).length (iniM kc nf N.length g)) := by
  refine fn_okG F S (fun vs H Q E h => ?_) (fun cdv hcv A outer s H vs Q E hr h => ?_)
  · obtain ⟨p, S, x, dx, ds, ws, pt, rfl, _, _, _, e, _, rl, _⟩ := h
    rw [List.length_cons, ← RL.len rl, e]
  · obtain ⟨p, S, x, dx, ds, ws, pt, rfl, hp, hS, hx, e, hi, rl, hpot, q⟩ := h
    have le : ds.length ≤ N.length := by
      simp only [List.length_cons] at e
      omega
    refine ⟨_, hb cdv hcv A outer s H (Hd [x] H) E p x S hr, ⟨[(0, x)], _, pt, iniI_rs (c := ⟨K, T, p, S, Hd [x] H, x, x0⟩) (N := N) rfl hx hp hS hi rl hpot le, ?_⟩⟩
    unfold iniM DF.bnd at q
    have keepI : ∀ {H' : Hp} {p1 : Pot}, Fin ⟨K, T, p, S, Hd [x] H, x, x0⟩ H' p1 → StpI T.tb p x H H' p1 := fun fi => ⟨fun a o n1 n2 h m => fi.ext a o n1 (Hd.out (fun z => n2 (List.mem_singleton.mp z)) h m) m, fi.pot⟩
    cases e2 : g (some (.slf kc []) :: ini N.length ds) pt with
    | ok o p1 =>
      rw [e2] at q
      cases o with
      | nx ρ' =>
        intro O' σ' H' rs _
        simp only at q
        cases ef : fldsOf kc nf ρ' with
        | none => rw [ef] at q; exact q.elim
        | some fs =>
          rw [ef] at q
          unfold fldsOf at ef
          split at ef
          · rename_i j fs' rest
            split at ef
            · rename_i hj
              cases ef
              obtain ⟨hj, hf⟩ := hj
              subst hj
              obtain ⟨a, dx', vs', m, em, _, ha, _, rl'⟩ := rs.sl 0 _ rfl
              have em' : a = x := em
              subst em'
              refine q H' dx' vs' (keepI rs.fin) ha (hf.trans hnf) (RL.gr (Hd.sub fun b hb => ?_) rl')
              rcases List.mem_cons.mp hb with z | z
              · rw [z]; exact List.mem_append_right _ (List.mem_map.mpr ⟨_, m, rfl⟩)
              · exact List.mem_append_left _ z
            · cases ef
          · cases ef
      | rt d => exact q.elim
      | bk ρ' => exact q.elim
      | ct ρ' => exact q.elim
    | exc _ _ _ =>
      rw [e2] at q
      exact fun cls dd σ' H' fi x => q cls dd H' (keepI fi) x
    | stuck =>
      rw [e2] at q
      exact q
end
section
variable {X : Cx} {c : Cy} {W : WX} {σ : L2.St} {H H' : Hp} {O : List (Nat × Addr)} {ρ : Slots} {pt pt' : Pot}
/-- what is one's own is changed -/
theorem RS.mut (r : RS c O ρ σ H pt) {i : Nat} {a : Addr} {o : HO} {s' : SV} (m : (i, a) ∈ O) (h : (Gr (Hd (hid c O) H) (Hd (hid c O) (upd H a o))) → SlotOk c O (upd H a o) i σ[i]? s') (hi : i < ρ.length) (ho : isOwn s' = true := by rfl) (mo : mt o = true := by rfl) :
    RS c O (ρ.set i (some s')) σ (upd H a o) pt ∧ Mv c O H O (upd H a o) := by
  have ah : a ∈ hid c O := List.mem_append_right _ (List.mem_map.mpr ⟨_, m, rfl⟩)
  have ap : c.p ≠ a := fun z => (r.new _ m).2.1 z.symm
  have g : Gr (Hd (hid c O) H) (Hd (hid c O) (upd H a o)) := fun b u e => by
    obtain ⟨h1, h2, h3⟩ := Hd.sees e
    exact Hd.out h1 (by rw [upd_ne (fun z : b = a => h1 (z ▸ ah))]; exact h2) h3
  obtain ⟨u0, e0, m0⟩ := r.hidden ah
  refine ⟨⟨r.pot.upd ap e0 m0, fun b u n e nn => ?_, r.hp, fun b hb => ?_, fun q hq => ?_, r.nd, r.nf, by rw [List.length_set]; exact r.len, fun q hq => ?_, fun j s hj => ?_⟩, fun b u h1 h2 _ => ⟨h1, by rw [upd_ne (fun z : b = a => h1 (z ▸ ah))]; exact h2⟩⟩
  · rw [upd_ne (Hd.ne e nn (r.new _ m).1)]
    exact r.ext b u n e nn
  · obtain ⟨u, e, mu⟩ := r.hS b hb
    by_cases z : b = a
    · exact ⟨o, by rw [z, upd_same], mo⟩
    · exact ⟨u, by rw [upd_ne z]; exact e, mu⟩
  · obtain ⟨h1, h2, h4, u, h3, mu⟩ := r.new q hq
    refine ⟨h1, h2, h4, ?_⟩
    by_cases z : q.2 = a
    · exact ⟨o, by rw [z, upd_same], mo⟩
    · exact ⟨u, by rw [upd_ne z]; exact h3, mu⟩
  · by_cases e : q.1 = i
    · rw [e]
      exact ⟨s', List.getElem?_set_self hi, ho⟩
    · rw [List.getElem?_set_ne (Ne.symm e)]
      exact r.ow q hq
  · by_cases e : j = i
    · subst e
      rw [List.getElem?_set_self hi] at hj
      cases hj
      exact h g
    · rw [List.getElem?_set_ne (Ne.symm e)] at hj
      have q := r.sl j s hj
      have ne : ∀ {b : Addr}, (j, b) ∈ O → b ≠ a := fun mb z => by
        have := same_of r.nd m mb z
        cases this
        exact e rfl
      cases s with
      | val d =>
        obtain ⟨v, e, r⟩ := q
        exact ⟨v, e, R.gr g r⟩
      | own ds =>
        obtain ⟨b, vs, m, e, q, r⟩ := q
        exact ⟨b, vs, m, e, by rw [upd_ne (ne m)]; exact q, RL.gr g r⟩
      | ownd ds =>
        obtain ⟨b, vs, m, e, q, r⟩ := q
        exact ⟨b, vs, m, e, by rw [upd_ne (ne m)]; exact q, RK.gr g r⟩
      | slf k fs =>
        obtain ⟨b, dx, vs, m, em, e, q, l, r⟩ := q
        exact ⟨b, dx, vs, m, em, e, by rw [upd_ne (ne m)]; exact q, l, RL.gr g r⟩
      | exv e fs => exact ⟨q.1, Xv.gr g q.2⟩
      | lam => exact ⟨q.1, g _ _ q.2⟩
      | raw v => exact q
theorem putF_new {f : Str} {y : V} : ∀ {fs : List (Str × V)}, f ∉ fs.map (·.1) → putF f y fs = fs ++ [(f, y)]
  | [], _ => rfl
  | (g, v) :: fs, h => by
    have h1 : f ≠ g := fun e => h (by rw [e]; exact List.mem_cons_self)
    show (if g = f then _ else (g, v) :: putF f y fs) = _
    rw [if_neg (Ne.symm h1), putF_new fun q => h (List.mem_cons_of_mem _ q)]
    rfl
theorem zip_put {ns : List Str} {vs : List V} {f : Str} {y : V} (nd : ns.Nodup) (h : ns[vs.length]? = some f) : putF f y (ns.zip vs) = ns.zip (vs ++ [y]) := by
  have hl := (List.getElem?_eq_some_iff.mp h).1
  induction ns generalizing vs with
  | nil => simp at hl
  | cons n ns ih =>
    cases vs with
    | nil =>
      simp at h
      subst h
      simp [putF]
    | cons v vs =>
      simp only [List.length_cons, List.getElem?_cons_succ] at h
      have nd' := List.nodup_cons.mp nd
      have hn : n ≠ f := fun e => nd'.1 (e ▸ List.mem_of_getElem? h)
      have hl' := (List.getElem?_eq_some_iff.mp h).1
      show (if n = f then _ else (n, v) :: putF f y (ns.zip vs)) = _
      rw [if_neg hn, ih nd'.2 h hl']
      rfl
/-- self.f = e, the field number ix -/
def fldS (i kc ix : Nat) (f : Slots → M D) : Slots → M Out := fun ρ => bnd (f ρ) fun d => match ρ[i]? with
  | some (some (.slf k fs)) => if k = kc ∧ fs.length = ix then ret (.nx (ρ.set i (some (.slf k (fs ++ [d]))))) else fail
  | _ => fail
theorem ds_fld {i kc ix : Nat} {x f : Str} {C : Addr} {e : Expr} {g : Slots → M D} {p1 p2 pos : Pos} (h : PE X e (dE c W g)) (hC : c.T.cls kc = C) (cl : Cls X.K C) (hno : NoAttr X.K C f) (nd : (c.T.names kc).Nodup) (hf : (c.T.names kc)[ix]? = some f) (hsz : (c.T.names kc).length < 1000)
    (hN : X.N[i]? = some x := by rfl) (hv : Vis X.env.scope x := by first | exact Or.inl rfl | exact Or.inr (Or.inl rfl)) (hd : (x == ("__debug__" : Str)) = false := by decide) (hcd : (x == ("__classdict__" : Str)) = false := by decide)
    (hs : swapsWith e (some (.Attribute (.Name x p1) f p2)) pos.line X.env = pure false := by rfl) : PS X (.Assign [.Attribute (.Name x p1) f p2] e pos) (dS c W (fldS i kc ix g)) := by
  refine ps_imp (ps_fld (pe_var (i := i) hN hv hd hcd) h hs) fun E σ H ⟨O, ρ, pt, r, h⟩ => ⟨O, ρ, pt, r, (WO.bnd r h).imp fun d p1 H1 _ s1 q v rv => ?_⟩
  have r1 := r.stp s1
  revert q
  match hρ : ρ[i]? with
  | some (some (.slf k fs)) =>
    intro q
    simp only at q
    by_cases hz : k = kc ∧ fs.length = ix
    · rw [if_pos hz] at q
      obtain ⟨rfl, rfl⟩ := hz
      obtain ⟨a, dx, vs, m, em, ev, ha, hl, rl⟩ := r1.sl i _ hρ
      have lv := RL.len rl
      refine ⟨_, ev, a, C, dx, _, rfl, by rw [← hC]; exact ha, cl, hno, by rw [List.length_zip]; omega, ?_⟩
      rw [← hC, zip_put nd (by rw [← lv]; exact hf)]
      have hi : i < ρ.length := (List.getElem?_eq_some_iff.mp hρ).1
      have hle : (fs ++ [d]).length ≤ (c.T.names k).length := by
        have := (List.getElem?_eq_some_iff.mp hf).1
        rw [List.length_append]
        simp only [List.length_cons, List.length_nil]
        omega
      obtain ⟨rs, mv⟩ := r1.mut (s' := .slf k (fs ++ [d])) m (o := .ins (c.T.cls k) dx ((c.T.names k).zip (vs ++ [v]))) (fun gr => ⟨a, dx, vs ++ [v], m, em, ev, upd_same, hle, RL.app (RL.gr gr rl) (RL.one (R.gr gr rv))⟩) hi
      exact q _ _ _ rs mv
    · rw [if_neg hz] at q
      exact q.elim
  | some (some (.val _)) => exact fun q => q.elim
  | some (some (.own _)) => exact fun q => q.elim
  | some (some (.ownd _)) => exact fun q => q.elim
  | some (some (.exv _ _)) => exact fun q => q.elim
  | some (some .lam) => exact fun q => q.elim
  | some (some (.raw _)) => exact fun q => q.elim
  | some none => exact fun q => q.elim
  | none => exact fun q => q.elim
/-- C(e, ..) -/
def makeE (kc n : Nat) (m : List D → M (List D)) (dd : List D) (fa : Slots → M (List D)) : Slots → M D := fun ρ => bnd (fa ρ) fun ds => if (ds ++ dd).length + 1 = n then bnd (m (ds ++ dd)) fun fs => ret (.obj kc fs) else fail
theorem spI_of {kc n : Nat} {m : List D → M (List D)} {xs : List D} {vs : List V} {Q : VK} {x dx : Addr} {C : Addr} (rs : RS c O ρ σ H pt) (rl : c.RL (Hd (hid c O) H) xs vs) (hl : xs.length + 1 = n) (hC : c.T.cls kc = C) (hx : H x = none) (hdx : H dx = none) (ne : dx ≠ x)
    (h : Wg c W σ H (fun d _ H' => ∀ v, c.R (Hd (hid c O) H') d v → Q v H') (bnd (m xs) (fun fs => ret (.obj kc fs)) pt)) :
    spI c.K c.T kc n m (.ref x :: vs) (upd (upd H dx (.own x)) x (.ins C dx [])) (fun v H2 => v = .non ∧ Q (.ref x) H2) (WE W σ) := by
  have g0 : Gr H (upd (upd H dx (.own x)) x (.ins C dx [])) := fun a o e => by
    rw [upd_ne (ne_of_none e hx), upd_ne (ne_of_none e hdx)]
    exact e
  have xh : x ∉ hid c O := rs.fresh hx
  have h := Wg.bnd h
  refine ⟨c.p, hid c O, x, dx, xs, vs, pt, rfl, rs.pm, fun a ha => let ⟨o, e, m⟩ := rs.hidden ha; ⟨o, g0 _ _ e, m⟩, xh, hl, by rw [hC]; exact upd_same, RL.gr (fun a o e => ?_) rl, rs.pot.ext g0, ?_⟩
  · obtain ⟨h1, h2, h3⟩ := Hd.sees e
    exact Hd.out (fun z => (List.mem_cons.mp z).elim (ne_of_none h2 hx) h1) (g0 _ _ h2) h3
  · have step : ∀ {H' : Hp} {p1 : Pot}, StpI c.T.tb c.p x (upd (upd H dx (.own x)) x (.ins C dx [])) H' p1 → Stp c.T.tb c.p H H' p1 := fun st => ⟨fun a o n e m => st.keep a o n (ne_of_none e hx) (g0 _ _ e) m, st.pot⟩
    cases e : m xs pt with
    | ok fs p1 =>
      rw [e] at h
      intro H' dx' fvs st hx' hn rf
      refine ⟨rfl, Wg.here (h H' (step st)) st.pot _ ?_⟩
      simp only [Cy.R, R]
      exact ⟨x, dx', fvs, rfl, Hd.out xh hx', hn, RL.gr (Hd.sub fun b hb => List.mem_cons_of_mem _ hb) rf⟩
    | exc k fs p1 =>
      rw [e] at h
      exact fun cls dd H' st rx => h cls dd H' (step st) (RX.less rx rfl rfl rfl fun a h => List.mem_append_left _ h)
    | stuck =>
      rw [e] at h
      exact h
variable {gu : Prop} {k n kc : Nat} {f C : Addr} {fd : FuncData} {ps : List Str} {ds : List Value} {dvs : List V} {dd : List D} {x m : Str} {p pos apos : Pos} {e o : Expr} {es : List Expr} {fm : List D → M (List D)} {fa : Slots → M (List D)} {fo : Slots → M D}
theorem de_make (M : Mk X.K C f) (F : FnG gu X.prog X.w X.K X.mg X.base (L2.CX X.prog X.w) k f fd ps (spI c.K c.T kc n fm)) (hr : Rm gu (k + 1) X.A) (tk : Takes X W) (hm : X.mg x = some (.ref C)) (hC : c.T.cls kc = C) (hb : Binds X.K fd ps ds) (hd : Vals dvs ds) (hc : Cst c dd dvs) (ha : PA X (e :: es) (dA c W fa))
    (hg : Gl X x := by rfl) (hdb : (x == ("__debug__" : Str)) = false := by decide) (he : starEach (e :: es) X.env = (false, eval e X.env) :: starEach es X.env := by rfl) (hpl : (backTo pos (starEach es X.env)).any (·.1) = false := by rfl) :
    PE X (.Call (.Name x p) (e :: es) [] pos) (dE c W (makeE kc n fm dd fa)) := by
  refine pe_imp (pe_makeA M F hr hg hm hb hd (passAt tk) ha hdb he hpl) fun σ H Q ⟨O, ρ, pt, r, q⟩ => ⟨O, ρ, pt, r, (Wg.bnd q).imp fun ds p1 H1 _ s1 q vs rvs => ?_⟩
  by_cases hz : (ds ++ dd).length + 1 = n
  · rw [if_pos hz] at q
    exact fun x dx h1 h2 h3 => spI_of (r.stp s1) (RL.app rvs (hc _)) hz hC h1 h2 h3 q
  · rw [if_neg hz] at q
    exact q.elim
theorem de_make0 (M : Mk X.K C f) (F : FnG gu X.prog X.w X.K X.mg X.base (L2.CX X.prog X.w) k f fd ps (spI c.K c.T kc n fm)) (hr : Rm gu (k + 1) X.A) (tk : Takes X W) (hm : X.mg x = some (.ref C)) (hC : c.T.cls kc = C) (hb : Binds X.K fd ps ds) (hd : Vals dvs ds) (hc : Cst c dd dvs)
    (hg : Gl X x := by rfl) (hdb : (x == ("__debug__" : Str)) = false := by decide) : PE X (.Call (.Name x p) [] [] pos) (dE c W (makeE kc n fm dd nilA)) := by
  refine pe_imp (pe_makeA0 M F hr hg hm hb hd (passAt tk) hdb) fun σ H Q ⟨O, ρ, pt, r, q⟩ => ?_
  have q := Wg.here (Wg.bnd q) r.pot
  by_cases hz : (([] : List D) ++ dd).length + 1 = n
  · rw [if_pos hz] at q
    exact fun x dx h1 h2 h3 => spI_of (vs := [] ++ dvs) r (hc _) hz hC h1 h2 h3 q
  · rw [if_neg hz] at q
    exact q.elim
/-- e.f, the field number ix of the class kc -/
def getE (kc ix : Nat) (fo : Slots → M D) : Slots → M D := fun ρ => bnd (fo ρ) fun z => match z with
  | .obj j fs => if j = kc then opt fs[ix]? else fail
  | _ => fail
theorem zip_look {ns : List Str} {vs : List V} {f : Str} {v : V} {ix : Nat} (nd : ns.Nodup) (h : ns[ix]? = some f) (hv : vs[ix]? = some v) : (ns.zip vs).lookup f = some v := by
  induction ns generalizing vs ix with
  | nil => simp at h
  | cons n ns ih =>
    cases vs with
    | nil => simp at hv
    | cons w vs =>
      have nd' := List.nodup_cons.mp nd
      cases ix with
      | zero =>
        simp at h hv
        subst h hv
        simp [List.lookup]
      | succ ix =>
        simp at h hv
        have hn : f ≠ n := fun e => nd'.1 (e ▸ List.mem_of_getElem? h)
        show (match f == n with | true => _ | false => _) = _
        rw [beq_eq_false_iff_ne.mpr hn]
        exact ih nd'.2 h hv
theorem de_get {kc ix : Nat} {f : Str} (ho : PE X o (dE c W fo)) (hC : c.T.cls kc = C) (cl : Cls X.K C) (hno : NoAttr X.K C f) (nd : (c.T.names kc).Nodup) (hf : (c.T.names kc)[ix]? = some f) (hb : attributeBase o f X.env (eval o X.env) = eval o X.env := by rfl) :
    PE X (.Attribute o f pos) (dE c W (getE kc ix fo)) := by
  refine pe_imp (pe_fld ho hb) fun σ H Q ⟨O, ρ, pt, r, q⟩ => ⟨O, ρ, pt, r, (Wg.bnd q).imp fun z p1 H1 _ s1 qz v rv => ?_⟩
  cases z with
  | obj j fs =>
    simp only at qz
    by_cases hj : j = kc
    · rw [if_pos hj] at qz
      subst hj
      simp only [Cy.R, R] at rv
      obtain ⟨a, dx, ws, rfl, ha, _, rl⟩ := rv
      obtain ⟨d, ed, qd⟩ := Wg.opt qz s1.pot
      obtain ⟨v, ev, rv⟩ := RL.getD rl ed
      exact ⟨a, C, dx, _, v, rfl, by rw [← hC]; exact Hd.le _ _ ha, cl, hno, zip_look nd hf ev, qd v rv⟩
    · rw [if_neg hj] at qz
      exact qz.elim
  | _ => exact qz.elim
/-- of two readings the one that applies -/
def orF (f g : Slots → M D) : Slots → M D := fun ρ pt => match f ρ pt with
  | .stuck => g ρ pt
  | r => r
theorem de_or2 {f g : Slots → M D} (h : PE X e (dE c W f)) (h' : PE X e (dE c W g)) : PE X e (dE c W (orF f g)) := by
  refine pe_imp (pe_or2 h h') fun σ H Q ⟨O, ρ, pt, r, q⟩ => ?_
  unfold orF at q
  cases e : f ρ pt with
  | stuck =>
    rw [e] at q
    exact .inr ⟨O, ρ, pt, r, q⟩
  | ok d p =>
    rw [e] at q
    exact .inl ⟨O, ρ, pt, r, by rw [e]; exact q⟩
  | exc k fs p =>
    rw [e] at q
    exact .inl ⟨O, ρ, pt, r, by rw [e]; exact q⟩
/-- a property of the class kc; its getter raises nothing -/
def noX {α : Type} (m : M α) : M α := fun pt => match m pt with
  | .exc _ _ _ => .stuck
  | r => r
def propE (kc : Nat) (fm : List D → M D) (fo : Slots → M D) : Slots → M D := fun ρ => bnd (fo ρ) fun z => match z with
  | .obj j fs => if j = kc then noX (fm [.obj j fs]) else fail
  | _ => fail
theorem spF_ofN {n : Nat} {fm : List D → M D} {xs : List D} {vs : List V} {Q : VK} (rs : RS c O ρ σ H pt) (rl : c.RL (Hd (hid c O) H) xs vs) (hl : xs.length = n)
    (h : Wg c W σ H (fun d _ H' => ∀ v, c.R (Hd (hid c O) H') d v → Q v H') (noX (fm xs) pt)) : spF c.K c.T n fm vs H Q E0 := by
  refine ⟨c.p, hid c O, xs, pt, rs.pm, fun a h => rs.hidden h, hl, rl, rs.pot, ?_⟩
  unfold noX at h
  cases e : fm xs pt with
  | ok d p1 =>
    rw [e] at h
    exact fun v H' st rv => h H' st v rv
  | exc k fs p1 =>
    rw [e] at h
    exact h.elim
  | stuck =>
    rw [e] at h
    exact h
theorem de_prop {fm : List D → M D} {y : Str} {pa g : Addr} (ho : PE X o (dE c W fo)) (hC : c.T.cls kc = C) (cl : Cls X.K C) (hp : PropOf X.K C y pa g) (F : FnG False X.prog X.w X.K X.mg X.base (L2.CX X.prog X.w) k g fd ps (spF c.K c.T 1 fm)) (hr : Rm False (k + 1) X.A) (hb : Binds X.K fd ps [])
    (hab : attributeBase o y X.env (eval o X.env) = eval o X.env := by rfl) : PE X (.Attribute o y pos) (dE c W (propE kc fm fo)) := by
  refine pe_imp (pe_prop (E := E0) ho cl hp F.ok hr.room hb .nil (passL (X := X.nox)) hab) fun σ H Q ⟨O, ρ, pt, r, q⟩ => ⟨O, ρ, pt, r, (Wg.bnd q).imp fun z p1 H1 _ s1 qz v rv => ?_⟩
  cases z with
  | obj j fs =>
    simp only at qz
    by_cases hj : j = kc
    · rw [if_pos hj] at qz
      subst hj
      have rv' := rv
      simp only [Cy.R, R] at rv
      obtain ⟨a, dx, ws, rfl, ha, _, rl⟩ := rv
      exact ⟨a, dx, _, rfl, by rw [← hC]; exact Hd.le _ _ ha, spF_ofN (r.stp s1) (RL.one rv') rfl qz⟩
    · rw [if_neg hj] at qz
      exact qz.elim
  | _ => exact qz.elim
end
end DF

set_option Elab.async false
set_option linter.all false
set_option maxRecDepth 100000
set_option maxHeartbeats 4000000
namespace DF
open PySem L2
/-! ### kinds of values -/
/-- what isinstance and comparisons look up of a class of the text -/
structure ClsI (K : PySem.W.Frag) (C : Addr) : Prop where
  cl : Cls K C
  ha : PySem.W.findIn K (.ref C) "__class__" = some (some (.builtin "object.__class__"))
  hn : PySem.W.specialIn K (.builtin "object.__class__") "__get__" = some (some (.builtin "getset_descriptor.__get__"))
  htk : PySem.W.takesIn K (.builtin "object.__class__") = some true
  hm : PySem.W.mroIn K C (.type "object") = some true
def tag (T : Tb) (nC : Nat) : D → Option Value
  | .non => some (.type "NoneType")
  | .bl _ => some (.type "bool")
  | .int _ => some (.type "int")
  | .str _ => some (.type "str")
  | .lst _ => some (.type "list")
  | .tup _ => some (.type "tuple")
  | .dct _ => some (.type "dict")
  | .obj k _ => if k < nC then some (.ref (T.cls k)) else none
  | _ => none
/-- a kind of value that is told: a built-in one, or one of the first nC classes -/
def knd (nC : Nat) : D → Option (Sum String Nat)
  | .non => some (.inl "NoneType")
  | .bl _ => some (.inl "bool")
  | .int _ => some (.inl "int")
  | .str _ => some (.inl "str")
  | .lst _ => some (.inl "list")
  | .tup _ => some (.inl "tuple")
  | .dct _ => some (.inl "dict")
  | .obj k _ => if k < nC then some (.inr k) else none
  | _ => none
def tagV (T : Tb) : Sum String Nat → Value
  | .inl n => .type n
  | .inr k => .ref (T.cls k)
theorem tag_knd (T : Tb) (nC : Nat) (x : D) : tag T nC x = (knd nC x).map (tagV T) := by
  cases x <;> first | rfl | (simp only [tag, knd]; split <;> rfl)
def tagB : List String := ["NoneType", "bool", "int", "str", "list", "tuple", "dict"]
section
variable {gu : Prop} {X : Cx} {c : Cy} {W : WX} {σ : L2.St} {H H' : Hp} {O : List (Nat × Addr)} {ρ : Slots} {pt pt' : Pot} {nC : Nat}
theorem tag_ok {x : D} {v : V} {t : Value} (hC : ∀ k, k < nC → ClsI X.K (c.T.cls k)) (hK : c.K = X.K) (h : RB c O H x v) (e : tag c.T nC x = some t) : TyX X.K H v t := by
  cases x with
  | non => simp only [tag] at e; cases e; rw [h.non]; exact .base .non
  | bl b => simp only [tag] at e; cases e; rw [h.bl]; exact .base (.bl b)
  | int b => simp only [tag] at e; cases e; rw [h.int]; exact .base (.int b)
  | str b => simp only [tag] at e; cases e; rw [h.str]; exact .base (.str b)
  | lst ds =>
    simp only [tag] at e; cases e
    obtain ⟨a, vs, rfl, ha, _⟩ := h.lst
    exact .base (.lst ha)
  | dct ds =>
    simp only [tag] at e; cases e
    obtain ⟨a, vs, rfl, ha, _⟩ := h.dct
    exact .base (.dK ha)
  | tup ds =>
    simp only [tag] at e; cases e
    obtain ⟨a, vs, rfl, ha, _⟩ := h.tup
    rcases ha with (ha | ⟨o, ha⟩) | ⟨o, its, n, h1, h2, _⟩
    · exact .base (.tup ha)
    · exact .fTuple ha
    · exact .kTuple (by rw [← hK]; exact h1) h2
  | obj k fs =>
    simp only [tag] at e
    split at e
    · rename_i hk
      cases e
      have q := h.obj
      simp only [Cy.R, R] at q
      obtain ⟨a, dx, vs, rfl, ha, _, _⟩ := q
      have I := hC k hk
      exact .base (.ins (Hd.le _ _ ha) I.cl I.ha I.hn I.htk I.hm)
    · cases e
  | pot => simp only [tag] at e; cases e
  | fn _ => simp only [tag] at e; cases e
  | cls _ => simp only [tag] at e; cases e
  | ty _ => simp only [tag] at e; cases e

/-! ### operators on values that are kept -/
def OpV (X : Cx) (c : Cy) (W : WX) (f : Value → Value → Sem Value) (g : D → D → M D) : Prop := ∃ r : L2.St → R2, OpS X f r ∧
  ∀ (σ : L2.St) (O : List (Nat × Addr)) (ρ : Slots) (pt : Pot) (H : Hp) (Q : VK) (x y : D) (v w : V), RS c O ρ σ H pt → c.R (Hd (hid c O) H) x v → c.R (Hd (hid c O) H) y w →
    Wg c W σ H (fun d _ H' => ∀ v, c.R (Hd (hid c O) H') d v → Q v H') (g x y pt) → r σ v w H Q
theorem OpD.v {f : Value → Value → Sem Value} {g : D → D → M D} (o : OpD X c W f g) : OpV X c W f g := by
  obtain ⟨r, h1, h2⟩ := o
  exact ⟨r, h1, fun σ O ρ pt H Q x y v w rs rx ry q => h2 σ O ρ pt H Q x y v w rs (.inl rx) (.inl ry) q⟩
theorem OpV.or {f : Value → Value → Sem Value} {g h : D → D → M D} (a : OpV X c W f g) (b : OpV X c W f h) : OpV X c W f (orM g h) := by
  obtain ⟨r, r1, r2⟩ := a
  obtain ⟨r', r1', r2'⟩ := b
  refine ⟨_, r1.or r1', fun σ O ρ pt H Q x y v w rs rx ry q => ?_⟩
  unfold orM at q
  cases e : g x y pt with
  | stuck =>
    rw [e] at q
    exact .inr (r2' σ O ρ pt H Q x y v w rs rx ry q)
  | ok d p =>
    rw [e] at q
    exact .inl (r2 σ O ρ pt H Q x y v w rs rx ry (by rw [e]; exact q))
  | exc k fs p =>
    rw [e] at q
    exact .inl (r2 σ O ρ pt H Q x y v w rs rx ry (by rw [e]; exact q))
theorem OpV.use {f : Value → Value → Sem Value} {g : D → D → M D} {fa fb : Slots → M D} (o : OpV X c W f g) : ∃ r : L2.St → R2, OpS X f r ∧ ∀ σ H Q, dE c W (binE g fa fb) σ H Q → dE c W fa σ H fun x H1 => dE c W fb σ H1 fun y H2 => r σ x y H2 Q := by
  obtain ⟨r, h1, h2⟩ := o
  refine ⟨r, h1, fun σ H Q ⟨O, ρ, pt, rs, q⟩ => ?_⟩
  refine ⟨O, ρ, pt, rs, (Wg.bnd q).imp fun x p1 H1 _ s1 q v rv => ?_⟩
  have rs1 := rs.stp s1
  refine ⟨O, ρ, p1, rs1, (Wg.bnd q).imp fun y p2 H2 _ s2 q w rw => ?_⟩
  exact h2 σ O ρ p2 H2 Q x y v w (rs1.stp s2) (R.gr (s2.gr rs.pm) rv) rw q
theorem de_opV {op : Operator} {g : D → D → M D} {a b : Expr} {fa fb : Slots → M D} {pos : Pos} (o : OpV X c W (binaryOp op) g) (ha : PE X a (dE c W fa)) (hb : PE X b (dE c W fb)) : PE X (.BinOp a op b pos) (dE c W (binE g fa fb)) := by
  obtain ⟨r, h1, h2⟩ := OpV.use (fa := fa) (fb := fb) o
  exact ⟨fun pins s σ H Q I h => wpAny_BinOp (binT ha hb I (h2 σ H Q h) fun v u s2 x y H2 I2 rx ry q => h1 pins s2 σ H2 x y v u Q I2 rx ry q)⟩
theorem de_cmpV {op : CmpOp} {g : D → D → M D} {a b : Expr} {fa fb : Slots → M D} {pos : Pos} (o : OpV X c W (compareOp op) g) (ha : PE X a (dE c W fa)) (hb : PE X b (dE c W fb)) (hm : behindInMarks op b = false := by first | exact nomark _ | rfl) : PE X (.Compare a [op] [b] pos) (dE c W (binE g fa fb)) := by
  obtain ⟨r, h1, h2⟩ := OpV.use (fa := fa) (fb := fb) o
  exact ⟨fun pins s σ H Q I h => wpAny_Compare1 (binT ha hb I (h2 σ H Q h) fun v u s2 x y H2 I2 rx ry q => h1 pins s2 σ H2 x y v u Q I2 rx ry q) hm⟩
theorem dt_cmpV {op : CmpOp} {g : D → D → M D} {a b : Expr} {fa fb : Slots → M D} {pos : Pos} (o : OpV X c W (compareOp op) g) (ha : PE X a (dE c W fa)) (hb : PE X b (dE c W fb)) (hm : behindInMarks op b = false := by first | exact nomark _ | rfl) : PT X (.Compare a [op] [b] pos) (dT c W (testE (binE g fa fb))) := by
  obtain ⟨r, h1, h2⟩ := OpV.use (fa := fa) (fb := fb) o
  refine ⟨fun pins s σ H Q I ⟨O, ρ, pt, rs, q⟩ => ?_⟩
  have q1 : dE c W (binE g fa fb) σ H (fun x H' => ∃ k, x = .bl k ∧ Q k H') := ⟨O, ρ, pt, rs, (Wg.bnd q).imp fun d p1 H1 _ s1 q v rv => by
    obtain ⟨b, ed, q2⟩ := asB_ok q s1.pot
    subst ed
    exact ⟨b, by simpa [Cy.R, R] using rv, q2⟩⟩
  refine wpAny_isTrue_Compare1 (thn (ha.run pins s σ H _ I (h2 σ H _ q1)) fun v s1 ⟨x, H1, I1, r1, q1⟩ => thn (hb.run pins s1 σ H1 _ I1 q1) fun u s2 ⟨y, H2, I2, r2, q2⟩ => thn (h1 pins s2 σ H2 x y v u _ I2 r1 r2 q2) fun z s3 ⟨t, H3, I3, r3, k, e, q3⟩ => ?_) hm
  subst e
  cases r3
  exact wpAny_truthy_bool ⟨H3, I3, q3⟩

/-! ### operators of the text's own classes -/
variable {CX : CXT} {k n kc : Nat} {f C : Addr} {fd : FuncData} {ps : List Str} {fm : List D → M D} {sp : Sp} {E : L2.St → XK}
/-- the callee runs somewhere below -/
theorem runSub {A : Around} {pins : List (Addr × Obj)} {s : Shared} {Q : VK} {us : List Value} {vs : List V} (F : FnG gu X.prog X.w X.K X.mg X.base CX k f fd ps sp) (hr : Rm gu k A) (hfr : A.frames = X.A.frames) (hb : Binds X.K fd ps []) (hx : PassesAt CX X σ (E σ))
    (I : Inv X pins σ H s) (r : Vals vs us) (h : sp vs H Q (E σ)) : wpAny (model X.prog X.w) A (call (.ref f) us) (EP X pins σ Q) X.xe s := by
  have hl : us.length = ps.length := r.length.symm.trans (F.len _ _ _ _ h)
  have b := hb s us I.kIn (by rw [List.append_nil]; exact hl)
  rw [List.append_nil] at b
  have e := I.env0
  have e0 : Env0 X.prog X.w X.K X.mg X.base A X.stack s H := ⟨hfr.trans e.frames, e.mod, e.bs, e.bsz, e.funs, e.frf, e.hok, e.bare⟩
  refine wpAny_call (codeAny_mono (F.run A X.stack s H ⟨us, []⟩ us vs Q (E σ) hr e0 b r h) fun res s' hq => ?_)
  match res, hq with
  | .error e, hq => exact hx pins H s e s' I hq
  | .ok (.ret u), hq => exact I.after hq
theorem not_ni {v : V} {u : Value} (r : RelV v u) : u ≠ .notImplemented := fun e => by
  subst e
  cases v with
  | int i => obtain ⟨_, z⟩ := r; cases z
  | str i => obtain ⟨_, z⟩ := r; cases z
  | byt i => obtain ⟨_, z⟩ := r; cases z
  | flt i => obtain ⟨_, z⟩ := r; cases z
  | _ => cases r
theorem cmpBack {pins : List (Addr × Obj)} {Q : VK} {u : Value} {s' : Shared} (h : EP X pins σ Q u s') : PySem.W.CmpBack (EP X pins σ Q) u s' := by
  obtain ⟨v, H', I, r, q⟩ := h
  have := not_ni r
  unfold PySem.W.CmpBack
  split
  · exact this rfl
  · exact ⟨v, H', I, r, q⟩
/-- an instance of the class: what the library's rules ask -/
theorem inst_at {pins : List (Addr × Obj)} {s : Shared} {a dx : Addr} {fs : List (Str × V)} (I : Inv X pins σ H s) (e : H a = some (.ins C dx fs)) : ∃ ox od, PySem.W.InstAt s.heap a ox C (some od) := by
  obtain ⟨mA, J, _⟩ := ins_get I.hok e
  obtain ⟨od, J, _⟩ := J.look
  exact ⟨_, od, J⟩
/-- what an own method is asked with: the object, and any value whose kind is told -/
def ownM (nC kc : Nat) (fm : List D → M D) : D → D → M D := fun x y => match x with
  | .obj j fs => if j = kc ∧ (knd nC y).isSome then fm [.obj j fs, y] else fail
  | _ => fail
/-- the reading of an own method of two -/
def rOwn (X : Cx) (c : Cy) (W : WX) (nC kc : Nat) (fm : List D → M D) (C : Addr) : L2.St → R2 := fun σ v w H Q => ∃ a dx fs t, v = .ref a ∧ H a = some (.ins C dx fs) ∧ TyX X.K H w t ∧ (∃ n ∈ tagB, t = .type n) ∧ spF c.K c.T 2 fm [v, w] H Q (WE W σ)
def rOwn2 (X : Cx) (c : Cy) (W : WX) (nC kc : Nat) (fm : List D → M D) (C : Addr) : L2.St → R2 := fun σ v w H Q => ∃ a dx fs b dy gs k, v = .ref a ∧ H a = some (.ins C dx fs) ∧ w = .ref b ∧ k < nC ∧ H b = some (.ins (c.T.cls k) dy gs) ∧ TyX X.K H w (.ref (c.T.cls k)) ∧ spF c.K c.T 2 fm [v, w] H Q (WE W σ)
theorem own_use (hCs : ∀ k, k < nC → ClsI X.K (c.T.cls k)) (hK : c.K = X.K) (hC : c.T.cls kc = C) {x y : D} {v w : V} {Q : VK} (rs : RS c O ρ σ H pt) (rx : c.R (Hd (hid c O) H) x v) (ry : c.R (Hd (hid c O) H) y w)
    (q : Wg c W σ H (fun d _ H' => ∀ v, c.R (Hd (hid c O) H') d v → Q v H') (ownM nC kc fm x y pt)) : rOwn X c W nC kc fm C σ v w H Q ∨ rOwn2 X c W nC kc fm C σ v w H Q := by
  cases x with
  | obj j fs =>
    simp only [ownM] at q
    by_cases hj : j = kc ∧ (knd nC y).isSome
    · rw [if_pos hj] at q
      obtain ⟨rfl, ht⟩ := hj
      have ht : (tag c.T nC y).isSome = true := by rw [tag_knd, Option.isSome_map]; exact ht
      obtain ⟨t, et⟩ := Option.isSome_iff_exists.mp ht
      have ty := tag_ok hCs hK (.inl ry) et
      have sp : spF c.K c.T 2 fm [v, w] H Q (WE W σ) := spF_of rs (RL.cons rx (RL.one ry)) rfl q
      simp only [Cy.R, R] at rx
      obtain ⟨a, dx, vs, rfl, ha, _, _⟩ := rx
      have ha' : H a = some (.ins C dx ((c.T.names j).zip vs)) := by rw [← hC]; exact Hd.le _ _ ha
      cases y with
      | obj k gs =>
        simp only [tag] at et
        split at et
        · rename_i hk
          cases et
          simp only [Cy.R, R] at ry
          obtain ⟨b, dy, ws, rfl, hb, _, _⟩ := ry
          exact .inr ⟨a, dx, _, b, dy, _, k, rfl, ha', rfl, hk, Hd.le _ _ hb, ty, sp⟩
        · cases et
      | non => simp only [tag] at et; cases et; exact .inl ⟨a, dx, _, _, rfl, ha', ty, ⟨_, by simp [tagB], rfl⟩, sp⟩
      | bl _ => simp only [tag] at et; cases et; exact .inl ⟨a, dx, _, _, rfl, ha', ty, ⟨_, by simp [tagB], rfl⟩, sp⟩
      | int _ => simp only [tag] at et; cases et; exact .inl ⟨a, dx, _, _, rfl, ha', ty, ⟨_, by simp [tagB], rfl⟩, sp⟩
      | str _ => simp only [tag] at et; cases et; exact .inl ⟨a, dx, _, _, rfl, ha', ty, ⟨_, by simp [tagB], rfl⟩, sp⟩
      | lst _ => simp only [tag] at et; cases et; exact .inl ⟨a, dx, _, _, rfl, ha', ty, ⟨_, by simp [tagB], rfl⟩, sp⟩
      | tup _ => simp only [tag] at et; cases et; exact .inl ⟨a, dx, _, _, rfl, ha', ty, ⟨_, by simp [tagB], rfl⟩, sp⟩
      | dct _ => simp only [tag] at et; cases et; exact .inl ⟨a, dx, _, _, rfl, ha', ty, ⟨_, by simp [tagB], rfl⟩, sp⟩
      | pot => simp only [tag] at et; cases et
      | fn _ => simp only [tag] at et; cases et
      | cls _ => simp only [tag] at et; cases et
      | ty _ => simp only [tag] at et; cases et
    · rw [if_neg hj] at q
      exact q.elim
  | _ => exact q.elim
/-- what the order of the two sides asks of a class: no kind of value stands below it -/
structure CmpI (X : Cx) (T : Tb) (nC : Nat) (C : Addr) : Prop where
  nb : ∀ n ∈ tagB, PySem.W.subIn X.K (.type n) (.ref C) = some false
  no : ∀ k, k < nC → PySem.W.notFirst X.K C (.ref (T.cls k)) = true
theorem CmpI.nf {T : Tb} (h : CmpI X T nC C) {n : String} (hn : n ∈ tagB) : PySem.W.notFirst X.K C (.type n) = true := by
  unfold PySem.W.notFirst
  rw [h.nb n hn]
  simp
theorem ov_eq (hCs : ∀ k, k < nC → ClsI X.K (c.T.cls k)) (hK : c.K = X.K) (hC : c.T.cls kc = C) (ci : CmpI X c.T nC C) (hs : PySem.W.findIn X.K (.ref C) "__eq__" = some (some (.ref f))) (hf : PySem.W.isFn X.K (.ref f) = true)
    (F : FnG gu X.prog X.w X.K X.mg X.base (L2.CX X.prog X.w) k f fd ps (spF c.K c.T 2 fm)) (hr : Rm gu k X.A) (hb : Binds X.K fd ps []) (tk : Takes X W) : OpV X c W (compareOp .Eq) (ownM nC kc fm) := by
  refine ⟨fun σ v w H Q => rOwn X c W nC kc fm C σ v w H Q ∨ rOwn2 X c W nC kc fm C σ v w H Q, fun pins s σ H x y v u Q I rx ry q => ?_, fun σ O ρ pt H Q x y v w rs rx ry q => own_use hCs hK hC rs rx ry q⟩
  have go : ∀ {a : Addr} {t : Value}, x = .ref a → v = .ref a → TyX X.K H y t → PySem.W.notFirst X.K C t = true → (∃ dx fs, H a = some (.ins C dx fs)) → spF c.K c.T 2 fm [x, y] H Q (WE W σ) → wpAny (model X.prog X.w) X.A (compareOp .Eq v u) (EP X pins σ Q) X.xe s := by
    intro a t ex ev ty nf ⟨dx, fs, ha⟩ sp
    subst ex ev
    obtain ⟨ox, od, J⟩ := inst_at I ha
    obtain ⟨m, hF⟩ := I.fr
    obtain ⟨P, Z, p, _⟩ := kit_of I ry ty
    refine PySem.W.cmp_K (op := .Eq) hr.units0 hF I.ok.mod.kin J (Z.ty _ _ I.kIn p) nf hs hf ?_
    exact wpAny_mono (runSub (E := WE W) F hr rfl hb (passAt tk σ) I (.cons rx (.cons ry .nil)) sp) (fun r s' h => cmpBack h) fun _ _ z => z
  rcases q with ⟨a, dx, fs, t, e1, ha, ty, ⟨n, hn, et⟩, sp⟩ | ⟨a, dx, fs, b, dy, gs, j, e1, ha, e2, hj, _, ty, sp⟩
  · subst e1 et
    cases rx
    exact go rfl rfl ty (ci.nf hn) ⟨dx, fs, ha⟩ sp
  · subst e1
    cases rx
    exact go rfl rfl ty (ci.no j hj) ⟨dx, fs, ha⟩ sp
end
end DF

set_option Elab.async false
set_option linter.all false
set_option maxRecDepth 100000
set_option maxHeartbeats 4000000
namespace DF
open PySem L2
section
variable {prog : Program} {w : World} {A : Around} {E : Value → Shared → Prop} {s : Shared} {K : PySem.W.Frag} {x C L f : Addr} {h₀ : Heap} {m : Str → Option Value} {ox : Obj} {od : Option Obj} {b tb : Value}
theorem ne_bind (self : Value) : bindSpecial (.builtin "object.__ne__") self = pure (.builtin "object.__ne__", [self]) :=
  (Slot.of (T := "object") (name := "__ne__") (owner := "object") (n := "__ne__") (by rw [typeLookup_type, builtinLookup_eq_fast]; kernel_rfl) (by decide +kernel) (by decide +kernel) (by decide +kernel)
    (.inl (by decide +kernel)) (by rw [isSubtype_type]; kernel_rfl)).bind self
theorem ne_plain : plainId "object.__ne__" = true := by decide +kernel
/-- != of an own class that has == alone -/
theorem ne_own {Q : Value → Shared → Prop} (hu : A.in1.units < cLine) (hu0 : A.units < cLine) (F : PyProof.Rows.Fr h₀ L s.heap m) (X₀ : K.In h₀) (I : PySem.W.InstAt s.heap x ox C od) (hb : PySem.W.Looks (model prog w) s.heap (typeOf b) tb) (hn : PySem.W.notFirst K C tb = true)
    (hne : PySem.W.findIn K (.ref C) "__ne__" = some (some (.builtin "object.__ne__"))) (ho : PySem.W.subIn K (.ref C) (.type "object") = some true)
    (hs : PySem.W.findIn K (.ref C) "__eq__" = some (some (.ref f))) (hf : PySem.W.isFn K (.ref f) = true)
    (h : wpAny (model prog w) A.in1 (call (.ref f) [.ref x, b]) (fun v s' => ∃ r, v = .bool r ∧ Q (.bool (!r)) s') E s) : wpAny (model prog w) A (richCompare .NotEq (.ref x) b) Q E s := by
  have X := X₀.keeps F.keep
  have eqs : wpAny (model prog w) A.in1 (callSpecialIfBound? (.ref x) "__eq__" [b]) (fun r s' => ∃ z, r = some (.bool z) ∧ Q (.bool (!z)) s') E s :=
    PySem.W.ifBound_K X I hs hf (wpAny_mono h (fun v s' ⟨r, e, q⟩ => ⟨r, by rw [e], q⟩) fun _ _ e => e)
  have hi : PySem.W.Looks (model prog w) s.heap (isInstance (.ref x) (.type "object")) true := I.type.andThen (PySem.W.looks_subIn X ho)
  have run : wpAny (model prog w) A (call (.builtin "object.__ne__") [.ref x, b]) (fun v s' => ∃ z, v = .bool (!z) ∧ Q (.bool (!z)) s') E s := by
    refine wpAny_call (codeAny_call_builtin ne_plain PySem.F.cmpEntry_ne (@PySem.W.check_slot (model prog w) _ _ _ "object.__ne__" "object" "__ne__" (.ref x) [b] [] _ PySem.F.cmpKind_ne PySem.F.cmpSplit_ne hi (PySem.F.cmpArgs_ne _ _) ?_))
    unfold Builtin.«object.__ne__»
    refine wpAny_bind (m := PySem.slotArgs "__ne__" 1 ⟨[.ref x, b], []⟩) (wpAny_pure ?_)
    refine wpAny_bind (wpAny_cRoomFor hu ?_)
    refine wpAny_bind (wpAny_mono eqs (fun r s' hr => ?_) fun _ _ e => e)
    obtain ⟨z, rfl, q⟩ := hr
    refine wpAny_bind (wpAny_truthy_bool ?_)
    exact wpAny_pure ⟨z, rfl, q⟩
  have one : wpAny (model prog w) A (tryCompare (.ref x) "__ne__" b) (fun r s' => ∃ v, r = some v ∧ Q v s') E s := by
    unfold tryCompare
    refine wpAny_bind (m := callSpecialIfBound? (.ref x) "__ne__" [b]) ?_
    simp only [callSpecialIfBound?, bindSpecialIfBound?]
    refine wpAny_holding (wpAny_bind (wpAny_bind (wpAny_bind (I.type.here ((PySem.W.looks_findIn X hne).here ?_)))))
    refine wpAny_bind (wpAny_askSetting (wpAny_ite ?_))
    have fin : wpAny (model prog w) A (call (.builtin "object.__ne__") ([.ref x] ++ [b]) >>= fun v => pure (some v)) (fun r s' => wpAny (model prog w) A (match r with | some .notImplemented | none => pure none | some v => pure (some v)) (fun r s' => ∃ v, r = some v ∧ Q v s') E s') E s :=
      wpAny_bind (wpAny_mono run (fun v s' ⟨z, e, q⟩ => by subst e; exact wpAny_pure (wpAny_pure ⟨_, rfl, q⟩)) fun _ _ e => e)
    split
    · rw [ne_bind]
      exact wpAny_bind (wpAny_pure (wpAny_pure fin))
    · rw [ne_bind]
      exact wpAny_tryCatch (wpAny_bind (wpAny_pure (wpAny_pure fin)))
  unfold richCompare
  simp only [oneThing_ref]
  refine wpAny_holding (wpAny_bind (wpAny_cRoomFor hu0 ?_))
  refine wpAny_bind (I.type.here (wpAny_bind (hb.here ?_)))
  split
  · rename_i q
    have e : PySem.W.subIn K tb (.ref C) = some false := by
      rcases Bool.or_eq_true_iff.mp hn with e | e
      · rw [beq_iff_eq.mp e] at q; simp at q
      · exact beq_iff_eq.mp e
    refine wpAny_bind ((PySem.W.looks_subIn X e).here ?_)
    simp only [Bool.false_eq_true, if_false]
    refine wpAny_bind (wpAny_mono one (fun r s' z => ?_) fun _ _ e => e)
    obtain ⟨v, rfl, hq⟩ := z
    exact wpAny_pure hq
  · refine wpAny_bind (wpAny_pure ?_)
    simp only [Bool.false_eq_true, if_false]
    refine wpAny_bind (wpAny_mono one (fun r s' z => ?_) fun _ _ e => e)
    obtain ⟨v, rfl, hq⟩ := z
    exact wpAny_pure hq
end
section
variable {prog : Program} {w : World} {A : Around} {E : Value → Shared → Prop} {s : Shared} {K : PySem.W.Frag} {x C L f : Addr} {h₀ : Heap} {m : Str → Option Value} {ox : Obj} {od : Option Obj} {T : String}
/-- x + b where b is of a built-in kind, its type as it is looked up -/
theorem own_binT {op : Operator} {b : Value} {fo ro rc : Option Value} {Q : Value → Shared → Prop} (F : PyProof.Rows.Fr h₀ L s.heap m) (X₀ : K.In h₀) (I : PySem.W.InstAt s.heap x ox C od) (hb : PySem.W.Looks (model prog w) s.heap (typeOf b) (.type T)) (hc : PySem.W.selfFirst K C = true)
    (hs : PySem.W.findIn K (.ref C) (PySem.dunder op.info.2) = some (some (.ref f))) (hf : PySem.W.isFn K (.ref f) = true) (hr : PySem.W.findIn K (.ref C) (dunderR op.info.2) = some rc) (hp : rc = none ∨ ∃ g : Addr, rc = some (.ref g))
    (h1 : PySem.W.findIn K (.type T) (PySem.dunder op.info.2) = some fo) (h2 : PySem.W.findIn K (.type T) (dunderR op.info.2) = some ro) (hsub : PySem.W.subIn K (.type T) (.ref C) = some false)
    (h : wpAny (model prog w) A (call (.ref f) [.ref x, b]) (PySem.W.CmpBack Q) E s) : wpAny (model prog w) A (binaryOp op (.ref x) b) Q E s := by
  have X := X₀.keeps F.keep
  obtain ⟨cd, rest, hcd, hm⟩ := PySem.W.ksp_first hc
  rcases hi : op.info with ⟨sym, nm'⟩
  rw [hi] at hs hr h1 h2
  dsimp only at hs hr h1 h2
  have one := PySem.W.ksp_try X I hs hf h
  obtain ⟨hh, g, d, tt, os⟩ := s
  have y1 : PySem.W.Looks (model prog w) hh (typeOf (.ref x)) (.ref C) := I.type
  have y3 : PySem.W.Looks (model prog w) hh (fillsNumberSlot (.ref C) nm') true := PySem.W.fills_K X hcd hm hs
  have y4 := PySem.W.ksp_fillsT (M := model prog w) (nm := nm') X h1 h2
  have y5 : PySem.W.Looks (model prog w) hh (isSubtype (.type T) (.ref C)) false := PySem.W.looks_subIn X hsub
  have y6 : PySem.W.Looks (model prog w) hh (numberSlotInPython (.ref C) nm') true := PySem.W.ksp_inPy X hs hr hp
  have y7 : PySem.W.Looks (model prog w) hh (numberSlotInPython (.type T) nm') false := PySem.W.Looks.of_pure rfl
  have y8 : PySem.W.Looks (model prog w) hh (typeLookup (.type T) (dunderR nm')) ro := PySem.W.looks_findIn X h2
  generalize ((fo.isSome && !isSeqSlot fo) || (ro.isSome && !isSeqSlot ro)) = right at y4
  have hne : (Value.ref C == Value.type T) = false := Bool.eq_false_iff.mpr fun q => by cases beq_iff_eq.mp q
  simp only [binaryOp, hi]
  refine wpAny_holding (wpAny_bind ?_)
  unfold binaryOp1
  refine wpAny_bind (y1.at (wpAny_bind (hb.at (wpAny_bind (y3.at ?_)))))
  simp only [hne, Bool.false_eq_true, if_false]
  cases right with
  | false =>
    refine wpAny_bind (y4.at ?_)
    simp only [Bool.and_false, Bool.false_eq_true, if_false, Bool.false_and]
    refine wpAny_bind (wpAny_pure ?_)
    simp only [Bool.false_eq_true, if_false, if_true]
    refine wpAny_bind (m := tryMethod (.ref x) _ b) (wpAny_mono one (fun r s' hr' => ?_) fun _ _ e => e)
    obtain ⟨v, rfl, hq⟩ := hr'
    exact wpAny_pure (wpAny_pure hq)
  | true =>
    refine wpAny_bind (y4.at ?_)
    simp only [Bool.and_self, if_true]
    refine wpAny_bind (y5.at ?_)
    simp only [Bool.false_eq_true, if_false, Bool.not_false, Bool.and_self, if_true]
    refine wpAny_bind (y6.at ?_)
    simp only [if_true]
    refine wpAny_bind (y7.at ?_)
    simp only [Bool.not_false, if_true]
    refine wpAny_bind (y8.at ?_)
    refine wpAny_bind (m := tryMethod (.ref x) _ b) (wpAny_mono one (fun r s' hr' => ?_) fun _ _ e => e)
    obtain ⟨v, rfl, hq⟩ := hr'
    exact wpAny_pure (wpAny_pure hq)
end
section
variable {gu : Prop} {X : Cx} {c : Cy} {W : WX} {k n kc nC : Nat} {f C : Addr} {fd : FuncData} {ps : List Str} {fm : List D → M D}
def notB : D → M D
  | .bl b => ret (.bl (!b))
  | _ => fail
/-- != where the class has == alone: the callee tells True or False -/
def neM (nC kc : Nat) (fm : List D → M D) : D → D → M D := fun x y => bnd (ownM nC kc fm x y) notB
theorem ov_ne (hCs : ∀ k, k < nC → ClsI X.K (c.T.cls k)) (hK : c.K = X.K) (hC : c.T.cls kc = C) (ci : CmpI X c.T nC C) (hne : PySem.W.findIn X.K (.ref C) "__ne__" = some (some (.builtin "object.__ne__"))) (ho : PySem.W.subIn X.K (.ref C) (.type "object") = some true)
    (hs : PySem.W.findIn X.K (.ref C) "__eq__" = some (some (.ref f))) (hf : PySem.W.isFn X.K (.ref f) = true)
    (F : FnG gu X.prog X.w X.K X.mg X.base (L2.CX X.prog X.w) k f fd ps (spF c.K c.T 2 fm)) (hr : Rm gu (k + 1) X.A) (hb : Binds X.K fd ps []) (tk : Takes X W) : OpV X c W (compareOp .NotEq) (neM nC kc fm) := by
  refine ⟨fun σ v w H Q => rOwn X c W nC kc fm C σ v w H (fun z H' => ∃ b, z = .bl b ∧ Q (.bl (!b)) H') ∨ rOwn2 X c W nC kc fm C σ v w H (fun z H' => ∃ b, z = .bl b ∧ Q (.bl (!b)) H'), fun pins s σ H x y v u Q I rx ry q => ?_, fun σ O ρ pt H Q x y v w rs rx ry q => ?_⟩
  · have go : ∀ {a : Addr} {t : Value}, x = .ref a → v = .ref a → TyX X.K H y t → PySem.W.notFirst X.K C t = true → (∃ dx fs, H a = some (.ins C dx fs)) → spF c.K c.T 2 fm [x, y] H (fun z H' => ∃ b, z = .bl b ∧ Q (.bl (!b)) H') (WE W σ) →
        wpAny (model X.prog X.w) X.A (compareOp .NotEq v u) (EP X pins σ Q) X.xe s := by
      intro a t ex ev ty nf ⟨dx, fs, ha⟩ sp
      subst ex ev
      obtain ⟨ox, od, J⟩ := inst_at I ha
      obtain ⟨m, hF⟩ := I.fr
      obtain ⟨P, Z, p, _⟩ := kit_of I ry ty
      refine ne_own hr.in1.units0 hr.units0 hF I.ok.mod.kin J (Z.ty _ _ I.kIn p) nf hne ho hs hf ?_
      refine wpAny_mono (runSub (E := WE W) F hr.in1 rfl hb (passAt tk σ) I (.cons rx (.cons ry .nil)) sp) (fun r s' h => ?_) fun _ _ z => z
      obtain ⟨z, H', I', rz, b, e, q⟩ := h
      subst e
      cases rz
      exact ⟨b, rfl, .bl (!b), H', I', rfl, q⟩
    rcases q with ⟨a, dx, fs, t, e1, ha, ty, ⟨n, hn, et⟩, sp⟩ | ⟨a, dx, fs, b, dy, gs, j, e1, ha, e2, hj, _, ty, sp⟩
    · subst e1 et
      cases rx
      exact go rfl rfl ty (ci.nf hn) ⟨dx, fs, ha⟩ sp
    · subst e1
      cases rx
      exact go rfl rfl ty (ci.no j hj) ⟨dx, fs, ha⟩ sp
  · refine own_use hCs hK hC rs rx ry ((Wg.bnd q).imp fun d p1 H1 _ s1 q v rv => ?_)
    cases d with
    | bl b => exact ⟨b, by simpa [Cy.R, R] using rv, Wg.here q s1.pot _ (by simp [Cy.R, R])⟩
    | _ => exact q.elim
/-- + - * .. of an own class: the right side one of it, or of a built-in kind -/
theorem ov_bin {op : Operator} {rc : Option Value} (hCs : ∀ k, k < nC → ClsI X.K (c.T.cls k)) (hK : c.K = X.K) (hC : c.T.cls kc = C) (hn1 : ∀ k, k < nC → c.T.cls k = C) (ci : CmpI X c.T nC C) (sf : PySem.W.selfFirst X.K C = true) (hs : PySem.W.findIn X.K (.ref C) (PySem.dunder op.info.2) = some (some (.ref f))) (hf : PySem.W.isFn X.K (.ref f) = true)
    (hr1 : PySem.W.findIn X.K (.ref C) (dunderR op.info.2) = some rc) (hp : rc = none ∨ ∃ g : Addr, rc = some (.ref g)) (hT : ∀ n ∈ tagB, ∃ fo ro, PySem.W.findIn X.K (.type n) (PySem.dunder op.info.2) = some fo ∧ PySem.W.findIn X.K (.type n) (dunderR op.info.2) = some ro)
    (F : FnG gu X.prog X.w X.K X.mg X.base (L2.CX X.prog X.w) k f fd ps (spF c.K c.T 2 fm)) (hr : Rm gu k X.A) (hb : Binds X.K fd ps []) (tk : Takes X W) : OpV X c W (binaryOp op) (ownM nC kc fm) := by
  refine ⟨fun σ v w H Q => rOwn X c W nC kc fm C σ v w H Q ∨ rOwn2 X c W nC kc fm C σ v w H Q, fun pins s σ H x y v u Q I rx ry q => ?_, fun σ O ρ pt H Q x y v w rs rx ry q => own_use hCs hK hC rs rx ry q⟩
  have call1 : ∀ {a : Addr}, x = .ref a → spF c.K c.T 2 fm [x, y] H Q (WE W σ) → v = .ref a → wpAny (model X.prog X.w) X.A (call (.ref f) [.ref a, u]) (PySem.W.CmpBack (EP X pins σ Q)) X.xe s := fun ex sp ev => by
    subst ex ev
    exact wpAny_mono (runSub (E := WE W) F hr rfl hb (passAt tk σ) I (.cons rx (.cons ry .nil)) sp) (fun r s' h => cmpBack h) fun _ _ z => z
  obtain ⟨m, hF⟩ := I.fr
  rcases q with ⟨a, dx, fs, t, e1, ha, ty, ⟨n, hn, et⟩, sp⟩ | ⟨a, dx, fs, b, dy, gs, j, e1, ha, e2, hj, hb2, ty, sp⟩
  · subst e1 et
    cases rx
    obtain ⟨ox, od, J⟩ := inst_at I ha
    obtain ⟨P, Z, p, _⟩ := kit_of I ry ty
    obtain ⟨fo, ro, t1, t2⟩ := hT n hn
    exact own_binT hF I.ok.mod.kin J (Z.ty _ _ I.kIn p) sf hs hf hr1 hp t1 t2 (ci.nb n hn) (call1 rfl sp rfl)
  · subst e1 e2
    cases rx
    cases ry
    obtain ⟨ox, od, J⟩ := inst_at I ha
    obtain ⟨oy, oe, J2⟩ := inst_at I hb2
    refine PySem.W.binop_K hF I.ok.mod.kin J ?_ sf hs hf (call1 rfl sp rfl)
    rw [← hn1 j hj]
    exact J2.type
/-- -x of an own class -/
def unM (kc : Nat) (fm : List D → M D) : D → M D
  | .obj j fs => if j = kc then fm [.obj j fs] else fail
  | _ => fail
def unE (g : D → M D) (f : Slots → M D) : Slots → M D := fun ρ => bnd (f ρ) g
theorem de_negO {a : Expr} {pos : Pos} {fo : Slots → M D} (h : PE X a (dE c W fo)) (hC : c.T.cls kc = C) (hs : PySem.W.findIn X.K (.ref C) "__neg__" = some (some (.ref f))) (hf : PySem.W.isFn X.K (.ref f) = true)
    (F : FnG gu X.prog X.w X.K X.mg X.base (L2.CX X.prog X.w) k f fd ps (spF c.K c.T 1 fm)) (hr : Rm gu k X.A) (hb : Binds X.K fd ps []) (tk : Takes X W) : PE X (.UnaryOp .USub a pos) (dE c W (unE (unM kc fm) fo)) := by
  refine ⟨fun pins s σ H Q I ⟨O, ρ, pt, r, q⟩ => PyProof.Rows.UnaryOp_ (thn (h.run pins s σ H (fun x H1 => ∃ a dx fs, x = .ref a ∧ H1 a = some (.ins C dx fs) ∧ spF c.K c.T 1 fm [x] H1 Q (WE W σ)) I ⟨O, ρ, pt, r, (Wg.bnd q).imp fun z p1 H1 _ s1 qz v rv => ?_⟩) fun v s1 ⟨x, H1, I1, r1, a, dx, fs, e1, ha, sp⟩ => ?_)⟩
  · cases z with
    | obj j fs =>
      simp only [unM] at qz
      by_cases hj : j = kc
      · rw [if_pos hj] at qz
        subst hj
        have sp := spF_of (r.stp s1) (RL.one rv) rfl qz
        simp only [Cy.R, R] at rv
        obtain ⟨a, dx, ws, rfl, ha, _, rl⟩ := rv
        exact ⟨a, dx, _, rfl, by rw [← hC]; exact Hd.le _ _ ha, sp⟩
      · rw [if_neg hj] at qz
        exact qz.elim
    | _ => exact qz.elim
  · subst e1
    cases r1
    obtain ⟨ox, od, J⟩ := inst_at I1 ha
    obtain ⟨m, hF⟩ := I1.fr
    exact PySem.W.ksp_neg hF I1.ok.mod.kin J hs hf (runSub (E := WE W) F hr rfl hb (passAt tk σ) I1 (vs := [.ref a]) (.cons (show RelV (.ref a) (.ref a) from rfl) .nil) sp)
end
end DF

set_option Elab.async false
set_option linter.all false
set_option maxRecDepth 100000
set_option maxHeartbeats 4000000
namespace DF
open PySem L2
/-! ### built-in calls -/
def RBL (c : Cy) (O : List (Nat × Addr)) (H : Hp) : List D → List V → Prop
  | [], vs => vs = []
  | d :: ds, vs => ∃ v ws, vs = v :: ws ∧ RB c O H d v ∧ RBL c O H ds ws
/-- arguments that are looked at alone -/
def dAB (c : Cy) (W : WX) (f : Slots → M (List D)) : TA := fun σ H Q => ∃ O ρ pt, RS c O ρ σ H pt ∧ Wg c W σ H (fun d _ H' => ∀ v, RBL c O H' d v → Q v H') (f ρ pt)
section
variable {X : Cx} {c : Cy} {W : WX} {x : Str} {p pos apos : Pos} {e o : Expr} {es : List Expr} {id T : String} {fa : Slots → M (List D)} {nC : Nat}
theorem RBL.stp {O : List (Nat × Addr)} {ρ : Slots} {σ : L2.St} {H H' : Hp} {pt pt' : Pot} (r : RS c O ρ σ H pt) (st : Stp c.T.tb c.p H H' pt') : ∀ {ds : List D} {vs : List V}, RBL c O H ds vs → RBL c O H' ds vs
  | [], _, h => h
  | _ :: _, _, ⟨v, ws, e, h, hs⟩ => ⟨v, ws, e, h.stp r st, RBL.stp r st hs⟩
theorem dab_nil : PA X [] (dAB c W nilA) := pa_imp pa_nil fun σ H Q ⟨O, ρ, pt, rs, q⟩ => Wg.here q rs.pot [] rfl
theorem dab_cons {f : Slots → M D} {g : Slots → M (List D)} (h : PE X e (dB c W f)) (hs : PA X es (dAB c W g)) (hst : starEach (e :: es) X.env = (false, eval e X.env) :: starEach es X.env := by rfl) : PA X (e :: es) (dAB c W (consA f g)) := by
  refine pa_imp (pa_cons h hs hst) fun σ H Q ⟨O, ρ, pt, r, q⟩ => ?_
  refine ⟨O, ρ, pt, r, (Wg.bnd q).imp fun d p1 H1 _ s1 q v rv => ?_⟩
  have r1 := r.stp s1
  refine ⟨O, ρ, p1, r1, (Wg.bnd q).imp fun ds p2 H2 _ s2 q vs rvs => ?_⟩
  exact Wg.here q s2.pot _ ⟨v, vs, rfl, rv.stp r1 s2, rvs⟩
def CallS (X : Cx) (f : Value) (r : L2.St → List V → Hp → VK → Prop) : Prop := ∀ (pins : List (Addr × Obj)) (s : Shared) (σ : L2.St) (H : Hp) (xs : List V) (us : List Value) (Q : VK),
  Inv X pins σ H s → Vals xs us → r σ xs H Q → wpAny (model X.prog X.w) X.A (call f us) (EP X pins σ Q) X.xe s
theorem calls_of {f : Value} {r : List V → Hp → VK → Prop} (h : CallR X f r) : CallS X f fun _ => r := fun pins s σ H xs us Q => h pins s σ H xs us Q
def CallD (X : Cx) (c : Cy) (W : WX) (f : Value) (g : List D → M D) : Prop := ∃ r, CallS X f r ∧
  ∀ (σ : L2.St) (O : List (Nat × Addr)) (ρ : Slots) (pt : Pot) (H : Hp) (Q : VK) (xs : List D) (vs : List V), RS c O ρ σ H pt → RBL c O H xs vs → Wg c W σ H (fun d _ H' => ∀ v, c.R (Hd (hid c O) H') d v → Q v H') (g xs pt) → r σ vs H Q
/-- .. which makes a new list -/
def CallN (X : Cx) (c : Cy) (W : WX) (f : Value) (g : List D → M (List D)) : Prop := ∃ r, CallS X f r ∧
  ∀ (σ : L2.St) (O : List (Nat × Addr)) (ρ : Slots) (pt p1 : Pot) (H H1 : Hp) (Q : VK) (xs : List D) (vs : List V), RS c O ρ σ H pt → Stp c.T.tb c.p H H1 p1 → RBL c O H1 xs vs →
    Wg c W σ H1 (fun ds _ H' => ∀ l vs, Hd [] H l = none → H' l = some (.lst vs) → c.RL (Hd (l :: hid c O) H') ds vs → Q (.ref l) H') (g xs p1) → r σ vs H1 Q
def orC (g h : List D → M D) : List D → M D := fun x pt => match g x pt with
  | .stuck => h x pt
  | r => r
theorem CallD.or {f : Value} {g h : List D → M D} (a : CallD X c W f g) (b : CallD X c W f h) : CallD X c W f (orC g h) := by
  obtain ⟨r, r1, r2⟩ := a
  obtain ⟨r', r1', r2'⟩ := b
  refine ⟨fun σ vs H Q => r σ vs H Q ∨ r' σ vs H Q, fun pins s σ H xs us Q I rv q => q.elim (r1 pins s σ H xs us Q I rv) (r1' pins s σ H xs us Q I rv), fun σ O ρ pt H Q xs vs rs rx q => ?_⟩
  unfold orC at q
  cases e : g xs pt with
  | stuck =>
    rw [e] at q
    exact .inr (r2' σ O ρ pt H Q xs vs rs rx q)
  | ok d p =>
    rw [e] at q
    exact .inl (r2 σ O ρ pt H Q xs vs rs rx (by rw [e]; exact q))
  | exc k fs p =>
    rw [e] at q
    exact .inl (r2 σ O ρ pt H Q xs vs rs rx (by rw [e]; exact q))
def bltE {α : Type} (g : List D → M α) (fa : Slots → M (List D)) : Slots → M α := fun ρ => bnd (fa ρ) g
theorem de_blt {g : List D → M D} (hc : CallD X c W (.builtin id) g) (hm : X.mg x = none) (hv : bootBuiltins x = some (.builtin id)) (ha : PA X (e :: es) (dAB c W fa)) (hg : Gl X x := by rfl) (hn : x ≠ "__name__" := by decide) (hdb : (x == ("__debug__" : Str)) = false := by decide)
    (he : starEach (e :: es) X.env = (false, eval e X.env) :: starEach es X.env := by rfl) (hpl : (backTo pos (starEach es X.env)).any (·.1) = false := by rfl) : PE X (.Call (.Name x p) (e :: es) [] pos) (dE c W (bltE g fa)) := by
  obtain ⟨r, h1, h2⟩ := hc
  refine ⟨fun pins s σ H Q I ⟨O, ρ, pt, rs, q⟩ => wpAny_Call_Name_kw (ld_blt I hg hm hv (PyProof.Rows.callWith_builtin1 (thn (ha.run pos pins s σ H (fun vs H1 => r σ vs H1 Q) I ⟨O, ρ, pt, rs, (Wg.bnd q).imp fun xs p1 H1 _ s1 q vs rv => ?_⟩) fun us s1 ⟨vs, H1, I1, r1, q1⟩ => h1 pins s1 σ H1 vs us Q I1 r1 q1) he hpl) hn hdb)⟩
  exact h2 σ O ρ p1 H1 Q xs vs (rs.stp s1) rv q
theorem de_blt_ty {g : List D → M D} (hc : CallD X c W (.type T) g) (hm : X.mg x = none) (hv : bootBuiltins x = some (.type T)) (ha : PA X (e :: es) (dAB c W fa)) (hg : Gl X x := by rfl) (hn : x ≠ "__name__" := by decide) (hdb : (x == ("__debug__" : Str)) = false := by decide)
    (he : starEach (e :: es) X.env = (false, eval e X.env) :: starEach es X.env := by rfl) (hpl : (backTo pos (starEach es X.env)).any (·.1) = false := by rfl) : PE X (.Call (.Name x p) (e :: es) [] pos) (dE c W (bltE g fa)) := by
  obtain ⟨r, h1, h2⟩ := hc
  refine ⟨fun pins s σ H Q I ⟨O, ρ, pt, rs, q⟩ => wpAny_Call_Name_kw (ld_blt I hg hm hv (PyProof.Rows.callWith_type1 (thn (ha.run pos pins s σ H (fun vs H1 => r σ vs H1 Q) I ⟨O, ρ, pt, rs, (Wg.bnd q).imp fun xs p1 H1 _ s1 q vs rv => ?_⟩) fun us s1 ⟨vs, H1, I1, r1, q1⟩ => h1 pins s1 σ H1 vs us Q I1 r1 q1) he hpl) hn hdb)⟩
  exact h2 σ O ρ p1 H1 Q xs vs (rs.stp s1) rv q
theorem dl_blt {g : List D → M (List D)} (hc : CallN X c W (.builtin id) g) (hm : X.mg x = none) (hv : bootBuiltins x = some (.builtin id)) (ha : PA X (e :: es) (dAB c W fa)) (hg : Gl X x := by rfl) (hn : x ≠ "__name__" := by decide) (hdb : (x == ("__debug__" : Str)) = false := by decide)
    (he : starEach (e :: es) X.env = (false, eval e X.env) :: starEach es X.env := by rfl) (hpl : (backTo pos (starEach es X.env)).any (·.1) = false := by rfl) : PE X (.Call (.Name x p) (e :: es) [] pos) (dL c W (bltE g fa)) := by
  obtain ⟨r, h1, h2⟩ := hc
  refine ⟨fun pins s σ H Q I ⟨O, ρ, pt, rs, q⟩ => wpAny_Call_Name_kw (ld_blt I hg hm hv (PyProof.Rows.callWith_builtin1 (thn (ha.run pos pins s σ H (fun vs H1 => r σ vs H1 Q) I ⟨O, ρ, pt, rs, (Wg.bnd q).imp fun xs p1 H1 _ s1 q vs rv => ?_⟩) fun us s1 ⟨vs, H1, I1, r1, q1⟩ => h1 pins s1 σ H1 vs us Q I1 r1 q1) he hpl) hn hdb)⟩
  exact h2 σ O ρ pt p1 H H1 Q xs vs rs s1 rv q
theorem dl_blt_ty {g : List D → M (List D)} (hc : CallN X c W (.type T) g) (hm : X.mg x = none) (hv : bootBuiltins x = some (.type T)) (ha : PA X (e :: es) (dAB c W fa)) (hg : Gl X x := by rfl) (hn : x ≠ "__name__" := by decide) (hdb : (x == ("__debug__" : Str)) = false := by decide)
    (he : starEach (e :: es) X.env = (false, eval e X.env) :: starEach es X.env := by rfl) (hpl : (backTo pos (starEach es X.env)).any (·.1) = false := by rfl) : PE X (.Call (.Name x p) (e :: es) [] pos) (dL c W (bltE g fa)) := by
  obtain ⟨r, h1, h2⟩ := hc
  refine ⟨fun pins s σ H Q I ⟨O, ρ, pt, rs, q⟩ => wpAny_Call_Name_kw (ld_blt I hg hm hv (PyProof.Rows.callWith_type1 (thn (ha.run pos pins s σ H (fun vs H1 => r σ vs H1 Q) I ⟨O, ρ, pt, rs, (Wg.bnd q).imp fun xs p1 H1 _ s1 q vs rv => ?_⟩) fun us s1 ⟨vs, H1, I1, r1, q1⟩ => h1 pins s1 σ H1 vs us Q I1 r1 q1) he hpl) hn hdb)⟩
  exact h2 σ O ρ pt p1 H H1 Q xs vs rs s1 rv q
/-- a built-in without effects -/
def pu1 (g : List D → Option D) : List D → M D := fun xs => opt (g xs)
theorem cd_pu {f : Value} {g : List D → Option D} {r : List V → Hp → VK → Prop} (h : CallR X f r)
    (ok : ∀ (O : List (Nat × Addr)) (H : Hp) (xs : List D) (z : D) (vs : List V) (Q : VK), RBL c O H xs vs → g xs = some z → (∀ v', c.R (Hd (hid c O) H) z v' → Q v' H) → r vs H Q) : CallD X c W f (pu1 g) :=
  ⟨_, calls_of h, fun σ O ρ pt H Q xs vs rs rx q => by
    obtain ⟨z, e, q⟩ := Wg.opt q rs.pot
    exact ok O H xs z vs Q rx e q⟩
theorem RBL.one {O : List (Nat × Addr)} {H : Hp} {d : D} {vs : List V} (h : RBL c O H [d] vs) : ∃ v, vs = [v] ∧ RB c O H d v := by
  obtain ⟨v, ws, rfl, h, rfl⟩ := h
  exact ⟨v, rfl, h⟩
theorem RBL.two {O : List (Nat × Addr)} {H : Hp} {d d' : D} {vs : List V} (h : RBL c O H [d, d'] vs) : ∃ v w, vs = [v, w] ∧ RB c O H d v ∧ RB c O H d' w := by
  obtain ⟨v, ws, rfl, h, w, zs, rfl, h', rfl⟩ := h
  exact ⟨v, w, rfl, h, h'⟩
def absF : List D → Option D
  | [.int i] => some (.int (if i < 0 then -i else i))
  | _ => none
theorem cd_abs : CallD X c W (.builtin "abs") (pu1 absF) := cd_pu call_abs fun O H xs z vs Q rx e q => by
  unfold absF at e
  split at e
  · cases e
    obtain ⟨v, rfl, h⟩ := rx.one
    rw [h.int]
    exact ⟨_, rfl, q _ (by simp [Cy.R, R])⟩
  · cases e
def max2F : List D → Option D
  | [.int i, .int j] => some (.int (if j > i then j else i))
  | _ => none
theorem cd_max2 (hc : X.calm = true) : CallD X c W (.builtin "max") (pu1 max2F) := cd_pu (call_max2 hc) fun O H xs z vs Q rx e q => by
  unfold max2F at e
  split at e
  · cases e
    obtain ⟨v, w, rfl, h, h'⟩ := rx.two
    rw [h.int, h'.int]
    exact ⟨_, _, rfl, q _ (by simp [Cy.R, R])⟩
  · cases e
def min2F : List D → Option D
  | [.int i, .int j] => some (.int (if j < i then j else i))
  | _ => none
theorem cd_min2 (hc : X.calm = true) : CallD X c W (.builtin "min") (pu1 min2F) := cd_pu (call_min2 hc) fun O H xs z vs Q rx e q => by
  unfold min2F at e
  split at e
  · cases e
    obtain ⟨v, w, rfl, h, h'⟩ := rx.two
    rw [h.int, h'.int]
    exact ⟨_, _, rfl, q _ (by simp [Cy.R, R])⟩
  · cases e
def intF : List D → Option D
  | [.int i] => some (.int i)
  | [.bl b] => some (.int (if b then 1 else 0))
  | _ => none
theorem cd_int : CallD X c W (.type "int") (pu1 intF) := cd_pu call_int1 fun O H xs z vs Q rx e q => by
  unfold intF at e
  split at e
  · cases e
    obtain ⟨v, rfl, h⟩ := rx.one
    rw [h.int]
    exact .inl ⟨_, rfl, q _ (by simp [Cy.R, R])⟩
  · cases e
    obtain ⟨v, rfl, h⟩ := rx.one
    rw [h.bl]
    exact .inr ⟨_, rfl, q _ (by simp [Cy.R, R])⟩
  · cases e
def strF : List D → Option D
  | [.int i] => if i.natAbs.log2 < 1920 then some (.str (toString i)) else none
  | _ => none
theorem cd_strI : CallD X c W (.type "str") (pu1 strF) := cd_pu call_str_int fun O H xs z vs Q rx e q => by
  unfold strF at e
  split at e
  · split at e
    · rename_i hz
      cases e
      obtain ⟨v, rfl, h⟩ := rx.one
      rw [h.int]
      exact ⟨_, rfl, hz, q _ (by simp [Cy.R, R])⟩
    · cases e
  · cases e
def lenF : List D → Option D
  | [.lst ds] => some (.int ds.length)
  | [.tup ds] => some (.int ds.length)
  | [.str x] => if x.length ≤ 1000000 then some (.int x.length) else none
  | _ => none
theorem cd_len (hK : c.K = X.K := by rfl) : CallD X c W (.builtin "len") (pu1 lenF) := cd_pu call_len fun O H xs z vs Q rx e q => by
  unfold lenF at e
  split at e
  · cases e
    obtain ⟨v, rfl, h⟩ := rx.one
    obtain ⟨a, vs, rfl, ha, rl⟩ := h.lst
    exact ⟨_, _, rfl, .inl ⟨vs, .inl (.inl ha), RL.len rl⟩, q _ (by simp [Cy.R, R])⟩
  · cases e
    obtain ⟨v, rfl, h⟩ := rx.one
    obtain ⟨a, vs, rfl, ha, rl⟩ := h.tup
    exact ⟨_, _, rfl, .inr ⟨vs, by rw [← hK]; exact ha, RL.len rl⟩, q _ (by simp [Cy.R, R])⟩
  · split at e
    · rename_i hz
      cases e
      obtain ⟨v, rfl, h⟩ := rx.one
      rw [h.str]
      exact ⟨_, _, rfl, ⟨Nat.le_trans hz (by decide), rfl⟩, q _ (by simp [Cy.R, R])⟩
    · cases e
  · cases e
/-- isinstance(x, C): the answers by the kind of x -/
def isiE (nC : Nat) (ans : Sum String Nat → Option Bool) (fo : Slots → M D) : Slots → M D := fun ρ => bnd (fo ρ) fun x => opt (((knd nC x).bind ans).map .bl)
theorem de_isi {y : Str} {ce : Expr} {cv : V} {u : Value} {ans : Sum String Nat → Option Bool} {fo : Slots → M D} (hCs : ∀ k, k < nC → ClsI X.K (c.T.cls k)) (ho : PE X e (dB c W fo)) (hce : PE X ce (tC cv)) (hu : ClsV cv u) (ha : ∀ t b, ans t = some b → PySem.W.kitOne X.K (tagV c.T t) u = some b)
    (hm : X.mg y = none) (hv : bootBuiltins y = some (.builtin "isinstance")) (hK : c.K = X.K := by rfl) (hg : Gl X y := by rfl) (hn : y ≠ "__name__" := by decide) (hdb : (y == ("__debug__" : Str)) = false := by decide)
    (he : starEach [e, ce] X.env = (false, eval e X.env) :: starEach [ce] X.env := by rfl) (he2 : starEach [ce] X.env = (false, eval ce X.env) :: starEach [] X.env := by rfl) (hpl : (backTo pos (starEach [ce] X.env)).any (·.1) = false := by rfl) :
    PE X (.Call (.Name y p) [e, ce] [] pos) (dE c W (isiE nC ans fo)) := by
  refine pe_imp (pe_callB call_isi hg hm hv (pa_cons ho (pa_cons hce pa_nil he2) he) hn hdb he hpl) fun σ H Q ⟨O, ρ, pt, r, q⟩ => ⟨O, ρ, pt, r, (Wg.bnd q).imp fun z p1 H1 _ s1 q v rv => ?_⟩
  obtain ⟨d, ed, q⟩ := Wg.opt q s1.pot
  cases ek : knd nC z with
  | none => rw [ek] at ed; cases ed
  | some t =>
    rw [ek] at ed
    simp only [Option.bind_some] at ed
    cases eb : ans t with
    | none => rw [eb] at ed; cases ed
    | some b =>
      rw [eb] at ed
      cases ed
      have ty := tag_ok (nC := nC) hCs hK rv (t := tagV c.T t) (by rw [tag_knd, ek]; rfl)
      exact ⟨v, cv, _, u, b, rfl, hu, ty, ha t b eb, q _ (by simp [Cy.R, R])⟩
/-! ### tuple(..), list(..) -/
def seqOf : List D → Option (List D)
  | [.lst ds] => some ds
  | [.tup ds] => some ds
  | _ => none
def listF : List D → M (List D) := fun xs => opt (seqOf xs)
theorem seq_of {O : List (Nat × Addr)} {H : Hp} {xs ds : List D} {vs : List V} (rx : RBL c O H xs vs) (e : seqOf xs = some ds) : ∃ a ws, vs = [.ref a] ∧ c.RL (Hd (hid c O) H) ds ws ∧ (SqL c.K H a ws ∨ (SqT c.K H a ws ∧ c.R (Hd (hid c O) H) (.tup ds) (.ref a))) := by
  unfold seqOf at e
  split at e
  · cases e
    obtain ⟨v, rfl, h⟩ := rx.one
    obtain ⟨a, vs, rfl, ha, rl⟩ := h.lst
    exact ⟨a, vs, rfl, rl, .inl (.inl (.inl ha))⟩
  · cases e
    obtain ⟨v, rfl, h⟩ := rx.one
    have h' := h.tupR
    obtain ⟨a, vs, rfl, ha, rl⟩ := h.tup
    exact ⟨a, vs, rfl, rl, .inr ⟨ha, h'⟩⟩
  · cases e
theorem cn_list (hK : c.K = X.K := by rfl) : CallN X c W (.type "list") listF := ⟨_, calls_of call_list_of, fun σ O ρ pt p1 H H1 Q xs vs rs s1 rx q => by
  cases e : seqOf xs with
  | none =>
    unfold listF at q
    rw [e] at q
    exact q.elim
  | some ds =>
    unfold listF at q
    rw [e] at q
    obtain ⟨a, ws, rfl, rl, h⟩ := seq_of rx e
    rw [hK] at h
    exact ⟨a, ws, rfl, h.imp id (·.1), fun l hl => new_lst rs s1 rl hl q⟩⟩
def tupF : List D → M D := fun xs => bnd (listF xs) fun ds => ret (.tup ds)
theorem cd_tuple (hK : c.K = X.K := by rfl) : CallD X c W (.type "tuple") tupF := ⟨_, calls_of call_tuple_of, fun σ O ρ pt H Q xs vs rs rx q => by
  cases e : seqOf xs with
  | none =>
    unfold tupF listF at q
    rw [e] at q
    exact q.elim
  | some ds =>
    unfold tupF listF at q
    rw [e] at q
    obtain ⟨a, ws, rfl, rl, h⟩ := seq_of rx e
    rw [hK] at h
    refine ⟨a, ws, rfl, ?_⟩
    rcases h with h | ⟨h, h'⟩
    · exact .inl ⟨h, fun l hl => q _ (Stp.new rs.pot hl) _ (mk_tup rs hl rl)⟩
    · exact .inr ⟨h, Wg.here q rs.pot _ h'⟩⟩
end
end DF

set_option Elab.async false
set_option linter.all false
set_option maxRecDepth 100000
set_option maxHeartbeats 4000000
namespace DF
open PySem L2
/-! ### what is walked -/
/-- the item x that stands for d, in the heap H' behind H: whatever is hidden now, if what stood open at H1 stands open -/
def Yg (c : Cy) (S : List Addr) (H1 H H' : Hp) (d : D) (x : V) : Prop := Gr H H' ∧ ∀ S' : List Addr, Gr (Hd S H1) (Hd S' H) → (∀ a ∈ S', ∃ o, H a = some o ∧ mt o = true) → c.R (Hd S' H') d x
def Yl (c : Cy) (S : List Addr) (J : It) (items : List D) (H1 : Hp) : Prop := ∀ H, (∀ a o, a ∉ S → H1 a = some o → nt o = true → H a = some o) →
  (∀ i d, items[i]? = some d → J.go i H ∧ ∀ x H', J.yld i H x H' → Yg c S H1 H H' d x) ∧ ∀ i, items.length ≤ i → J.stop i H
def dI (c : Cy) (W : WX) (f : Slots → M (List D)) : TI := fun σ H Rk => ∃ O ρ pt, RS c O ρ σ H pt ∧ Wg c W σ H (fun items _ H' => ∀ J, Yl c (hid c O) J items H' → Rk J H') (f ρ pt)
section
variable {X : Cx} {c : Cy} {W : WX} {σ : L2.St} {H H1 H' : Hp} {O : List (Nat × Addr)} {ρ : Slots} {pt pt' : Pot} {e e2 iter tg : Expr} {p pos : Pos}
theorem pi_imp {t t' : TI} (h : PI X tg iter t) (i : ∀ σ H R, t' σ H R → t σ H R) : PI X tg iter t' := ⟨fun pins s σ H R I q => h.run pins s σ H R I (i σ H R q)⟩
theorem pi_or {t t' : TI} (h : PI X tg iter t) (h' : PI X tg iter t') : PI X tg iter (fun σ H R => t σ H R ∨ t' σ H R) := ⟨fun pins s σ H R I q => q.elim (h.run pins s σ H R I) (h'.run pins s σ H R I)⟩
theorem Yg.at {S : List Addr} {d : D} {x : V} (h : c.R (Hd S H1) d x) : Yg c S H1 H H d x := ⟨Gr.refl H, fun S' g _ => R.gr g h⟩
theorem RL.at {K : PySem.W.Frag} {T : Tb} {p : Addr} {ds : List D} {vs : List V} {i : Nat} {d : D} {x : V} (h : RL K T p H ds vs) (e : ds[i]? = some d) (ex : vs[i]? = some x) : R K T p H d x := by
  obtain ⟨v, ev, r⟩ := RL.getD h e
  rw [ex] at ev
  cases ev
  exact r
theorem RL.ix {K : PySem.W.Frag} {T : Tb} {p : Addr} {ds : List D} {vs : List V} {i : Nat} {d : D} (h : RL K T p H ds vs) (e : ds[i]? = some d) : ∃ v, vs[i]? = some v := let ⟨v, ev, _⟩ := RL.getD h e; ⟨v, ev⟩
/-- what stands open is read as before -/
theorem open_l {S : List Addr} {K : PySem.W.Frag} {a : Addr} {vs : List V} (k : ∀ a o, a ∉ S → H1 a = some o → nt o = true → H a = some o) (h : Hd S H1 a = some (.lst vs)) : SqL K H a vs := .inl (.inl (k a _ (Hd.sees h).1 (Hd.sees h).2.1 rfl))
theorem open_t {S : List Addr} {K : PySem.W.Frag} {a : Addr} {vs : List V} (k : ∀ a o, a ∉ S → H1 a = some o → nt o = true → H a = some o) (h : SqT K (Hd S H1) a vs) : SqT K H a vs :=
  Gr.sqt (H := Hd S H1) (fun a o e => k a o (Hd.sees e).1 (Hd.sees e).2.1 (Hd.sees e).2.2) h
/-- two readings of one list -/
theorem sql_same {a : Addr} {xs ys : List V} {K : PySem.W.Frag} (h : H a = some (.lst xs)) (h' : SqL K H a ys) (hK : ∀ o, K.lookup a = some o → H a = none) : xs = ys := by
  rcases h' with (h' | ⟨o, h'⟩) | ⟨o, _, _, h', _⟩
  · rw [h] at h'; cases h'; rfl
  · rw [h] at h'; cases h'
  · rw [hK o h'] at h; cases h
theorem yl_list {S : List Addr} {a : Addr} {ds : List D} {vs : List V} (h : Hd S H1 a = some (.lst vs)) (rl : c.RL (Hd S H1) ds vs) : Yl c S (Itl c.K a) ds H1 := fun H k => by
  have q : SqL c.K H a vs := open_l k h
  refine ⟨fun i d e => ?_, fun i hi => ⟨vs, q, by rw [← RL.len rl]; exact hi⟩⟩
  obtain ⟨v, ev⟩ := RL.ix rl e
  refine ⟨⟨vs, v, q, ev⟩, fun x H' y => ?_⟩
  obtain ⟨e1, y⟩ := y
  subst e1
  exact Yg.at (RL.at rl e (y vs q))
theorem yl_tup {S : List Addr} {a : Addr} {ds : List D} {vs : List V} (h : SqT c.K (Hd S H1) a vs) (rl : c.RL (Hd S H1) ds vs) : Yl c S (Itt c.K a) ds H1 := fun H k => by
  have q : SqT c.K H a vs := open_t k h
  refine ⟨fun i d e => ?_, fun i hi => ⟨vs, q, by rw [← RL.len rl]; exact hi⟩⟩
  obtain ⟨v, ev⟩ := RL.ix rl e
  refine ⟨⟨vs, v, q, ev⟩, fun x H' y => ?_⟩
  obtain ⟨e1, y⟩ := y
  subst e1
  exact Yg.at (RL.at rl e (y vs q))
def chars (x : Str) : List D := x.cps.toList.map fun n => .str ⟨#[n]⟩
theorem yl_str {S : List Addr} {x : Str} : Yl c S (Its x) (chars x) H1 := fun H k => by
  refine ⟨fun i d e => ?_, fun i hi => ?_⟩
  · unfold chars at e
    rw [List.getElem?_map] at e
    cases en : x.cps.toList[i]? with
    | none => rw [en] at e; cases e
    | some n =>
      rw [en] at e
      cases e
      have hi : i < x.cps.size := by simpa using (List.getElem?_eq_some_iff.mp en).1
      refine ⟨hi, fun v H' y => ?_⟩
      obtain ⟨e1, m, em, ev⟩ := y
      subst e1 ev
      have : x.cps.toList[i]? = some m := by simpa using em
      rw [en] at this
      cases this
      exact Yg.at (by simp [Cy.R, R])
  · show x.cps.size ≤ i
    simpa [chars] using hi
theorem yl_range {S : List Addr} {lo : Int} {n : Nat} : Yl c S (Itr lo n) ((List.range n).map fun (k : Nat) => .int (lo + (k : Int))) H1 := fun H k => by
  refine ⟨fun i d e => ?_, fun i hi => ?_⟩
  · rw [List.getElem?_map] at e
    cases en : (List.range n)[i]? with
    | none => rw [en] at e; cases e
    | some m =>
      rw [en] at e
      cases e
      have hi : i < n := by simpa using (List.getElem?_eq_some_iff.mp en).1
      have hm : m = i := by
        rw [List.getElem?_range hi] at en
        cases en; rfl
      subst hm
      refine ⟨hi, fun x H' y => ?_⟩
      obtain ⟨e1, ex⟩ := y
      subst e1 ex
      exact Yg.at (by simp [Cy.R, R])
  · show n ≤ i
    simpa using hi
/-- a new pair -/
theorem Yg.pair {S : List Addr} {T : Addr} {d d' : D} {x y : V} (hT : H T = none) (hx : c.R (Hd S H1) d x) (hy : c.R (Hd S H1) d' y) : Yg c S H1 H (upd H T (.tup [x, y])) (.tup [d, d']) (.ref T) := by
  refine ⟨fun a o e => by rw [upd_ne (ne_of_none e hT)]; exact e, fun S' g hS => ?_⟩
  have nT : T ∉ S' := fun q => by
    obtain ⟨o, e, _⟩ := hS T q
    rw [hT] at e; cases e
  have g2 : Gr (Hd S H1) (Hd S' (upd H T (.tup [x, y]))) := g.trans (Hd.new hT)
  simp only [Cy.R, R]
  exact ⟨T, [x, y], rfl, .inl (.inl (Hd.at_new nT)), RL.cons (R.gr g2 hx) (RL.one (R.gr g2 hy))⟩
def pairs : List D → List D → List D := fun xs ys => List.zipWith (fun x y => .tup [x, y]) xs ys
theorem pairs_at {xs ys : List D} {i : Nat} {d : D} (e : (pairs xs ys)[i]? = some d) : ∃ x y, xs[i]? = some x ∧ ys[i]? = some y ∧ d = .tup [x, y] := by
  unfold pairs at e
  rw [List.getElem?_zipWith] at e
  cases e1 : xs[i]? with
  | none => rw [e1] at e; simp at e
  | some x =>
    cases e2 : ys[i]? with
    | none => rw [e1, e2] at e; simp at e
    | some y =>
      rw [e1, e2] at e
      cases e
      exact ⟨x, y, rfl, rfl, rfl⟩
theorem yl_zip {S : List Addr} {a b : Addr} {ds es : List D} {vs ws : List V} (h : Hd S H1 a = some (.lst vs)) (rl : c.RL (Hd S H1) ds vs) (h' : Hd S H1 b = some (.lst ws)) (rl' : c.RL (Hd S H1) es ws) : Yl c S (Itz c.K a b) (pairs ds es) H1 := fun H k => by
  have q : SqL c.K H a vs := open_l k h
  have q' : SqL c.K H b ws := open_l k h'
  refine ⟨fun i d e => ?_, fun i hi => ⟨vs, ws, q, q', ?_⟩⟩
  · obtain ⟨x, y, ex, ey, rfl⟩ := pairs_at e
    obtain ⟨v, ev⟩ := RL.ix rl ex
    obtain ⟨w, ew⟩ := RL.ix rl' ey
    refine ⟨⟨vs, ws, v, w, q, q', ev, ew⟩, fun z H' yy => ?_⟩
    obtain ⟨T, x1, y1, rfl, hT, rfl, f1, f2⟩ := yy
    exact Yg.pair hT (RL.at rl ex (f1 vs q)) (RL.at rl' ey (f2 ws q'))
  · unfold pairs at hi
    rw [List.length_zipWith, RL.len rl, RL.len rl'] at hi
    omega
theorem yl_zipT {S : List Addr} {a b : Addr} {ds es : List D} {vs ws : List V} (h : SqT c.K (Hd S H1) a vs) (rl : c.RL (Hd S H1) ds vs) (h' : SqT c.K (Hd S H1) b ws) (rl' : c.RL (Hd S H1) es ws) : Yl c S (RZ.ItzT c.K a b) (pairs ds es) H1 := fun H k => by
  have q : SqT c.K H a vs := open_t k h
  have q' : SqT c.K H b ws := open_t k h'
  refine ⟨fun i d e => ?_, fun i hi => ⟨vs, ws, q, q', ?_⟩⟩
  · obtain ⟨x, y, ex, ey, rfl⟩ := pairs_at e
    obtain ⟨v, ev⟩ := RL.ix rl ex
    obtain ⟨w, ew⟩ := RL.ix rl' ey
    refine ⟨⟨vs, ws, v, w, q, q', ev, ew⟩, fun z H' yy => ?_⟩
    obtain ⟨T, x1, y1, rfl, hT, rfl, f1, f2⟩ := yy
    exact Yg.pair hT (RL.at rl ex (f1 vs q)) (RL.at rl' ey (f2 ws q'))
  · unfold pairs at hi
    rw [List.length_zipWith, RL.len rl, RL.len rl'] at hi
    omega
def enums (ds : List D) : List D := pairs ((List.range ds.length).map fun (k : Nat) => .int (k : Int)) ds
theorem yl_enum {S : List Addr} {a : Addr} {ds : List D} {vs : List V} (h : Hd S H1 a = some (.lst vs)) (rl : c.RL (Hd S H1) ds vs) : Yl c S (Ite c.K a) (enums ds) H1 := fun H k => by
  have q : SqL c.K H a vs := open_l k h
  refine ⟨fun i d e => ?_, fun i hi => ⟨vs, q, ?_⟩⟩
  · obtain ⟨x, y, ex, ey, rfl⟩ := pairs_at e
    rw [List.getElem?_map] at ex
    have hi : i < ds.length := (List.getElem?_eq_some_iff.mp ey).1
    rw [List.getElem?_range hi] at ex
    cases ex
    obtain ⟨w, ew⟩ := RL.ix rl ey
    refine ⟨⟨vs, w, q, ew⟩, fun z H' yy => ?_⟩
    obtain ⟨T, x1, rfl, hT, rfl, f1⟩ := yy
    exact Yg.pair hT (by simp [Cy.R, R]) (RL.at rl ey (f1 vs q))
  · unfold enums pairs at hi
    rw [List.length_zipWith, List.length_map, List.length_range, RL.len rl] at hi
    omega
/-- the items of a value -/
def itemsOf : D → Option (List D)
  | .lst ds => some ds
  | .tup ds => some ds
  | .str x => some (chars x)
  | _ => none
def itE (f : Slots → M D) : Slots → M (List D) := fun ρ => bnd (f ρ) fun d => opt (itemsOf d)
theorem di_val {f : Slots → M D} (h : PE X e (dE c W f)) (hK : c.K = X.K := by rfl) : PI X tg e (dI c W (itE f)) := by
  refine pi_imp (pi_or (pi_list h) (pi_or (pi_tup h) (pi_str h))) fun σ H Rk ⟨O, ρ, pt, r, q⟩ => ?_
  have q := Wg.bnd q
  cases e1 : f ρ pt with
  | ok d p1 =>
    cases d with
    | lst ds =>
      refine .inl ⟨O, ρ, pt, r, ?_⟩
      rw [e1] at q ⊢
      intro H1 s1 v rv
      have qq := Wg.here (q H1 s1) s1.pot
      simp only [Cy.R, R] at rv
      obtain ⟨a, vs, rfl, ha, rl⟩ := rv
      refine ⟨a, rfl, ⟨vs, .inl (.inl (Hd.le _ _ ha))⟩, ?_⟩
      rw [← hK]
      exact qq _ (yl_list ha rl)
    | tup ds =>
      refine .inr (.inl ⟨O, ρ, pt, r, ?_⟩)
      rw [e1] at q ⊢
      intro H1 s1 v rv
      have qq := Wg.here (q H1 s1) s1.pot
      simp only [Cy.R, R] at rv
      obtain ⟨a, vs, rfl, ha, rl⟩ := rv
      refine ⟨a, rfl, ⟨vs, by rw [← hK]; exact Hd.le.sqt ha⟩, ?_⟩
      rw [← hK]
      exact qq _ (yl_tup ha rl)
    | str x =>
      refine .inr (.inr ⟨O, ρ, pt, r, ?_⟩)
      rw [e1] at q ⊢
      intro H1 s1 v rv
      have qq := Wg.here (q H1 s1) s1.pot
      exact ⟨x, by simpa [Cy.R, R] using rv, qq _ yl_str⟩
    | _ =>
      rw [e1] at q
      first
        | exact False.elim (q _ (Stp.refl (r.stp ⟨fun a o _ h => h, r.pot⟩).pot))
        | (refine .inl ⟨O, ρ, pt, r, ?_⟩; rw [e1]; intro H1 s1; exact (q H1 s1).elim)
  | exc k fs p1 =>
    refine .inl ⟨O, ρ, pt, r, ?_⟩
    rw [e1] at q ⊢
    exact q
  | stuck =>
    rw [e1] at q
    exact q.elim
/-- range(n), range(a, b) -/
def rng1 : List D → Option (List D)
  | [.int j] => if -(2 ^ 62) ≤ j ∧ j < 2 ^ 62 then some ((List.range j.toNat).map fun (k : Nat) => .int (0 + (k : Int))) else none
  | _ => none
def rng2 : List D → Option (List D)
  | [.int i, .int j] => if -(2 ^ 62) ≤ i ∧ i < 2 ^ 62 ∧ -(2 ^ 62) ≤ j ∧ j < 2 ^ 62 then some ((List.range (j - i).toNat).map fun (k : Nat) => .int (i + (k : Int))) else none
  | _ => none
def itA (g : List D → Option (List D)) (fa : Slots → M (List D)) : Slots → M (List D) := fun ρ => bnd (fa ρ) fun ds => opt (g ds)
theorem di_range1 {fa : Slots → M (List D)} (ha : PA X [e] (dAB c W fa)) (hm : X.mg "range" = none) (hg : Gl X "range" := by rfl) (hs : starEach [e] X.env = [(false, eval e X.env)] := by rfl) : PI X tg (.Call (.Name "range" p) [e] [] pos) (dI c W (itA rng1 fa)) := by
  refine pi_imp (pi_range1 hg hm ha hs) fun σ H Rk ⟨O, ρ, pt, r, q⟩ => ⟨O, ρ, pt, r, (Wg.bnd q).imp fun ds p1 H1 _ s1 q vs rv => ?_⟩
  obtain ⟨items, ei, q⟩ := Wg.opt q s1.pot
  unfold rng1 at ei
  split at ei
  · split at ei
    · rename_i hz
      cases ei
      obtain ⟨v, rfl, h⟩ := rv.one
      rw [h.int]
      exact ⟨_, rfl, hz.1, hz.2, q _ yl_range⟩
    · cases ei
  · cases ei
theorem di_range2 {fa : Slots → M (List D)} (ha : PA X [e, e2] (dAB c W fa)) (hm : X.mg "range" = none) (hg : Gl X "range" := by rfl) (hs : starEach [e, e2] X.env = [(false, eval e X.env), (false, eval e2 X.env)] := by rfl) (hs2 : starEach [e2] X.env = [(false, eval e2 X.env)] := by rfl) :
    PI X tg (.Call (.Name "range" p) [e, e2] [] pos) (dI c W (itA rng2 fa)) := by
  refine pi_imp (pi_range2 hg hm ha hs hs2) fun σ H Rk ⟨O, ρ, pt, r, q⟩ => ⟨O, ρ, pt, r, (Wg.bnd q).imp fun ds p1 H1 _ s1 q vs rv => ?_⟩
  obtain ⟨items, ei, q⟩ := Wg.opt q s1.pot
  unfold rng2 at ei
  split at ei
  · split at ei
    · rename_i hz
      cases ei
      obtain ⟨v, w, rfl, h, h'⟩ := rv.two
      rw [h.int, h'.int]
      exact ⟨_, _, rfl, hz, q _ yl_range⟩
    · cases ei
  · cases ei
/-- zip(xs, ys): two lists, or two tuples -/
def zipA : List D → Option (List D)
  | [.lst xs, .lst ys] => some (pairs xs ys)
  | [.tup xs, .tup ys] => some (pairs xs ys)
  | _ => none
theorem rl_two {K : PySem.W.Frag} {T : Tb} {p : Addr} {H : Hp} {d d' : D} {vs : List V} (h : RL K T p H [d, d'] vs) : ∃ v w, vs = [v, w] ∧ R K T p H d v ∧ R K T p H d' w := by
  simp only [RL] at h
  obtain ⟨v, ws, rfl, h1, w, zs, rfl, h2, rfl⟩ := h
  exact ⟨v, w, rfl, h1, h2⟩
theorem rl_one {K : PySem.W.Frag} {T : Tb} {p : Addr} {H : Hp} {d : D} {vs : List V} (h : RL K T p H [d] vs) : ∃ v, vs = [v] ∧ R K T p H d v := by
  simp only [RL] at h
  obtain ⟨v, ws, rfl, h1, rfl⟩ := h
  exact ⟨v, rfl, h1⟩
theorem di_zip {fa : Slots → M (List D)} {elts : List Expr} {kk : Nat} {tpos : Pos} (ha : PA X [e, e2] (dA c W fa)) (hm : X.mg "zip" = none) (hK : c.K = X.K := by rfl) (hg : Gl X "zip" := by rfl) (hs : starEach [e, e2] X.env = (false, eval e X.env) :: starEach [e2] X.env := by rfl)
    (hpl : (backTo pos (starEach [e2] X.env)).any (·.1) = false := by rfl) : PI X (.Tuple elts kk tpos) (.Call (.Name "zip" p) [e, e2] [] pos) (dI c W (itA zipA fa)) := by
  refine pi_imp (RZ.pi_zipA hg hm ha hs hpl) fun σ H Rk ⟨O, ρ, pt, r, q⟩ => ⟨O, ρ, pt, r, (Wg.bnd q).imp fun ds p1 H1 _ s1 q vs rv => ?_⟩
  obtain ⟨items, ei, q⟩ := Wg.opt q s1.pot
  unfold zipA at ei
  split at ei
  · cases ei
    obtain ⟨v, w, rfl, h1, h2⟩ := rl_two rv
    simp only [R] at h1 h2
    obtain ⟨a, xs, rfl, ha, ra⟩ := h1
    obtain ⟨b, ys, rfl, hb, rb⟩ := h2
    refine ⟨a, b, xs, ys, rfl, .inl ⟨.inl (.inl (Hd.le _ _ ha)), .inl (.inl (Hd.le _ _ hb)), ?_⟩⟩
    rw [← hK]
    exact q _ (yl_zip ha ra hb rb)
  · cases ei
    obtain ⟨v, w, rfl, h1, h2⟩ := rl_two rv
    simp only [R] at h1 h2
    obtain ⟨a, xs, rfl, ha, ra⟩ := h1
    obtain ⟨b, ys, rfl, hb, rb⟩ := h2
    refine ⟨a, b, xs, ys, rfl, .inr ⟨by rw [← hK]; exact Hd.le.sqt ha, by rw [← hK]; exact Hd.le.sqt hb, ?_⟩⟩
    rw [← hK]
    exact q _ (yl_zipT ha ra hb rb)
  · cases ei
def enumA : List D → Option (List D)
  | [.lst xs] => some (enums xs)
  | _ => none
theorem di_enum {fa : Slots → M (List D)} {elts : List Expr} {kk : Nat} {tpos : Pos} (ha : PA X [e] (dA c W fa)) (hm : X.mg "enumerate" = none) (hK : c.K = X.K := by rfl) (hg : Gl X "enumerate" := by rfl) (hs : starEach [e] X.env = [(false, eval e X.env)] := by rfl) :
    PI X (.Tuple elts kk tpos) (.Call (.Name "enumerate" p) [e] [] pos) (dI c W (itA enumA fa)) := by
  refine pi_imp (pi_enum hg hm ha hs) fun σ H Rk ⟨O, ρ, pt, r, q⟩ => ⟨O, ρ, pt, r, (Wg.bnd q).imp fun ds p1 H1 _ s1 q vs rv => ?_⟩
  obtain ⟨items, ei, q⟩ := Wg.opt q s1.pot
  unfold enumA at ei
  split at ei
  · cases ei
    obtain ⟨v, rfl, h1⟩ := rl_one rv
    simp only [R] at h1
    obtain ⟨a, xs, rfl, ha, ra⟩ := h1
    refine ⟨a, xs, rfl, .inl (.inl (Hd.le _ _ ha)), ?_⟩
    rw [← hK]
    exact q _ (yl_enum ha ra)
  · cases ei

/-! ### targets -/
theorem wipe_at {σ : L2.St} {vs : List Nat} {j : Nat} (h : j ∈ vs) : (wipe σ vs)[j]? = if j < σ.length then some none else none := by
  by_cases hl : j < σ.length
  · rw [if_pos hl]
    have hw : j < (wipe σ vs).length := by rw [wipe_length]; exact hl
    cases e : (wipe σ vs)[j]? with
    | none => rw [List.getElem?_eq_none_iff] at e; omega
    | some o =>
      cases o with
      | none => rfl
      | some x => exact absurd h (wipe_some e).2
  · rw [if_neg hl, List.getElem?_eq_none_iff, wipe_length]
    omega
theorem wipe_set {σ : L2.St} {vs : List Nat} {i : Nat} {x : Option V} (h : i ∈ vs) : wipe (σ.set i x) vs = wipe σ vs := by
  apply List.ext_getElem?
  intro j
  by_cases hj : j ∈ vs
  · rw [wipe_at hj, wipe_at hj, List.length_set]
  · rw [wipe_out hj, wipe_out hj, List.getElem?_set_ne (fun e : i = j => hj (e ▸ h))]
/-- a target takes a value -/
def dG (c : Cy) (vs : List Nat) (tgf : D → Slots → Option Slots) : TG := fun v σ H Q => ∃ O ρ pt d ρ', RS c O ρ σ H pt ∧ c.R (Hd (hid c O) H) d v ∧ tgf d ρ = some ρ' ∧ ∀ O' σ', RS c O' ρ' σ' H pt → Mv c O H O' H → wipe σ' vs = wipe σ vs → (∀ q ∈ O, q.1 ∉ vs → q ∈ O') → Q σ' H
def tgN (i : Nat) : D → Slots → Option Slots := fun d ρ => if i < ρ.length then some (ρ.set i (some (.val d))) else none
theorem pg_imp {t t' : TG} (h : PG X tg t) (i : ∀ v σ H Q, t' v σ H Q → t v σ H Q) : PG X tg t' := ⟨fun pins s σ H v u Q I r q => h.run pins s σ H v u Q I r (i v σ H Q q)⟩
theorem dg_name {i : Nat} {x : Str} {vs : List Nat} (hN : X.N.Nodup) (hv : i ∈ vs) (hi : X.N[i]? = some x := by rfl) (hx : Loc X.env.scope x := by first | exact Or.inl rfl | exact Or.inr rfl)
    (hf : X.fn x = true ∨ X.env.scope.names.lookup x = some .local := by first | exact .inl rfl | exact .inr rfl | assumption) : PG X (.Name x pos) (dG c vs (tgN i)) := by
  refine pg_imp (pg_name (i := i) hN hi hx hf) fun v σ H Q ⟨O, ρ, pt, d, ρ', rs, rv, e, q⟩ => ?_
  unfold tgN at e
  split at e
  · rename_i hl
    cases e
    exact q _ _ (rs.put i (by rw [← rs.len]; exact hl) rv) Mv.fewer (wipe_set hv) fun q hq hn => List.mem_filter.mpr ⟨hq, decide_eq_true fun z => hn (z ▸ hv)⟩
  · cases e
def tgs : List (D → Slots → Option Slots) → List D → Slots → Option Slots
  | [], [], ρ => some ρ
  | t :: ts, d :: ds, ρ => (t d ρ).bind (tgs ts ds)
  | _, _, _ => none
def dGs (c : Cy) (vs : List Nat) (ts : List (D → Slots → Option Slots)) : TGs := fun xs σ H Q => ∃ O ρ pt ds ρ', RS c O ρ σ H pt ∧ c.RL (Hd (hid c O) H) ds xs ∧ tgs ts ds ρ = some ρ' ∧ ∀ O' σ', RS c O' ρ' σ' H pt → Mv c O H O' H → wipe σ' vs = wipe σ vs → (∀ q ∈ O, q.1 ∉ vs → q ∈ O') → Q σ' H
theorem pgs_imp {es : List Expr} {t t' : TGs} (h : PGs X es t) (i : ∀ v σ H Q, t' v σ H Q → t v σ H Q) : PGs X es t' := ⟨fun pins s σ H v u Q I r q => h.run pins s σ H v u Q I r (i v σ H Q q)⟩
theorem dgs_nil {vs : List Nat} : PGs X [] (dGs c vs []) := pgs_imp pgs_nil fun xs σ H Q ⟨O, ρ, pt, ds, ρ', rs, rl, e, q⟩ => by
  cases ds with
  | nil =>
    simp only [tgs] at e
    cases e
    exact ⟨by simpa [Cy.RL, RL] using rl, q O σ rs Mv.refl rfl fun q hq _ => hq⟩
  | cons d ds => simp [tgs] at e
theorem dgs_cons {e : Expr} {es : List Expr} {vs : List Nat} {t : D → Slots → Option Slots} {ts : List (D → Slots → Option Slots)} (h : PG X e (dG c vs t)) (hs : PGs X es (dGs c vs ts)) (ha : (assignEach (e :: es) X.env).map (·.2) = assign e X.env :: (assignEach es X.env).map (·.2) := by rfl) : PGs X (e :: es) (dGs c vs (t :: ts)) := by
  refine pgs_imp (pgs_cons h hs ha) fun xs σ H Q ⟨O, ρ, pt, ds, ρ', rs, rl, e, q⟩ => ?_
  cases ds with
  | nil => simp [tgs] at e
  | cons d ds =>
    simp only [Cy.RL, RL] at rl
    obtain ⟨v, ws, rfl, rv, rl⟩ := rl
    simp only [tgs] at e
    cases e1 : t d ρ with
    | none => rw [e1] at e; cases e
    | some ρ1 =>
      rw [e1] at e
      refine ⟨v, ws, rfl, O, ρ, pt, d, ρ1, rs, rv, e1, fun O1 σ1 rs1 mv1 w1 k1 => ?_⟩
      exact ⟨O1, ρ1, pt, ds, ρ', rs1, RL.gr mv1.gr rl, e, fun O2 σ2 rs2 mv2 w2 k2 => q O2 σ2 rs2 (mv1.trans mv2) (w2.trans w1) fun z hz hn => k2 z (k1 z hz hn) hn⟩
def tgT (ts : List (D → Slots → Option Slots)) : D → Slots → Option Slots := fun d ρ => match d with
  | .tup ds => tgs ts ds ρ
  | _ => none
theorem tgs_len : ∀ {ts : List (D → Slots → Option Slots)} {ds : List D} {ρ ρ' : Slots}, tgs ts ds ρ = some ρ' → ds.length = ts.length
  | [], [], _, _, _ => rfl
  | [], _ :: _, _, _, e => by simp [tgs] at e
  | _ :: _, [], _, _, e => by simp [tgs] at e
  | t :: ts, d :: ds, ρ, ρ', e => by
    simp only [tgs] at e
    cases e1 : t d ρ with
    | none => rw [e1] at e; cases e
    | some ρ1 =>
      rw [e1] at e
      simp only [List.length_cons]
      rw [tgs_len (ts := ts) e]
theorem dg_tup {es : List Expr} {kk : Nat} {vs : List Nat} {ts : List (D → Slots → Option Slots)} (hc : X.calm = true) (h : PGs X es (dGs c vs ts)) (hn : (assignEach es X.env).length = ts.length := by rfl) (hst : (assignEach es X.env).findIdx? (·.1) = none := by rfl) (hK : c.K = X.K := by rfl) :
    PG X (.Tuple es kk pos) (dG c vs (tgT ts)) := by
  refine pg_imp (pg_tup hc h hn hst) fun v σ H Q ⟨O, ρ, pt, d, ρ', rs, rv, e, q⟩ => ?_
  cases d with
  | tup ds =>
    simp only [Cy.R, R] at rv
    obtain ⟨a, xs, rfl, ha, rl⟩ := rv
    have le := tgs_len (ts := ts) e
    exact ⟨a, xs, rfl, by rw [← hK]; exact Hd.le.sqt ha, by rw [← RL.len rl]; exact le, O, ρ, pt, ds, ρ', rs, rl, e, q⟩
  | _ => simp [tgT] at e

/-! ### for -/
def forL (tgf : D → Slots → Option Slots) (g : Slots → M Out) : List D → Slots → M Out
  | [], ρ => ret (.nx ρ)
  | d :: ds, ρ => bnd (opt (tgf d ρ)) fun ρ1 => bnd (g ρ1) fun o => match o with
    | .nx ρ2 => forL tgf g ds ρ2
    | .ct ρ2 => forL tgf g ds ρ2
    | .bk ρ2 => ret (.nx ρ2)
    | .rt d => ret (.rt d)
def forS (fi : Slots → M (List D)) (tgf : D → Slots → Option Slots) (g : Slots → M Out) : Slots → M Out := fun ρ => bnd (fi ρ) fun items => forL tgf g items ρ
theorem ds_for {vs : List Nat} {body : List Stmt} {fi : Slots → M (List D)} {tgf : D → Slots → Option Slots} {g : Slots → M Out} (hp : PassesOwn (model X.prog X.w) X.A X.env X.xe) (hc : X.calm = true) (hi : PI X tg iter (dI c W fi)) (hg : PG X tg (dG c vs tgf)) (hb : PSs X body (dS c W g))
    (hs : ∀ x, foldedSetIterable iter X.env x = pure x := by intro _; rfl) : PS X (.For tg iter body [] pos) (dS c W (forS fi tgf g)) := by
  refine ps_imp (ps_for hp hc hi hg hb hs) fun E σ H ⟨O, ρ, pt, r, h⟩ => ⟨O, ρ, pt, r, (WO.bnd r h).imp fun items p1 H1 _ s1 q J yl => ?_⟩
  refine ⟨fun i m σ' H' => m = items.length - i ∧ i ≤ items.length ∧ ∃ O' ρ' pt', RS c O' ρ' σ' H' pt' ∧ Mv c O H1 O' H' ∧ WO c W E O' H' (forL tgf g (items.drop i) ρ' pt'), ⟨_, rfl, Nat.zero_le _, O, ρ, p1, r.stp s1, Mv.refl, q⟩, ?_⟩
  rintro i m σ' H' ⟨rfl, hi, O', ρ', pt', rs, mv, q⟩
  obtain ⟨y1, y2⟩ := yl H' fun a o h e m => (mv a o h e m).2
  by_cases hl : i < items.length
  · refine .inr ?_
    have ed : items[i]? = some items[i] := List.getElem?_eq_getElem hl
    have edr : items.drop i = items[i] :: items.drop (i + 1) := List.drop_eq_getElem_cons hl
    rw [edr] at q
    simp only [forL] at q
    obtain ⟨go, yy⟩ := y1 i _ ed
    refine ⟨go, fun σ2 H2 => ∃ O2 ρ2 pt2, RS c O2 ρ2 σ2 H2 pt2 ∧ Mv c O H1 O2 H2 ∧ WO c W E O2 H2 (forL tgf g (items.drop (i + 1)) ρ2 pt2), fun σ2 H2 ⟨O2, ρ2, pt2, a1, a2, a3⟩ => ⟨items.length - (i + 1), by omega, rfl, hl, O2, ρ2, pt2, a1, a2, a3⟩, fun x H2 y => ?_⟩
    obtain ⟨gr, rx⟩ := yy x H2 y
    have st : Stp c.T.tb c.p H' H2 pt' := Stp.gr_ rs.pot gr
    have rs2 := rs.stp st
    have rx := rx (hid c O') mv.gr fun a h => rs.hidden h
    have q := WO.from (st.mv rs.hp) q
    cases et : tgf items[i] ρ' with
    | none =>
      unfold DF.bnd at q
      rw [et] at q
      exact q.elim
    | some ρ1 =>
      rw [et] at q
      have q : WO c W E O' H2 (bnd (g ρ1) (fun o => match o with | .nx ρ2 => forL tgf g (items.drop (i + 1)) ρ2 | .ct ρ2 => forL tgf g (items.drop (i + 1)) ρ2 | .bk ρ2 => ret (.nx ρ2) | .rt d => ret (.rt d)) pt') := q
      refine ⟨O', ρ', pt', items[i], ρ1, rs2, rx, et, fun O1 σ1 rs1 mv1 _ _ => ⟨O1, ρ1, pt', rs1, ?_⟩⟩
      have q := WO.from mv1 q
      have mv2 : Mv c O H1 O1 H2 := (mv.trans (st.mv rs.hp)).trans mv1
      unfold DF.bnd at q
      cases eg : g ρ1 pt' with
      | ok o p2 =>
        rw [eg] at q
        cases o with
        | nx ρ2 => exact fun O2 σ2 H3 a1 a2 => ⟨O2, ρ2, p2, a1, mv2.trans a2, WO.from a2 q⟩
        | ct ρ2 => exact fun O2 σ2 H3 a1 a2 => ⟨O2, ρ2, p2, a1, mv2.trans a2, WO.from a2 q⟩
        | bk ρ2 => exact fun O2 σ2 H3 a1 a2 => q O2 σ2 H3 a1 a2
        | rt d => exact q
      | exc _ _ _ =>
        rw [eg] at q
        exact q
      | stuck =>
        rw [eg] at q
        exact q
  · have ei : i = items.length := by omega
    subst ei
    rw [List.drop_length] at q
    exact .inl ⟨y2 _ (Nat.le_refl _), q O' σ' H' rs Mv.refl⟩
end
end DF

set_option Elab.async false
set_option linter.all false
set_option maxRecDepth 100000
set_option maxHeartbeats 4000000
namespace DF
open PySem L2
/-! ### list comprehensions -/
def wipeD (ρ : Slots) : List Nat → Slots
  | [] => ρ
  | v :: vs => (wipeD ρ vs).set v none
def noOwn (ρ : Slots) (vs : List Nat) : Bool := vs.all fun i => match ρ[i]? with
  | some (some s) => !isOwn s
  | _ => true
theorem wipeD_len (ρ : Slots) : ∀ vs, (wipeD ρ vs).length = ρ.length
  | [] => rfl
  | v :: vs => by
    show ((wipeD ρ vs).set v none).length = _
    rw [List.length_set, wipeD_len ρ vs]
theorem wipeD_out {ρ : Slots} {j : Nat} : ∀ {vs : List Nat}, j ∉ vs → (wipeD ρ vs)[j]? = ρ[j]?
  | [], _ => rfl
  | v :: vs, h => by
    show ((wipeD ρ vs).set v none)[j]? = _
    rw [List.getElem?_set_ne (fun e : v = j => h (e ▸ List.mem_cons_self)), wipeD_out fun q => h (List.mem_cons_of_mem _ q)]
theorem wipeD_in {ρ : Slots} {j : Nat} {s : SV} : ∀ {vs : List Nat}, j ∈ vs → (wipeD ρ vs)[j]? ≠ some (some s)
  | [], h => nomatch h
  | v :: vs, h => by
    show ((wipeD ρ vs).set v none)[j]? ≠ _
    by_cases e : v = j
    · subst e
      by_cases hl : v < (wipeD ρ vs).length
      · rw [List.getElem?_set_self hl]
        exact fun q => nomatch q
      · rw [List.getElem?_eq_none (by simpa using hl)]
        exact fun q => nomatch q
    · rw [List.getElem?_set_ne e]
      exact wipeD_in ((List.mem_cons.mp h).resolve_left fun q => e q.symm)
section
variable {X : Cx} {c : Cy} {W : WX} {σ : L2.St} {H H1 H' : Hp} {O : List (Nat × Addr)} {ρ : Slots} {pt pt' : Pot} {e e2 iter tg elt : Expr} {p pos : Pos}
theorem own_out (r : RS c O ρ σ H pt) {vs : List Nat} (h : noOwn ρ vs = true) : ∀ q ∈ O, q.1 ∉ vs := fun q hq hv => by
  obtain ⟨s, e, o⟩ := r.ow q hq
  have := List.all_eq_true.mp h q.1 hv
  rw [e] at this
  simp only [o] at this
  cases this
/-- the block of a comprehension: its names forgotten, the new list out of sight -/
theorem RS.blk (r : RS c O ρ σ H pt) {vs : List Nat} (h : noOwn ρ vs = true) {l : Addr} (hl : H l = none) (o : HO) (mo : mt o = true := by rfl) : RS { c with S := l :: c.S } O (wipeD ρ vs) (wipe σ vs) (upd H l o) pt := by
  have st : Stp c.T.tb c.p H (upd H l o) pt := Stp.new r.pot hl
  have g : Gr (Hd (hid c O) H) (Hd (hid { c with S := l :: c.S } O) (upd H l o)) := fun a u e => by
    obtain ⟨h1, h2, h3⟩ := Hd.sees e
    have na : a ≠ l := ne_of_none h2 hl
    have nm : a ∉ hid { c with S := l :: c.S } O := fun q => (List.mem_cons.mp (show a ∈ l :: (c.S ++ O.map (·.2)) from q)).elim na h1
    exact Hd.out nm (by rw [upd_ne na]; exact h2) h3
  have lo : ∀ q ∈ O, q.2 ≠ l := fun q hq e => by
    obtain ⟨_, _, _, u, h3, _⟩ := r.new q hq
    rw [e, hl] at h3; cases h3
  refine ⟨st.pot, fun a u n e m => st.keep a u n (r.ext a u n e m) m, List.mem_cons_of_mem _ r.hp, fun a ha => ?_, fun q hq => ?_, r.nd, r.nf, by rw [wipeD_len, wipe_length]; exact r.len, fun q hq => ?_, fun j s hj => ?_⟩
  · rcases List.mem_cons.mp ha with e | ha
    · exact ⟨o, by rw [e, upd_same], mo⟩
    · obtain ⟨u, e, mu⟩ := r.hS a ha
      exact ⟨u, by rw [upd_ne (ne_of_none e hl)]; exact e, mu⟩
  · obtain ⟨h1, h2, h3, u, h4, mu⟩ := r.new q hq
    exact ⟨h1, h2, fun z => (List.mem_cons.mp z).elim (lo q hq) h3, u, by rw [upd_ne (lo q hq)]; exact h4, mu⟩
  · obtain ⟨s, e, ho⟩ := r.ow q hq
    exact ⟨s, by rw [wipeD_out (own_out r h q hq)]; exact e, ho⟩
  · by_cases hv : j ∈ vs
    · exact absurd hj (wipeD_in hv)
    · rw [wipeD_out hv] at hj
      rw [wipe_out hv]
      have q := r.sl j s hj
      have st' : ∀ {a : Addr} {u : HO}, (j, a) ∈ O → H a = some u → upd H l o a = some u := fun m e => by rw [upd_ne (ne_of_none e hl)]; exact e
      cases s with
      | val d =>
        obtain ⟨v, e, r⟩ := q
        exact ⟨v, e, R.gr g r⟩
      | own ds =>
        obtain ⟨a, vs, m, e, q, r⟩ := q
        exact ⟨a, vs, m, e, st' m q, RL.gr g r⟩
      | ownd ds =>
        obtain ⟨a, vs, m, e, q, r⟩ := q
        exact ⟨a, vs, m, e, st' m q, RK.gr g r⟩
      | slf k fs =>
        obtain ⟨a, dx, vs, m, em, e, q, l, r⟩ := q
        exact ⟨a, dx, vs, m, em, e, st' m q, l, RL.gr g r⟩
      | exv e fs => exact ⟨q.1, Xv.gr g q.2⟩
      | lam => exact ⟨q.1, g _ _ q.2⟩
      | raw v => exact q
theorem wipe_wipe (σ : L2.St) (vs : List Nat) : wipe (wipe σ vs) vs = wipe σ vs := by
  apply List.ext_getElem?
  intro j
  by_cases hj : j ∈ vs
  · rw [wipe_at hj, wipe_at hj, wipe_length]
  · rw [wipe_out hj]
/-- a hidden thing changes -/
theorem RS.poke (r : RS c O ρ σ H pt) {l : Addr} {o : HO} (hl : l ∈ c.S) (lp : l ≠ c.p) (h0 : Hd [] c.H0 l = none) (mo : mt o = true := by rfl) : RS c O ρ σ (upd H l o) pt := by
  have lin : l ∈ hid c O := List.mem_append_left _ hl
  have g : Gr (Hd (hid c O) H) (Hd (hid c O) (upd H l o)) := fun a u ea => by
    obtain ⟨h1, h2, h3⟩ := Hd.sees ea
    exact Hd.out h1 (by rw [upd_ne (fun z : a = l => h1 (z ▸ lin))]; exact h2) h3
  obtain ⟨u0, e0, m0⟩ := r.hidden lin
  have lo : ∀ q ∈ O, q.2 ≠ l := fun q hq e => (r.new q hq).2.2.1 (e ▸ hl)
  refine ⟨r.pot.upd (Ne.symm lp) e0 m0, fun a u n e nn => ?_, r.hp, fun a ha => ?_, fun q hq => ?_, r.nd, r.nf, r.len, r.ow, fun j s hj => ?_⟩
  · rw [upd_ne (Hd.ne e nn h0)]
    exact r.ext a u n e nn
  · by_cases z : a = l
    · exact ⟨o, by rw [z, upd_same], mo⟩
    · obtain ⟨u, e, mu⟩ := r.hS a ha
      exact ⟨u, by rw [upd_ne z]; exact e, mu⟩
  · obtain ⟨h1, h2, h3, u, h4, mu⟩ := r.new q hq
    exact ⟨h1, h2, h3, u, by rw [upd_ne (lo q hq)]; exact h4, mu⟩
  · have q := r.sl j s hj
    have st' : ∀ {a : Addr} {u : HO}, (j, a) ∈ O → H a = some u → upd H l o a = some u := fun m e => by rw [upd_ne (lo _ m)]; exact e
    cases s with
    | val d =>
      obtain ⟨v, e, r⟩ := q
      exact ⟨v, e, R.gr g r⟩
    | own ds =>
      obtain ⟨a, vs, m, e, q, r⟩ := q
      exact ⟨a, vs, m, e, st' m q, RL.gr g r⟩
    | ownd ds =>
      obtain ⟨a, vs, m, e, q, r⟩ := q
      exact ⟨a, vs, m, e, st' m q, RK.gr g r⟩
    | slf k fs =>
      obtain ⟨a, dx, vs, m, em, e, q, l, r⟩ := q
      exact ⟨a, dx, vs, m, em, e, st' m q, l, RL.gr g r⟩
    | exv e fs => exact ⟨q.1, Xv.gr g q.2⟩
    | lam => exact ⟨q.1, g _ _ q.2⟩
    | raw v => exact q
def compL (tgf : D → Slots → Option Slots) (t : Slots → M Bool) (f : Slots → M D) (ρ : Slots) : List D → List D → M (List D)
  | [], acc => ret acc
  | d :: ds, acc => bnd (opt (tgf d ρ)) fun ρ1 => bnd (noX (t ρ1)) fun b => if b then bnd (noX (f ρ1)) fun y => (if acc.length < 100000 then compL tgf t f ρ ds (acc ++ [y]) else fail) else compL tgf t f ρ ds acc
def compE (fi : Slots → M (List D)) (vs : List Nat) (tgf : D → Slots → Option Slots) (t : Slots → M Bool) (f : Slots → M D) : Slots → M (List D) := fun ρ => bnd (fi ρ) fun items => if noOwn ρ vs then compL tgf t f (wipeD ρ vs) items [] else fail
abbrev W0 : WX := fun _ _ _ _ => False
def yesT : Slots → M Bool := fun _ => ret true
theorem pts_ex {ifs : List Expr} {ι : Type} {t : ι → TT} (h : ∀ i, PTs X ifs (t i)) : PTs X ifs (fun σ H Q => ∃ i, t i σ H Q) := ⟨fun pins s σ H Q I ⟨i, q⟩ => (h i).run pins s σ H Q I q⟩
theorem pe_ex {ι : Type} {t : ι → TE} (h : ∀ i, PE X e (t i)) : PE X e (fun σ H Q => ∃ i, t i σ H Q) := ⟨fun pins s σ H Q I ⟨i, q⟩ => (h i).run pins s σ H Q I q⟩
theorem pg_ex {ι : Type} {t : ι → TG} (h : ∀ i, PG X e (t i)) : PG X e (fun v σ H Q => ∃ i, t i v σ H Q) := ⟨fun pins s σ H v u Q I r ⟨i, q⟩ => (h i).run pins s σ H v u Q I r q⟩
theorem dts_nil : PTs X [] (dT c W yesT) := ⟨fun pins s σ H Q I ⟨O, ρ, pt, r, q⟩ => pts_nil.run pins s σ H Q I (Wg.here q r.pot)⟩
theorem dts_one {a : Expr} {t : Slots → M Bool} (h : PT X a (dT c W t)) : PTs X [a] (dT c W t) := pts_one h
/-- an outcome without exceptions, for a part that may raise none -/
theorem Wg.nox {α : Type} {W W' : WX} {P : α → Pot → Hp → Prop} {m : M α} {pt : Pot} (h : Wg c W σ H P (noX m pt)) : Wg c W' σ H P (m pt) := by
  unfold noX at h
  cases e : m pt with
  | ok a q => rw [e] at h; exact h
  | exc _ _ _ => rw [e] at h; exact h.elim
  | stuck => rw [e] at h; exact h.elim
theorem comp_use {vs : List Nat} {fi : Slots → M (List D)} {tgf : D → Slots → Option Slots} {t : Slots → M Bool} {f : Slots → M D} {Q : VK} (h : dL c W (compE fi vs tgf t f) σ H Q) :
    tLc (dI c W fi) (fun v σ H Q => ∃ l : Addr, dG { c with S := l :: c.S } vs tgf v σ H Q) (fun σ H Q => ∃ l : Addr, dT { c with S := l :: c.S } W0 t σ H Q) (fun σ H Q => ∃ l : Addr, dE { c with S := l :: c.S } W0 f σ H Q) vs σ H Q := by
  obtain ⟨O, ρ, pt, r, h⟩ := h
  refine ⟨O, ρ, pt, r, ?_⟩
  unfold compE DF.bnd at h
  cases e : fi ρ pt with
  | exc _ _ _ => rw [e] at h; exact h
  | stuck => rw [e] at h; exact h
  | ok items p1 =>
    rw [e] at h
    intro H1 s1 J yl l hl
    simp only at h
    by_cases hn : noOwn ρ vs = true
    · rw [if_pos hn] at h
      have hl0 : Hd [] H l = none := by
        cases e2 : Hd [] H l with
        | none => rfl
        | some o =>
          obtain ⟨_, e2, n2⟩ := Hd.sees e2
          by_cases el : l = c.p
          · rw [el, s1.pot.at_] at hl; cases hl
          · rw [s1.keep l o el e2 n2] at hl; cases hl
      have r1 := r.stp s1
      have lh : l ∉ hid c O := r1.fresh hl
      have rb := r1.blk hn hl (.lst [])
      let c' : Cy := { c with S := l :: c.S }
      have hidE : ∀ a, a ∈ hid c' O ↔ a ∈ l :: hid c O := fun a => Iff.rfl
      refine ⟨fun i m H2 => m = items.length - i ∧ i ≤ items.length ∧ ∃ acc vacc p2, RS c' O (wipeD ρ vs) (wipe σ vs) H2 p2 ∧ Stp c.T.tb c.p H1 H2 p2 ∧ H2 l = some (.lst vacc) ∧ c.RL (Hd (hid c' O) H2) acc vacc ∧
        Wg c W σ H (fun ds _ H' => ∀ l vs, Hd [] H l = none → H' l = some (.lst vs) → c.RL (Hd (l :: hid c O) H') ds vs → Q (.ref l) H') (compL tgf t f (wipeD ρ vs) (items.drop i) acc p2),
        ⟨_, rfl, Nat.zero_le _, [], [], p1, rb, Stp.new s1.pot hl, upd_same, RL.nil, h⟩, ?_⟩
      rintro i m H2 ⟨rfl, hi, acc, vacc, p2, rs, st, hlv, rl, q⟩
      obtain ⟨y1, y2⟩ := yl H2 fun a o ha ea m => st.keep a o (fun z => ha (z ▸ r.pm)) ea m
      by_cases hlt : i < items.length
      · refine .inr ?_
        have ed : items[i]? = some items[i] := List.getElem?_eq_getElem hlt
        have edr : items.drop i = items[i] :: items.drop (i + 1) := List.drop_eq_getElem_cons hlt
        rw [edr] at q
        simp only [compL] at q
        obtain ⟨go, yy⟩ := y1 i _ ed
        refine ⟨go, fun H3 => ∃ acc vacc p3, RS c' O (wipeD ρ vs) (wipe σ vs) H3 p3 ∧ Stp c.T.tb c.p H1 H3 p3 ∧ H3 l = some (.lst vacc) ∧ c.RL (Hd (hid c' O) H3) acc vacc ∧
          Wg c W σ H (fun ds _ H' => ∀ l vs, Hd [] H l = none → H' l = some (.lst vs) → c.RL (Hd (l :: hid c O) H') ds vs → Q (.ref l) H') (compL tgf t f (wipeD ρ vs) (items.drop (i + 1)) acc p3),
          fun H3 ⟨acc, vacc, p3, a1, a2, a3, a4, a5⟩ => ⟨items.length - (i + 1), by omega, rfl, hlt, acc, vacc, p3, a1, a2, a3, a4, a5⟩, fun x H3 y => ?_⟩
        obtain ⟨gr, rx⟩ := yy x H3 y
        have st3 : Stp c.T.tb c.p H2 H3 p2 := Stp.gr_ rs.pot gr
        have rs3 : RS c' O (wipeD ρ vs) (wipe σ vs) H3 p2 := rs.stp st3
        have gro : Gr (Hd (hid c O) H1) (Hd (hid c' O) H2) := fun a o ea => by
          obtain ⟨h1, h2, h3⟩ := Hd.sees ea
          have na : a ≠ l := ne_of_none h2 hl
          exact Hd.out (fun z => (List.mem_cons.mp ((hidE a).mp z)).elim na h1) (st.keep a o (fun z => h1 (z ▸ r.pm)) h2 h3) h3
        have rx := rx (hid c' O) gro fun a ha => rs.hidden ha
        cases et : tgf items[i] (wipeD ρ vs) with
        | none =>
          unfold DF.bnd at q
          rw [et] at q
          exact q.elim
        | some ρ1 =>
          rw [et] at q
          have q : Wg c W σ H (fun ds _ H' => ∀ l vs, Hd [] H l = none → H' l = some (.lst vs) → c.RL (Hd (l :: hid c O) H') ds vs → Q (.ref l) H') (bnd (noX (t ρ1)) (fun b => if b then bnd (noX (f ρ1)) fun y => (if acc.length < 100000 then compL tgf t f (wipeD ρ vs) (items.drop (i + 1)) (acc ++ [y]) else fail) else compL tgf t f (wipeD ρ vs) (items.drop (i + 1)) acc) p2) := q
          refine ⟨l, O, wipeD ρ vs, p2, items[i], ρ1, rs3, rx, et, fun O1 σ1 rs1 mv1 w1 k1 => ⟨w1.trans (wipe_wipe σ vs), l, O1, ρ1, p2, rs1, ?_⟩⟩
          unfold DF.bnd noX at q
          cases eb : t ρ1 p2 with
          | exc _ _ _ => rw [eb] at q; exact q.elim
          | stuck => rw [eb] at q; exact q.elim
          | ok b p3 =>
            rw [eb] at q
            intro H4 st4
            have stA : Stp c.T.tb c.p H1 H4 p3 := (st.trans st3).trans st4
            cases b with
            | false =>
              refine ⟨acc, vacc, p3, rs3.stp st4, stA, ?_, ?_, q⟩
              · exact st4.keep _ _ (fun z => lh (z ▸ r.pm)) (gr _ _ hlv)
              · exact RL.gr (st4.gr rs.pm) (RL.gr (st3.gr rs.pm) rl)
            | true =>
              refine ⟨l, O1, ρ1, p3, rs1.stp st4, ?_⟩
              simp only [if_true] at q
              cases ef : f ρ1 p3 with
              | exc _ _ _ => rw [ef] at q; exact q.elim
              | stuck => rw [ef] at q; exact q.elim
              | ok yd p4 =>
                rw [ef] at q
                intro H5 st5 yv ry
                simp only at q
                by_cases ha : acc.length < 100000
                · rw [if_pos ha] at q
                  have st45 : Stp c.T.tb c.p H3 H5 p4 := st4.trans st5
                  have rs5 : RS c' O (wipeD ρ vs) (wipe σ vs) H5 p4 := rs3.stp st45
                  have hl5 : H5 l = some (.lst vacc) := st45.keep _ _ (fun z => lh (z ▸ r.pm)) (gr _ _ hlv)
                  have rl5 : c.RL (Hd (hid c' O) H5) acc vacc := RL.gr (st45.gr rs.pm) (RL.gr (st3.gr rs.pm) rl)
                  have sub : ∀ a ∈ hid c' O, a ∈ hid c' O1 := fun a ha => by
                    rcases List.mem_append.mp ha with ha | ha
                    · exact List.mem_append_left _ ha
                    · obtain ⟨z, hz, ez⟩ := List.mem_map.mp ha
                      exact List.mem_append_right _ (List.mem_map.mpr ⟨z, k1 z hz (own_out r hn z hz), ez⟩)
                  have ry5 : c.R (Hd (hid c' O) H5) yd yv := R.gr (Hd.sub sub) ry
                  have lin : l ∈ hid c' O := List.mem_cons_self
                  have grU : Gr (Hd (hid c' O) H5) (Hd (hid c' O) (upd H5 l (.lst (vacc ++ [yv])))) := fun a o ea => by
                    obtain ⟨h1, h2, h3⟩ := Hd.sees ea
                    exact Hd.out h1 (by rw [upd_ne (fun z : a = l => h1 (z ▸ lin))]; exact h2) h3
                  have lp : c.p ≠ l := fun z => lh (z ▸ r.pm)
                  have l0 : Hd [] c.H0 l = none := by
                    cases e0 : Hd [] c.H0 l with
                    | none => rfl
                    | some o =>
                      obtain ⟨_, e0, n0⟩ := Hd.sees e0
                      exact absurd rfl (Hd.ne (r.ext l o (Ne.symm lp) e0 n0) n0 hl0)
                  refine ⟨vacc, hl5, Nat.lt_of_lt_of_le (by rw [← RL.len rl]; exact ha) (by decide), acc ++ [yd], vacc ++ [yv], p4, rs5.poke List.mem_cons_self (Ne.symm lp) l0, ?_, upd_same, RL.app (RL.gr grU rl5) (RL.one (R.gr grU ry5)), q⟩
                  exact ⟨fun a o n ea m => by
                    rw [upd_ne (ne_of_none ea hl)]
                    exact (st.trans (st3.trans st45)).keep a o n ea m, st45.pot.upd lp hl5 rfl⟩
                · rw [if_neg ha] at q
                  exact q.elim
      · have ei : i = items.length := by omega
        subst ei
        rw [List.drop_length] at q
        refine .inl ⟨y2 _ (Nat.le_refl _), ?_⟩
        exact q H2 (s1.trans st) l vacc hl0 hlv rl
    · rw [if_neg hn] at h
      exact h.elim
end
end DF

set_option Elab.async false
set_option linter.all false
set_option maxRecDepth 100000
set_option maxHeartbeats 4000000
namespace DF
open PySem L2
section
variable {X : Cx} {c : Cy} {W : WX} {σ : L2.St} {H H1 H' : Hp} {O : List (Nat × Addr)} {ρ : Slots} {pt pt' : Pot} {e e2 iter tg elt a b o : Expr} {p pos apos cpos : Pos}
theorem ds_asg_of {i : Nat} {st : Stmt} {f : Slots → M D} (h : PS X st (tAsg (dE c W f) (gName i))) : PS X st (dS c W (asgS i f)) := by
  refine ps_imp h fun E σ H ⟨O, ρ, pt, r, h⟩ => ⟨O, ρ, pt, r, (WO.bnd r h).imp fun d p1 H1 _ s1 q v rv => ?_⟩
  by_cases hl : i < ρ.length
  · rw [if_pos hl] at q
    exact q _ _ _ ((r.stp s1).put i (by rw [← r.len]; exact hl) rv) Mv.fewer
  · rw [if_neg hl] at q
    exact q.elim
theorem ds_asgL_of {i : Nat} {st : Stmt} {f : Slots → M (List D)} (h : PS X st (tAsg (dL c W f) (gName i))) : PS X st (dS c W (asgL i f)) := by
  refine ps_imp h fun E σ H ⟨O, ρ, pt, r, h⟩ => ⟨O, ρ, pt, r, ?_⟩
  unfold asgL DF.bnd at h
  cases e : f ρ pt with
  | ok ds p1 =>
    rw [e] at h
    intro H1 s1 l vs hl h1 rl
    simp only at h
    by_cases hz : i < ρ.length
    · rw [if_pos hz] at h
      obtain ⟨rs, mv⟩ := r.putOwn s1 i (by rw [← r.len]; exact hz) hl h1 rl
      exact h _ _ _ rs mv
    · rw [if_neg hz] at h
      exact h.elim
  | exc _ _ _ =>
    rw [e] at h
    exact fun cls dd H' st x => h cls dd σ H' (Fin.of_stp r st) x
  | stuck =>
    rw [e] at h
    exact h
theorem tAsg_imp {st : Stmt} {t t' : TE} {i : Nat} (h : PS X st (tAsg t (gName i))) (k : ∀ σ H Q, t' σ H Q → t σ H Q) : PS X st (tAsg t' (gName i)) := ps_imp h fun E σ H q => k σ H _ q
/-- a new list, kept -/
theorem box_use {f : Slots → M (List D)} {Q : VK} (h : dE c W (boxE f) σ H Q) : dL c W f σ H Q := by
  obtain ⟨O, ρ, pt, r, q⟩ := h
  refine ⟨O, ρ, pt, r, (Wg.bnd q).imp fun ds p1 H1 _ s1 q l vs hl h1 rl => ?_⟩
  refine Wg.here q s1.pot _ ?_
  simp only [Cy.R, R]
  refine ⟨l, vs, rfl, ?_, RL.gr (Hd.sub fun a h => List.mem_cons_of_mem _ h) rl⟩
  exact Hd.out (r.freshF hl) h1
/-! ### comprehensions -/
theorem dl_lc {ifs : List Expr} {scope : Scope} {own : List (Str × Nat)} {fi : Slots → M (List D)} {tgf : D → Slots → Option Slots} {t : Slots → M Bool} {f : Slots → M D} (hc : X.calm = true) (hN : X.N.Nodup) (hi : PI X tg iter (dI c W fi)) (ok : BlkOk X.N X.env.scope scope own)
    (hg : ∀ (l : Addr) (s : Shared) (H : Hp) (C : Addr) (cl : List (Str × Addr)) (fp : List Addr), PG (X.blk s H scope (compEnvC scope cl C X.env) fp) tg (dG { c with S := l :: c.S } (own.map (·.2)) tgf))
    (ht : ∀ (l : Addr) (s : Shared) (H : Hp) (C : Addr) (cl : List (Str × Addr)) (fp : List Addr), PTs (X.blk s H scope (compEnvC scope cl C X.env) fp) ifs (dT { c with S := l :: c.S } W0 t))
    (he : ∀ (l : Addr) (s : Shared) (H : Hp) (C : Addr) (cl : List (Str × Addr)) (fp : List Addr), PE (X.blk s H scope (compEnvC scope cl C X.env) fp) elt (dE { c with S := l :: c.S } W0 f))
    (hs : ∀ x, foldedSetIterable iter X.env x = pure x := by intro _; rfl) : PE X (.ListComp elt [⟨tg, iter, ifs, 0⟩] scope pos) (dL c W (compE fi (own.map (·.2)) tgf t f)) :=
  pe_imp (pe_lc hc hN hi ok (fun s H C cl fp => pg_ex fun l => hg l s H C cl fp) (fun s H C cl fp => pts_ex fun l => ht l s H C cl fp) (fun s H C cl fp => pe_ex fun l => he l s H C cl fp) hs) fun σ H Q h => comp_use h
theorem ps_lc {i : Nat} {y : Str} {py spos : Pos} {ifs : List Expr} {scope : Scope} {own : List (Str × Nat)} {fi : Slots → M (List D)} {tgf : D → Slots → Option Slots} {t : Slots → M Bool} {f : Slots → M D} (hc : X.calm = true) (hN : X.N.Nodup) (hy : X.N[i]? = some y) (hyl : X.env.scope.names.lookup y = some .local)
    (hsw : swapsWith (.ListComp elt [⟨tg, iter, ifs, 0⟩] scope pos) (some (.Name y py)) spos.line X.env = pure true) (hi : PI X tg iter (dI c W fi)) (ok : BlkOk X.N X.env.scope scope own)
    (hg : ∀ (l : Addr) (s : Shared) (H : Hp) (C : Addr) (cl : List (Str × Addr)) (fp : List Addr), PG (X.blk s H scope (compEnvC scope cl C X.env) fp) tg (dG { c with S := l :: c.S } (own.map (·.2)) tgf))
    (ht : ∀ (l : Addr) (s : Shared) (H : Hp) (C : Addr) (cl : List (Str × Addr)) (fp : List Addr), PTs (X.blk s H scope (compEnvC scope cl C X.env) fp) ifs (dT { c with S := l :: c.S } W0 t))
    (he : ∀ (l : Addr) (s : Shared) (H : Hp) (C : Addr) (cl : List (Str × Addr)) (fp : List Addr), PE (X.blk s H scope (compEnvC scope cl C X.env) fp) elt (dE { c with S := l :: c.S } W0 f))
    (hs : ∀ x, foldedSetIterable iter X.env x = pure x := by intro _; rfl) : PS X (.Assign [.Name y py] (.ListComp elt [⟨tg, iter, ifs, 0⟩] scope pos) spos) (tAsg (dL c W (compE fi (own.map (·.2)) tgf t f)) (gName i)) :=
  tAsg_imp (ps_setLc hc hN hy hyl hsw hi ok (fun s H C cl fp => pg_ex fun l => hg l s H C cl fp) (fun s H C cl fp => pts_ex fun l => ht l s H C cl fp) (fun s H C cl fp => pe_ex fun l => he l s H C cl fp) hs) fun σ H Q h => comp_use h
theorem ds_box {st : Stmt} {i : Nat} {f : Slots → M (List D)} (h : PS X st (tAsg (dL c W f) (gName i))) : PS X st (dS c W (asgS i (boxE f))) := ds_asg_of (tAsg_imp h fun σ H Q q => box_use q)

/-! ### subscripts -/
def ixD : D → D → Option D
  | .lst ds, .int i => atI ds i
  | .tup ds, .int i => atI ds i
  | .str x, .int i => if x.length ≤ 1000000 then (atI x.cps.toList i).map fun n => .str ⟨#[n]⟩ else none
  | _, _ => none
def ixM : D → D → M D := fun x y pt => match x, y with
  | .pot, .int 0 => .ok (.int pt.1) pt
  | .pot, .int 1 => .ok (.int pt.2) pt
  | x, y => opt (ixD x y) pt
theorem ixr_or {r r' : R2} (h : IxR X r) (h' : IxR X r') : IxR X (fun x y H Q => r x y H Q ∨ r' x y H Q) := by
  intro va sl pins s σ H x y v u Q I rx ry q hs
  rcases q with q | q
  · exact h va sl pins s σ H x y v u Q I rx ry q hs
  · exact h' va sl pins s σ H x y v u Q I rx ry q hs
theorem atI_rl {K : PySem.W.Frag} {T : Tb} {p : Addr} {ds : List D} {vs : List V} {i : Int} {d : D} (h : RL K T p H ds vs) (e : atI ds i = some d) : ∃ v, atI vs i = some v ∧ R K T p H d v := by
  unfold atI at e ⊢
  rw [← RL.len h]
  cases en : ixN ds.length i with
  | none => rw [en] at e; cases e
  | some j =>
    rw [en] at e
    simp only [Option.bind_some] at e ⊢
    exact RL.getD h e
theorem pot_read (r : RS c O ρ σ H pt) {v : V} (h : RB c O H .pot v) : v = .ref c.p := by
  rcases h with h | ⟨_, _, _, _, e, _⟩ | ⟨_, _, _, _, e, _⟩
  · simpa [Cy.R, R] using h
  · cases e
  · cases e
theorem ixM_ok {x y : D} {v w : V} {Q : VK} (hK : c.K = X.K) (rs : RS c O ρ σ H pt) (rx : RB c O H x v) (ry : RB c O H y w) (q : Wg c W σ H (fun d _ H' => ∀ v, c.R (Hd (hid c O) H') d v → Q v H') (ixM x y pt)) :
    rIxL X.K v w H Q ∨ rIxT X.K v w H Q ∨ rIxS v w H Q := by
  have gen : Wg c W σ H (fun d _ H' => ∀ v, c.R (Hd (hid c O) H') d v → Q v H') (opt (ixD x y) pt) → rIxL X.K v w H Q ∨ rIxT X.K v w H Q ∨ rIxS v w H Q := fun q0 => by
    obtain ⟨d, e, qd⟩ := Wg.opt q0 rs.pot
    clear q0 q
    unfold ixD at e
    split at e
    · obtain ⟨a, vs, rfl, ha, rl⟩ := rx.lst
      rw [ry.int]
      obtain ⟨v, ev, rv⟩ := atI_rl rl e
      exact .inl ⟨a, vs, _, v, rfl, rfl, .inl (.inl ha), ev, qd v rv⟩
    · obtain ⟨a, vs, rfl, ha, rl⟩ := rx.tup
      rw [ry.int]
      obtain ⟨v, ev, rv⟩ := atI_rl rl e
      exact .inr (.inl ⟨a, vs, _, v, rfl, rfl, by rw [← hK]; exact ha, ev, qd v rv⟩)
    · split at e
      · rename_i i hz
        rw [rx.str, ry.int]
        cases ea : atI (Str.cps ‹Str›).toList ‹Int› with
        | none => rw [ea] at e; cases e
        | some n =>
          rw [ea] at e
          cases e
          exact .inr (.inr ⟨_, _, n, rfl, rfl, Nat.le_trans hz (by decide), ea, qd _ (by simp [Cy.R, R])⟩)
      · cases e
    · cases e
  unfold ixM at q
  split at q
  · rw [pot_read rs rx, ry.int]
    exact .inl ⟨c.p, _, _, _, rfl, rfl, .inl (.inl rs.pot.at_), rfl, Wg.here q rs.pot _ (by simp [Cy.R, R])⟩
  · rw [pot_read rs rx, ry.int]
    exact .inl ⟨c.p, _, _, _, rfl, rfl, .inl (.inl rs.pot.at_), rfl, Wg.here q rs.pot _ (by simp [Cy.R, R])⟩
  · exact gen q
theorem de_ix {fa fb : Slots → M D} (ha : PE X a (dB c W fa)) (hb : PE X b (dB c W fb)) (hs : PlainIx b := by intro _ _; rfl) (hK : c.K = X.K := by rfl) : PE X (.Subscript a b pos) (dE c W (binE ixM fa fb)) := by
  refine pe_imp (pe_ix (ixr_or ix_list (ixr_or ix_tup ix_str)) ha hb hs) fun σ H Q ⟨O, ρ, pt, rs, q⟩ => ?_
  refine ⟨O, ρ, pt, rs, (Wg.bnd q).imp fun x p1 H1 _ s1 q v rv => ?_⟩
  have rs1 := rs.stp s1
  refine ⟨O, ρ, p1, rs1, (Wg.bnd q).imp fun y p2 H2 _ s2 q w rw => ?_⟩
  exact ixM_ok hK (rs1.stp s2) (rv.stp rs1 s2) rw q
/-! ### slices -/
def cutD (ds : List D) (lo hi : Option Int) : List D := (ds.drop (HT.sIx ds.length 0 lo)).take (HT.sIx ds.length ds.length hi - HT.sIx ds.length 0 lo)
theorem cut_rl {K : PySem.W.Frag} {T : Tb} {p : Addr} {ds : List D} {vs : List V} {lo hi : Option Int} (h : RL K T p H ds vs) : RL K T p H (cutD ds lo hi) (cutV vs lo hi) := by
  unfold cutD cutV
  rw [RL.len h]
  exact RL.take _ (RL.drop _ h)
def dO (c : Cy) (W : WX) (f : Slots → M (Option Int)) : TO := fun σ H Q => ∃ O ρ pt, RS c O ρ σ H pt ∧ Wg c W σ H (fun d _ H' => Q d H') (f ρ pt)
def noO : Slots → M (Option Int) := fun _ => ret none
def soO (f : Slots → M D) : Slots → M (Option Int) := fun ρ => bnd (f ρ) fun d => match d with
  | .int i => ret (some i)
  | _ => fail
theorem do_none : PO X none (dO c W noO) := ⟨fun pins s σ H Q I ⟨O, ρ, pt, r, q⟩ => po_none.run pins s σ H Q I (Wg.here q r.pot)⟩
theorem do_some {f : Slots → M D} (h : PE X e (dB c W f)) : PO X (some e) (dO c W (soO f)) := ⟨fun pins s σ H Q I ⟨O, ρ, pt, r, q⟩ => (po_some h).run pins s σ H Q I ⟨O, ρ, pt, r, (Wg.bnd q).imp fun d p1 H1 _ s1 q v rv => by
  cases d with
  | int i => exact ⟨i, rv.int, Wg.here q s1.pot⟩
  | _ => exact q.elim⟩⟩
theorem sl_use {r : V → Option Int → Option Int → Hp → VK → Prop} {fa : Slots → M D} {fl fh : Slots → M (Option Int)} {Q : VK} {P : D → Option Int → Option Int → M D}
    (ok : ∀ (O : List (Nat × Addr)) (ρ : Slots) (pt : Pot) (H : Hp) (Q : VK) (x : D) (lo hi : Option Int) (v : V), RS c O ρ σ H pt → RB c O H x v → Wg c W σ H (fun d _ H' => ∀ v, c.R (Hd (hid c O) H') d v → Q v H') (P x lo hi pt) → r v lo hi H Q)
    (h : dE c W (fun ρ => bnd (fa ρ) fun x => bnd (fl ρ) fun lo => bnd (fh ρ) fun hi => P x lo hi) σ H Q) : tSl r (dB c W fa) (dO c W fl) (dO c W fh) σ H Q := by
  obtain ⟨O, ρ, pt, rs, q⟩ := h
  refine ⟨O, ρ, pt, rs, (Wg.bnd q).imp fun x p1 H1 _ s1 q v rv => ?_⟩
  have rs1 := rs.stp s1
  refine ⟨O, ρ, p1, rs1, (Wg.bnd q).imp fun lo p2 H2 _ s2 q => ?_⟩
  have rs2 := rs1.stp s2
  refine ⟨O, ρ, p2, rs2, (Wg.bnd q).imp fun hi p3 H3 _ s3 q => ?_⟩
  exact ok O ρ p3 H3 Q x lo hi v (rs2.stp s3) ((rv.stp rs1 s2).stp rs2 s3) q
def slM : D → Option Int → Option Int → M D := fun x lo hi => match x with
  | .lst ds => ret (.lst (cutD ds lo hi))
  | .tup ds => if HT.sIx ds.length 0 lo = 0 ∧ HT.sIx ds.length ds.length hi = ds.length then fail else ret (.tup (cutD ds lo hi))
  | .str z => if z.length ≤ 1000000 then ret (.str (cutS z lo hi)) else fail
  | _ => fail
def slE (fa : Slots → M D) (fl fh : Slots → M (Option Int)) : Slots → M D := fun ρ => bnd (fa ρ) fun x => bnd (fl ρ) fun lo => bnd (fh ρ) fun hi => slM x lo hi
theorem de_slice {lo hi : Option Expr} {p2 : Pos} {fa : Slots → M D} {fl fh : Slots → M (Option Int)} (ha : PE X a (dB c W fa)) (hl : PO X lo (dO c W fl)) (hh : PO X hi (dO c W fh)) (hK : c.K = X.K := by rfl) : PE X (.Subscript a (.Slice lo hi none p2) pos) (dE c W (slE fa fl fh)) := by
  refine pe_imp (pe_slice (sl_list.or (sl_tup.or sl_str)) ha hl hh) fun σ H Q h => sl_use (P := slM) (fun O ρ pt H Q x lo hi v rs rx q => ?_) h
  cases x with
  | lst ds =>
    simp only [slM] at q
    obtain ⟨a, vs, rfl, ha, rl⟩ := rx.lst
    exact .inl ⟨a, vs, rfl, .inl (.inl ha), fun l hl => q _ (Stp.new rs.pot hl) _ (mk_lst rs hl (cut_rl rl))⟩
  | tup ds =>
    simp only [slM] at q
    obtain ⟨a, vs, rfl, ha, rl⟩ := rx.tup
    split at q
    · exact q.elim
    · rename_i hz
      exact .inr (.inl ⟨a, vs, rfl, by rw [← hK]; exact ha, by rw [← RL.len rl]; exact hz, fun l hl => q _ (Stp.new rs.pot hl) _ (mk_tup rs hl (cut_rl rl))⟩)
  | str z =>
    simp only [slM] at q
    split at q
    · rename_i hz
      rw [rx.str]
      exact .inr (.inr ⟨z, rfl, Nat.le_trans hz (by decide), Wg.here q rs.pot _ (by simp [Cy.R, R])⟩)
    · exact q.elim
  | _ => exact q.elim
/-! ### lists that grow -/
def ownOf : Option (Option SV) → Option (List D)
  | some (some (.own ds)) => some ds
  | _ => none
theorem ownOf_eq {x : Option (Option SV)} {ds : List D} (h : ownOf x = some ds) : x = some (some (.own ds)) := by
  unfold ownOf at h
  split at h
  · cases h; rfl
  · cases h
def growM (i : Nat) (ρ : Slots) (ds es : List D) : M Out := if ds.length + es.length ≤ 100000 then ret (.nx (ρ.set i (some (.own (ds ++ es))))) else fail
def appS (i : Nat) (f : Slots → M D) : Slots → M Out := fun ρ => bnd (opt (ownOf ρ[i]?)) fun ds => bnd (f ρ) fun d => growM i ρ ds [d]
def lstOf : D → Option (List D)
  | .lst ds => some ds
  | _ => none
def extS (i : Nat) (f : Slots → M D) : Slots → M Out := fun ρ => bnd (opt (ownOf ρ[i]?)) fun ds => bnd (f ρ) fun d => bnd (opt (lstOf d)) fun es => growM i ρ ds es
theorem grow_ok {E : Ends} {i : Nat} {ds es : List D} {a : Addr} {vs us : List V} (r : RS c O ρ σ H pt) (eo : ρ[i]? = some (some (.own ds))) (m : (i, a) ∈ O) (ev : σ[i]? = some (some (.ref a))) (ha : H a = some (.lst vs)) (rl : c.RL (Hd (hid c O) H) ds vs) (rn : c.RL (Hd (hid c O) H) es us) (h : WO c W E O H (growM i ρ ds es pt)) :
    vs.length + us.length ≤ 100000 ∧ E.nx σ (upd H a (.lst (vs ++ us))) := by
  unfold growM at h
  split at h
  · rename_i hz
    have l1 := RL.len rl
    have l2 := RL.len rn
    refine ⟨by omega, ?_⟩
    have hi : i < ρ.length := (List.getElem?_eq_some_iff.mp eo).1
    obtain ⟨rs, mv⟩ := r.mut (s' := .own (ds ++ es)) m (o := .lst (vs ++ us)) (fun gr => ⟨a, vs ++ us, m, ev, upd_same, RL.app (RL.gr gr rl) (RL.gr gr rn)⟩) hi
    exact h _ _ _ rs mv
  · exact h.elim
theorem ds_app {i : Nat} {x : Str} {f : Slots → M D} {spos : Pos} (h : PE X e (dE c W f)) (hN : X.N[i]? = some x := by rfl) (hv : Vis X.env.scope x := by first | exact Or.inl rfl | exact Or.inr (Or.inl rfl)) (hd : (x == ("__debug__" : Str)) = false := by decide) (hcd : (x == ("__classdict__" : Str)) = false := by decide)
    (hst : starEach [e] X.env = (false, eval e X.env) :: starEach [] X.env := by rfl) (hline : (apos.endLine == cpos.line) = true := by rfl) (hs : swapsWith (.Call (.Attribute (.Name x p) "append" apos) [e] [] cpos) none spos.line X.env = pure false := by rfl)
    (hfew : ((backTo cpos (starEach [e] X.env)).all (fun x => !x.1) && (backToKw cpos (keywordEach [] X.env)).all (fun x => x.1.isSome) && decide ([e].length + ([] : List Keyword).length + (if ([] : List Keyword).isEmpty then 0 else 1) < 30)) = true := by rfl)
    (hbase : attributeBase (.Name x p) "append" X.env (eval (.Name x p) X.env) = eval (.Name x p) X.env := by rfl) (hplain : (backTo cpos (starEach [] X.env)).any (·.1) = false := by rfl) :
    PS X (.Expr (.Call (.Attribute (.Name x p) "append" apos) [e] [] cpos) spos) (dS c W (appS i f)) := by
  refine ps_imp (ps_expr (pe_bm PySem.F.plainAttrs_list PySem.F.slot_list_append PySem.F.type_list_append mt_append (pe_var (i := i) hN hv hd hcd) (pa_cons h pa_nil hst) hbase hfew hline hst hplain) hs) fun E σ H ⟨O, ρ, pt, r, h⟩ => ?_
  obtain ⟨ds, eo, h⟩ := Wg.opt (WO.bnd r h) r.pot
  replace eo := ownOf_eq eo
  obtain ⟨a, vs, m, ev, ha, rl⟩ := r.sl i _ eo
  refine ⟨_, ev, .inl ⟨rfl, vs, .inl (.inl ha)⟩, O, ρ, pt, r, (WO.bnd r h).imp fun d p1 H1 _ s1 q v rv => ?_⟩
  have r1 := r.stp s1
  obtain ⟨a', vs, m', ev', ha, rl⟩ := r1.sl i _ eo
  rw [ev] at ev'
  cases ev'
  obtain ⟨hz, q⟩ := grow_ok r1 eo m' ev ha rl (RL.one rv) q
  exact ⟨a, vs, v, rfl, rfl, ha, Nat.lt_of_lt_of_le (Nat.lt_of_lt_of_le (Nat.lt_succ_self _) hz) (by decide), q⟩
theorem ds_ext {i : Nat} {x : Str} {f : Slots → M D} {spos : Pos} (h : PE X e (dE c W f)) (hN : X.N[i]? = some x := by rfl) (hv : Vis X.env.scope x := by first | exact Or.inl rfl | exact Or.inr (Or.inl rfl)) (hd : (x == ("__debug__" : Str)) = false := by decide) (hcd : (x == ("__classdict__" : Str)) = false := by decide)
    (hst : starEach [e] X.env = (false, eval e X.env) :: starEach [] X.env := by rfl) (hline : (apos.endLine == cpos.line) = true := by rfl) (hs : swapsWith (.Call (.Attribute (.Name x p) "extend" apos) [e] [] cpos) none spos.line X.env = pure false := by rfl)
    (hfew : ((backTo cpos (starEach [e] X.env)).all (fun x => !x.1) && (backToKw cpos (keywordEach [] X.env)).all (fun x => x.1.isSome) && decide ([e].length + ([] : List Keyword).length + (if ([] : List Keyword).isEmpty then 0 else 1) < 30)) = true := by rfl)
    (hbase : attributeBase (.Name x p) "extend" X.env (eval (.Name x p) X.env) = eval (.Name x p) X.env := by rfl) (hplain : (backTo cpos (starEach [] X.env)).any (·.1) = false := by rfl) :
    PS X (.Expr (.Call (.Attribute (.Name x p) "extend" apos) [e] [] cpos) spos) (dS c W (extS i f)) := by
  refine ps_imp (ps_expr (pe_bm PySem.F.plainAttrs_list PySem.F.slot_list_extend PySem.F.type_list_extend mt_extend (pe_var (i := i) hN hv hd hcd) (pa_cons h pa_nil hst) hbase hfew hline hst hplain) hs) fun E σ H ⟨O, ρ, pt, r, h⟩ => ?_
  obtain ⟨ds, eo, h⟩ := Wg.opt (WO.bnd r h) r.pot
  replace eo := ownOf_eq eo
  obtain ⟨a, vs, m, ev, ha, rl⟩ := r.sl i _ eo
  refine ⟨_, ev, .inl ⟨rfl, vs, .inl (.inl ha)⟩, O, ρ, pt, r, (WO.bnd r h).imp fun d p1 H1 _ s1 q v rv => ?_⟩
  have r1 := r.stp s1
  obtain ⟨a', vs, m', ev', ha, rl⟩ := r1.sl i _ eo
  rw [ev] at ev'
  cases ev'
  obtain ⟨es, ee, q⟩ := Wg.opt (WO.bnd r1 q) r1.pot
  cases d with
  | lst gs =>
    cases ee
    simp only [Cy.R, R] at rv
    obtain ⟨b, us, rfl, hb, rn⟩ := rv
    obtain ⟨hz, q⟩ := grow_ok r1 eo m' ev ha rl rn q
    exact ⟨a, b, vs, us, rfl, rfl, ha, (Hd.sees hb).2.1, Nat.le_trans hz (by decide), q⟩
  | _ => cases ee
end
end DF

set_option Elab.async false
set_option linter.all false
set_option maxRecDepth 100000
set_option maxHeartbeats 4000000
namespace DF
open PySem L2
section
variable {gu : Prop} {X : Cx} {c : Cy} {W : WX} {σ : L2.St} {H H1 H' : Hp} {O : List (Nat × Addr)} {ρ : Slots} {pt pt' : Pot} {e e2 iter tg elt a b o : Expr} {p pos apos cpos : Pos} {k n kc nC : Nat} {f C : Addr} {fd : FuncData} {ps : List Str} {fm : List D → M D}
/-! ### texts -/
def strsOf : List D → Option (List Str)
  | [] => some []
  | .str x :: ds => (strsOf ds).map (x :: ·)
  | _ => none
theorem strs_rl {K : PySem.W.Frag} {T : Tb} {p : Addr} : ∀ {ds : List D} {ys : List Str} {vs : List V}, strsOf ds = some ys → RL K T p H ds vs → vs = ys.map V.str
  | [], ys, vs, e, h => by
    cases e
    simpa [RL] using h
  | d :: ds, ys, vs, e, h => by
    simp only [RL] at h
    obtain ⟨v, ws, rfl, r, rl⟩ := h
    cases d with
    | str x =>
      simp only [strsOf] at e
      cases e1 : strsOf ds with
      | none => rw [e1] at e; cases e
      | some zs =>
        rw [e1] at e
        cases e
        rw [strs_rl e1 rl]
        simp only [R] at r
        rw [r]
        rfl
    | _ => simp [strsOf] at e
def strOf1 : D → Option Str
  | .str x => some x
  | _ => none
theorem strOf1_eq {d : D} {x : Str} (h : strOf1 d = some x) : d = .str x := by
  unfold strOf1 at h
  split at h
  · cases h; rfl
  · cases h
def joinF (a : Str) (y : D) : Option D := (seqOf [y]).bind fun ds => (strsOf ds).bind fun ys => if (ys.map (·.length)).sum + ys.length * a.length ≤ 1000000 then some (.str (Txt.join a ys)) else none
def joinE (fa fb : Slots → M D) : Slots → M D := fun ρ => bnd (fa ρ) fun x => bnd (opt (strOf1 x)) fun a => bnd (fb ρ) fun y => opt (joinF a y)
theorem de_join {fa fb : Slots → M D} (ha : PE X o (dB c W fa)) (hb : PE X e (dB c W fb)) (hK : c.K = X.K := by rfl) (hs : starEach [e] X.env = [(false, eval e X.env)] := by rfl) (hbase : attributeBase o "join" X.env (eval o X.env) = eval o X.env := by rfl) (hline : (apos.endLine == pos.line) = true := by rfl) :
    PE X (.Call (.Attribute o "join" apos) [e] [] pos) (dE c W (joinE fa fb)) := by
  refine pe_imp (pe_join ha hb hs hbase hline) fun σ H Q ⟨O, ρ, pt, rs, q⟩ => ⟨O, ρ, pt, rs, ?_⟩
  refine (Wg.bnd q).imp fun x p1 H1 ex s1 q v rv => ?_
  have rs1 := rs.stp s1
  obtain ⟨z, ez, q⟩ := Wg.opt (Wg.bnd q) s1.pot
  rw [strOf1_eq ez] at rv
  rw [rv.str]
  refine ⟨⟨z, rfl⟩, O, ρ, p1, rs1, (Wg.bnd q).imp fun y p2 H2 _ s2 q w rw => ?_⟩
  obtain ⟨d, ed, q⟩ := Wg.opt q s2.pot
  unfold joinF at ed
  cases es : seqOf [y] with
  | none => rw [es] at ed; cases ed
  | some ds =>
    rw [es] at ed
    simp only [Option.bind_some] at ed
    cases et : strsOf ds with
    | none => rw [et] at ed; cases ed
    | some ys =>
      rw [et] at ed
      simp only [Option.bind_some] at ed
      split at ed
      · rename_i hz
        cases ed
        obtain ⟨a, ws, e1, rl, h⟩ := seq_of (c := c) (O := O) (H := H2) (xs := [y]) (vs := [w]) ⟨w, [], rfl, rw, rfl⟩ es
        have ew := strs_rl et rl
        subst ew
        cases e1
        rw [hK] at h
        exact ⟨z, a, ys, rfl, rfl, h.imp id (·.1), Nat.le_trans hz (by decide), q _ (by simp [Cy.R, R])⟩
      · cases ed
/-! ### f-strings -/
def fmtF : D → Option D
  | .str y => if y.length ≤ 1000000 then some (.str y) else none
  | .int i => if i.natAbs.log2 < 1920 then some (.str (toString i)) else none
  | _ => none
def fmtRF : D → Option D
  | .str y => if (reprText y).length ≤ 1000000 then some (.str (reprText y)) else none
  | .int i => if i.natAbs.log2 < 1920 then some (.str (toString i)) else none
  | _ => none
def oneE (g : D → Option D) (f : Slots → M D) : Slots → M D := fun ρ => bnd (f ρ) fun d => opt (g d)
theorem de_fmt {g : Slots → M D} (h : PE X e (dE c W g)) : PE X (.FormattedValue e (-1) none pos) (dE c W (oneE fmtF g)) := by
  refine pe_imp (pe_fmt h) fun σ H Q ⟨O, ρ, pt, rs, q⟩ => ⟨O, ρ, pt, rs, (Wg.bnd q).imp fun d p1 H1 _ s1 q v rv => ?_⟩
  obtain ⟨z, ez, q⟩ := Wg.opt q s1.pot
  unfold fmtF at ez
  split at ez
  · split at ez
    · rename_i hz
      cases ez
      simp only [Cy.R, R] at rv
      exact .inl ⟨_, rv, Nat.le_trans hz (by decide), q _ (by simp [Cy.R, R])⟩
    · cases ez
  · split at ez
    · rename_i hz
      cases ez
      simp only [Cy.R, R] at rv
      exact .inr ⟨_, rv, hz, q _ (by simp [Cy.R, R])⟩
    · cases ez
  · cases ez
theorem de_fmtR {g : Slots → M D} (h : PE X e (dE c W g)) : PE X (.FormattedValue e 114 none pos) (dE c W (oneE fmtRF g)) := by
  refine pe_imp (pe_fmtR h) fun σ H Q ⟨O, ρ, pt, rs, q⟩ => ⟨O, ρ, pt, rs, (Wg.bnd q).imp fun d p1 H1 _ s1 q v rv => ?_⟩
  obtain ⟨z, ez, q⟩ := Wg.opt q s1.pot
  unfold fmtRF at ez
  split at ez
  · split at ez
    · rename_i hz
      cases ez
      simp only [Cy.R, R] at rv
      exact .inl ⟨_, rv, Nat.le_trans hz (by decide), q _ (by simp [Cy.R, R])⟩
    · cases ez
  · split at ez
    · rename_i hz
      cases ez
      simp only [Cy.R, R] at rv
      exact .inr ⟨_, rv, hz, q _ (by simp [Cy.R, R])⟩
    · cases ez
  · cases ez
def glueE : List (Slots → M D) → Str → Slots → M D
  | [], acc, _ => ret (.str acc)
  | f :: fs, acc, ρ => bnd (f ρ) fun d => bnd (opt (strOf1 d)) fun y => if (acc ++ y).length ≤ 1000000 then glueE fs (acc ++ y) ρ else fail
theorem glue_use : ∀ {fs : List (Slots → M D)} {acc : Str} {H : Hp} {Q : VK}, dE c W (glueE fs acc) σ H Q → tJs (fs.map (dE c W)) acc σ H fun out H1 => Q (.str out) H1
  | [], acc, H, Q, ⟨O, ρ, pt, rs, q⟩ => Wg.here q rs.pot _ (by simp [Cy.R, R])
  | f :: fs, acc, H, Q, ⟨O, ρ, pt, rs, q⟩ => by
    refine ⟨O, ρ, pt, rs, (Wg.bnd q).imp fun d p1 H1 _ s1 q v rv => ?_⟩
    obtain ⟨y, ey, q⟩ := Wg.opt (Wg.bnd q) s1.pot
    rw [strOf1_eq ey] at rv
    simp only [Cy.R, R] at rv
    split at q
    · rename_i hz
      exact ⟨y, rv, Nat.le_trans hz (by decide), glue_use ⟨O, ρ, p1, rs.stp s1, q⟩⟩
    · exact q.elim
def joinedE (fs : List (Slots → M D)) : Slots → M D := glueE fs Str.empty
theorem de_joined {v1 v2 : Expr} {rest : List Expr} {fs : List (Slots → M D)} (h : PJ X (v1 :: v2 :: rest) (fs.map (dE c W))) : PE X (.JoinedStr (v1 :: v2 :: rest) pos) (dE c W (joinedE fs)) := pe_imp (pe_joined h) fun σ H Q q => glue_use q
theorem de_joined1 {g : Slots → M D} (h : PE X e (dE c W g)) : PE X (.JoinedStr [e] pos) (dE c W g) := pe_joined1 h
/-! ### all, any -/
def blsOf : List D → Option (List Bool)
  | [] => some []
  | .bl x :: ds => (blsOf ds).map (x :: ·)
  | _ => none
theorem bls_rl {K : PySem.W.Frag} {T : Tb} {p : Addr} : ∀ {ds : List D} {ys : List Bool} {vs : List V}, blsOf ds = some ys → RL K T p H ds vs → vs = ys.map V.bl
  | [], ys, vs, e, h => by
    cases e
    simpa [RL] using h
  | d :: ds, ys, vs, e, h => by
    simp only [RL] at h
    obtain ⟨v, ws, rfl, r, rl⟩ := h
    cases d with
    | bl x =>
      simp only [blsOf] at e
      cases e1 : blsOf ds with
      | none => rw [e1] at e; cases e
      | some zs =>
        rw [e1] at e
        cases e
        rw [bls_rl e1 rl]
        simp only [R] at r
        rw [r]
        rfl
    | _ => simp [blsOf] at e
def lst1 : List D → Option (List D)
  | [.lst ds] => some ds
  | _ => none
theorem lst1_rl {xs ds : List D} {vs : List V} (rx : RBL c O H xs vs) (e : lst1 xs = some ds) : ∃ a ws, vs = [.ref a] ∧ c.RL (Hd (hid c O) H) ds ws ∧ SqL c.K H a ws := by
  unfold lst1 at e
  split at e
  · cases e
    obtain ⟨v, rfl, h⟩ := rx.one
    obtain ⟨a, vs, rfl, ha, rl⟩ := h.lst
    exact ⟨a, vs, rfl, rl, .inl (.inl ha)⟩
  · cases e
def allF (xs : List D) : Option D := (lst1 xs).bind fun ds => (blsOf ds).map fun bs => .bl (bs.all id)
def anyF (xs : List D) : Option D := (lst1 xs).bind fun ds => (blsOf ds).map fun bs => .bl (bs.any id)
theorem cd_all (hc : X.calm = true) (hK : c.K = X.K := by rfl) : CallD X c W (.builtin "all") (pu1 allF) := cd_pu (cr_all hc) fun O H xs z vs Q rx e q => by
  unfold allF at e
  cases e1 : lst1 xs with
  | none => rw [e1] at e; cases e
  | some ds =>
    rw [e1] at e
    simp only [Option.bind_some] at e
    cases e2 : blsOf ds with
    | none => rw [e2] at e; cases e
    | some bs =>
      rw [e2] at e
      cases e
      obtain ⟨a, ws, rfl, rl, h⟩ := lst1_rl rx e1
      rw [bls_rl e2 rl, hK] at h
      exact ⟨a, bs, rfl, h, q _ (by simp [Cy.R, R])⟩
theorem cd_any (hc : X.calm = true) (hK : c.K = X.K := by rfl) : CallD X c W (.builtin "any") (pu1 anyF) := cd_pu (cr_any hc) fun O H xs z vs Q rx e q => by
  unfold anyF at e
  cases e1 : lst1 xs with
  | none => rw [e1] at e; cases e
  | some ds =>
    rw [e1] at e
    simp only [Option.bind_some] at e
    cases e2 : blsOf ds with
    | none => rw [e2] at e; cases e
    | some bs =>
      rw [e2] at e
      cases e
      obtain ⟨a, ws, rfl, rl, h⟩ := lst1_rl rx e1
      rw [bls_rl e2 rl, hK] at h
      exact ⟨a, bs, rfl, h, q _ (by simp [Cy.R, R])⟩
/-! ### repr and str -/
def reprF : List D → Option D
  | [.str y] => if (reprText y).length ≤ 1000000 then some (.str (reprText y)) else none
  | [.int i] => if i.natAbs.log2 < 1920 then some (.str (toString i)) else none
  | [.bl b] => some (.str (if b then "True" else "False"))
  | [.non] => some (.str "None")
  | _ => none
def rRepr : List V → Hp → VK → Prop := fun vs H Q => (∃ y : Str, vs = [.str y] ∧ (reprText y).length ≤ 1000000 ∧ Q (.str (reprText y)) H) ∨ (∃ i : Int, vs = [.int i] ∧ i.natAbs.log2 < 1920 ∧ Q (.str (toString i)) H) ∨
  (∃ b : Bool, vs = [.bl b] ∧ Q (.str (if b then "True" else "False")) H) ∨ (vs = [.non] ∧ Q (.str "None") H)
theorem cr_repr : CallR X (.builtin "repr") rRepr := by
  intro pins s σ H vs us Q I r h
  rcases h with ⟨y, rfl, hz, q⟩ | ⟨i, rfl, hz, q⟩ | ⟨b, rfl, q⟩ | ⟨rfl, q⟩
  · obtain ⟨u, rfl, ru⟩ := r.one
    obtain ⟨t, rfl⟩ := ru
    exact P.repr_of_str ⟨.str _, H, I.tok _, ⟨_, rfl⟩, q⟩ (Nat.le_trans hz (by decide))
  · obtain ⟨u, rfl, ru⟩ := r.one
    obtain ⟨t, rfl⟩ := ru
    exact P.repr_of_int hz ⟨.str _, H, I.tok _, ⟨_, rfl⟩, q⟩
  · obtain ⟨u, rfl, ru⟩ := r.one
    cases ru
    refine P.repr_of_bool ⟨.str _, H, I.tok _, ⟨_, rfl⟩, q⟩
  · obtain ⟨u, rfl, ru⟩ := r.one
    cases ru
    exact P.repr_of_none ⟨.str _, H, I.tok _, ⟨_, rfl⟩, q⟩
theorem cd_repr : CallD X c W (.builtin "repr") (pu1 reprF) := cd_pu cr_repr fun O H xs z vs Q rx e q => by
  unfold reprF at e
  split at e
  · split at e
    · rename_i hz
      cases e
      obtain ⟨v, rfl, h⟩ := rx.one
      rw [h.str]
      exact .inl ⟨_, rfl, hz, q _ (by simp [Cy.R, R])⟩
    · cases e
  · split at e
    · rename_i hz
      cases e
      obtain ⟨v, rfl, h⟩ := rx.one
      rw [h.int]
      exact .inr (.inl ⟨_, rfl, hz, q _ (by simp [Cy.R, R])⟩)
    · cases e
  · cases e
    obtain ⟨v, rfl, h⟩ := rx.one
    rw [h.bl]
    exact .inr (.inr (.inl ⟨_, rfl, q _ (by simp [Cy.R, R])⟩))
  · cases e
    obtain ⟨v, rfl, h⟩ := rx.one
    rw [h.non]
    exact .inr (.inr (.inr ⟨rfl, q _ (by simp [Cy.R, R])⟩))
  · cases e
/-- repr or str by an own method -/
def txM (kc : Nat) (fm : List D → M D) : List D → M D
  | [.obj j fs] => if j = kc then bnd (fm [.obj j fs]) fun d => bnd (opt (strOf1 d)) fun y => ret (.str y) else fail
  | _ => fail
def rTx (X : Cx) (c : Cy) (W : WX) (fm : List D → M D) (C : Addr) : L2.St → List V → Hp → VK → Prop := fun σ vs H Q => ∃ a dx fs, vs = [.ref a] ∧ H a = some (.ins C dx fs) ∧ spF c.K c.T 1 fm [.ref a] H (fun z H' => ∃ y, z = .str y ∧ Q z H') (WE W σ)
theorem tx_use (hC : c.T.cls kc = C) {xs : List D} {vs : List V} {Q : VK} (rs : RS c O ρ σ H pt) (rx : RBL c O H xs vs) (q : Wg c W σ H (fun d _ H' => ∀ v, c.R (Hd (hid c O) H') d v → Q v H') (txM kc fm xs pt)) : rTx X c W fm C σ vs H Q := by
  unfold txM at q
  split at q
  · rename_i j gs
    split at q
    · rename_i hj
      subst hj
      obtain ⟨v, rfl, h⟩ := rx.one
      have h' : c.R (Hd (hid c O) H) (.obj j gs) v := by
        rcases h with h | ⟨_, _, _, _, e, _⟩ | ⟨_, _, _, _, e, _⟩
        · exact h
        · cases e
        · cases e
      have sp := spF_of (Q := fun z H' => ∃ y, z = .str y ∧ Q z H') rs (RL.one h') rfl ((Wg.bnd q).imp fun d p1 H1 _ s1 q v rv => by
        obtain ⟨y, ey, q⟩ := Wg.opt (Wg.bnd q) s1.pot
        rw [strOf1_eq ey] at rv
        simp only [Cy.R, R] at rv
        subst rv
        exact ⟨y, rfl, Wg.here q s1.pot _ (by simp [Cy.R, R])⟩)
      simp only [Cy.R, R] at h'
      obtain ⟨a, dx, ws, rfl, ha, _, rl⟩ := h'
      exact ⟨a, dx, _, rfl, by rw [← hC]; exact Hd.le _ _ ha, sp⟩
    · exact q.elim
  · exact q.elim
theorem strBack {pins : List (Addr × Obj)} {Q : VK} {v : Value} {s : Shared} (h : EP X pins σ (fun z H' => ∃ y, z = .str y ∧ Q z H') v s) : PySem.W.StrBack (EP X pins σ Q) v s := by
  obtain ⟨z, H', I', rz, y, rfl, q⟩ := h
  obtain ⟨t, rfl⟩ := rz
  exact ⟨.str y, H', I', ⟨t, rfl⟩, q⟩
theorem cd_reprO (hC : c.T.cls kc = C) (hs : PySem.W.findIn X.K (.ref C) "__repr__" = some (some (.ref f))) (hf : PySem.W.isFn X.K (.ref f) = true)
    (F : FnG gu X.prog X.w X.K X.mg X.base (L2.CX X.prog X.w) k f fd ps (spF c.K c.T 1 fm)) (hr : Rm gu (k + 1) X.A) (hb : Binds X.K fd ps []) (tk : Takes X W) : CallD X c W (.builtin "repr") (txM kc fm) := by
  refine ⟨rTx X c W fm C, fun pins s σ H xs us Q I r q => ?_, fun σ O ρ pt H Q xs vs rs rx q => tx_use hC rs rx q⟩
  obtain ⟨a, dx, fs, rfl, ha, sp⟩ := q
  obtain ⟨u, rfl, ru⟩ := r.one
  cases ru
  obtain ⟨ox, od, J⟩ := inst_at I ha
  obtain ⟨m, hF⟩ := I.fr
  refine PySem.W.repr_K hr.in1.units0 hF I.ok.mod.kin J hs hf ?_
  exact wpAny_mono (runSub (E := WE W) F hr.in1 rfl hb (passAt tk σ) I (vs := [.ref a]) (.cons (show RelV (.ref a) (.ref a) from rfl) .nil) sp) (fun r s' h => strBack h) fun _ _ z => z
theorem cd_strO (hC : c.T.cls kc = C) (hs : PySem.W.findIn X.K (.ref C) "__str__" = some (some (.ref f))) (hf : PySem.W.isFn X.K (.ref f) = true)
    (F : FnG gu X.prog X.w X.K X.mg X.base (L2.CX X.prog X.w) k f fd ps (spF c.K c.T 1 fm)) (hr : Rm gu (k + 2) X.A) (hb : Binds X.K fd ps []) (tk : Takes X W) : CallD X c W (.type "str") (txM kc fm) := by
  refine ⟨rTx X c W fm C, fun pins s σ H xs us Q I r q => ?_, fun σ O ρ pt H Q xs vs rs rx q => tx_use hC rs rx q⟩
  obtain ⟨a, dx, fs, rfl, ha, sp⟩ := q
  obtain ⟨u, rfl, ru⟩ := r.one
  cases ru
  obtain ⟨ox, od, J⟩ := inst_at I ha
  refine PySem.W.kso_call hr.in1.in1.units0 I.kIn J hs hf ?_
  exact wpAny_mono (runSub (E := WE W) F hr.in1.in1 rfl hb (passAt tk σ) I (vs := [.ref a]) (.cons (show RelV (.ref a) (.ref a) from rfl) .nil) sp) (fun r s' h => strBack h) fun _ _ z => z
/-! ### several names at once -/
theorem pg_or {t t' : TG} (h : PG X tg t) (h' : PG X tg t') : PG X tg (fun v σ H Q => t v σ H Q ∨ t' v σ H Q) := ⟨fun pins s σ H v u Q I r q => q.elim (h.run pins s σ H v u Q I r) (h'.run pins s σ H v u Q I r)⟩
def tgL (ts : List (D → Slots → Option Slots)) : D → Slots → Option Slots := fun d ρ => match d with
  | .tup ds => tgs ts ds ρ
  | .lst ds => tgs ts ds ρ
  | _ => none
theorem dg_seq {es : List Expr} {kk : Nat} {vs : List Nat} {ts : List (D → Slots → Option Slots)} (hc : X.calm = true) (h : PGs X es (dGs c vs ts)) (hn : (assignEach es X.env).length = ts.length := by rfl) (hst : (assignEach es X.env).findIdx? (·.1) = none := by rfl) (hK : c.K = X.K := by rfl) :
    PG X (.Tuple es kk pos) (dG c vs (tgL ts)) := by
  refine pg_imp (pg_or (pg_tup hc h hn hst) (pg_lst hc h hn hst)) fun v σ H Q ⟨O, ρ, pt, d, ρ', rs, rv, e, q⟩ => ?_
  cases d with
  | tup ds =>
    simp only [Cy.R, R] at rv
    obtain ⟨a, xs, rfl, ha, rl⟩ := rv
    have le := tgs_len (ts := ts) e
    exact .inl ⟨a, xs, rfl, by rw [← hK]; exact Hd.le.sqt ha, by rw [← RL.len rl]; exact le, O, ρ, pt, ds, ρ', rs, rl, e, q⟩
  | lst ds =>
    simp only [Cy.R, R] at rv
    obtain ⟨a, xs, rfl, ha, rl⟩ := rv
    have le := tgs_len (ts := ts) e
    exact .inr ⟨a, xs, rfl, .inl (.inl (Hd.le _ _ ha)), by rw [← RL.len rl]; exact le, O, ρ, pt, ds, ρ', rs, rl, e, q⟩
  | _ => simp [tgL] at e
def unpS (tgf : D → Slots → Option Slots) (f : Slots → M D) : Slots → M Out := fun ρ => bnd (f ρ) fun d => bnd (opt (tgf d ρ)) fun ρ' => ret (.nx ρ')
theorem ds_unp {vs : List Nat} {tgf : D → Slots → Option Slots} {g : Slots → M D} (h : PE X e (dE c W g)) (hg : PG X tg (dG c vs tgf)) (hs : swapsWithSole [tg] e pos.line X.env = pure false := by rfl) (hw : swappedStores [tg] e X.env = pure none := by rfl)
    (h1 : (assignEach [tg] X.env).map (·.2) = [assign tg X.env] := by rfl) : PS X (.Assign [tg] e pos) (dS c W (unpS tgf g)) := by
  refine ps_imp (ps_asg h hg hs hw h1) fun E σ H ⟨O, ρ, pt, r, h⟩ => ⟨O, ρ, pt, r, (WO.bnd r h).imp fun d p1 H1 _ s1 q v rv => ?_⟩
  have r1 := r.stp s1
  obtain ⟨ρ', e, q⟩ := Wg.opt (WO.bnd r1 q) r1.pot
  exact ⟨O, ρ, p1, d, ρ', r1, rv, e, fun O' σ' rs' mv _ _ => q O' σ' H1 rs' mv⟩
def parS (i j : Nat) (fa : Slots → M (List D)) : Slots → M Out := fun ρ => bnd (fa ρ) fun ds => bnd (opt (tgs [tgN i, tgN j] ds ρ)) fun ρ' => ret (.nx ρ')
def par3S (i j l : Nat) (fa : Slots → M (List D)) : Slots → M Out := fun ρ => bnd (fa ρ) fun ds => bnd (opt (tgs [tgN i, tgN j, tgN l] ds ρ)) fun ρ' => ret (.nx ρ')
theorem tgs1 {t : D → Slots → Option Slots} {ts : List (D → Slots → Option Slots)} {ds : List D} {ρ' : Slots} (e : tgs (t :: ts) ds ρ = some ρ') : ∃ d es ρ1, ds = d :: es ∧ t d ρ = some ρ1 ∧ tgs ts es ρ1 = some ρ' := by
  cases ds with
  | nil => simp [tgs] at e
  | cons d ds =>
    simp only [tgs] at e
    cases e1 : t d ρ with
    | none => rw [e1] at e; cases e
    | some ρ1 =>
      rw [e1] at e
      exact ⟨d, ds, ρ1, rfl, e1, e⟩
theorem tgs0 {ds : List D} {ρ' : Slots} (e : tgs [] ds ρ = some ρ') : ds = [] ∧ ρ = ρ' := by
  cases ds with
  | nil => simp only [tgs] at e; cases e; exact ⟨rfl, rfl⟩
  | cons d ds => simp [tgs] at e
theorem tgN1 {i : Nat} {d : D} {v : V} {ρ1 : Slots} (r : RS c O ρ σ H pt) (rv : c.R (Hd (hid c O) H) d v) (e : tgN i d ρ = some ρ1) : ∃ O1, RS c O1 ρ1 (σ.set i (some v)) H pt ∧ Mv c O H O1 H := by
  unfold tgN at e
  split at e
  · rename_i hl
    cases e
    exact ⟨_, r.put i (by rw [← r.len]; exact hl) rv, Mv.fewer⟩
  · cases e
theorem ds_par {i j : Nat} {x y : Str} {fa : Slots → M (List D)} {px py pt0 : Pos} {kt k2 pt2} (hc : X.calm = true) (hN : X.N.Nodup) (ha : PA X [a, b] (dA c W fa)) (hi : X.N[i]? = some x := by rfl) (hj : X.N[j]? = some y := by rfl) (hij : i ≠ j := by decide)
    (hx : X.env.scope.names.lookup x = some .local := by rfl) (hy : X.env.scope.names.lookup y = some .local := by rfl)
    (hw : swappedStores [.Tuple [.Name x px, .Name y py] kt pt0] (.Tuple [a, b] k2 pt2) X.env = pure (some [x, y]) := by rfl)
    (hs : swapsWithSole [.Tuple [.Name x px, .Name y py] kt pt0] (.Tuple [a, b] k2 pt2) pos.line X.env = pure false := by rfl) :
    PS X (.Assign [.Tuple [.Name x px, .Name y py] kt pt0] (.Tuple [a, b] k2 pt2) pos) (dS c W (parS i j fa)) := by
  refine ps_imp (ps_par hc hN hi hj hij hx hy ha hw hs) fun E σ H ⟨O, ρ, pt, r, h⟩ => ⟨O, ρ, pt, r, (WO.bnd r h).imp fun ds p1 H1 _ s1 q vs rl => ?_⟩
  have r1 := r.stp s1
  obtain ⟨ρ', e, q⟩ := Wg.opt (WO.bnd r1 q) r1.pot
  obtain ⟨d1, es, ρ1, rfl, e1, e⟩ := tgs1 e
  obtain ⟨d2, es, ρ2, rfl, e2, e⟩ := tgs1 e
  obtain ⟨rfl, rfl⟩ := tgs0 e
  simp only [Cy.RL, RL] at rl
  obtain ⟨v1, _, rfl, rv1, v2, _, rfl, rv2, rfl⟩ := rl
  obtain ⟨O1, q1, m1⟩ := tgN1 r1 rv1 e1
  obtain ⟨O2, q2, m2⟩ := tgN1 q1 (R.gr m1.gr rv2) e2
  exact ⟨v1, v2, rfl, q _ _ _ q2 (m1.trans m2)⟩
theorem ds_par3 {i j l : Nat} {x y z : Str} {a3 : Expr} {fa : Slots → M (List D)} {px py pz pt0 : Pos} {kt k2 pt2} (hc : X.calm = true) (hN : X.N.Nodup) (ha : PA X [a, b, a3] (dA c W fa)) (hi : X.N[i]? = some x := by rfl) (hj : X.N[j]? = some y := by rfl) (hl : X.N[l]? = some z := by rfl) (hij : i ≠ j := by decide) (hil : i ≠ l := by decide) (hjl : j ≠ l := by decide)
    (hx : X.env.scope.names.lookup x = some .local := by rfl) (hy : X.env.scope.names.lookup y = some .local := by rfl) (hz : X.env.scope.names.lookup z = some .local := by rfl)
    (hw : swappedStores [.Tuple [.Name x px, .Name y py, .Name z pz] kt pt0] (.Tuple [a, b, a3] k2 pt2) X.env = pure (some [x, y, z]) := by rfl)
    (hs : swapsWithSole [.Tuple [.Name x px, .Name y py, .Name z pz] kt pt0] (.Tuple [a, b, a3] k2 pt2) pos.line X.env = pure false := by rfl) :
    PS X (.Assign [.Tuple [.Name x px, .Name y py, .Name z pz] kt pt0] (.Tuple [a, b, a3] k2 pt2) pos) (dS c W (par3S i j l fa)) := by
  refine ps_imp (ps_par3 hc hN hi hj hl hij hil hjl hx hy hz ha hw hs) fun E σ H ⟨O, ρ, pt, r, h⟩ => ⟨O, ρ, pt, r, (WO.bnd r h).imp fun ds p1 H1 _ s1 q vs rl => ?_⟩
  have r1 := r.stp s1
  obtain ⟨ρ', e, q⟩ := Wg.opt (WO.bnd r1 q) r1.pot
  obtain ⟨d1, es, ρ1, rfl, e1, e⟩ := tgs1 e
  obtain ⟨d2, es, ρ2, rfl, e2, e⟩ := tgs1 e
  obtain ⟨d3, es, ρ3, rfl, e3, e⟩ := tgs1 e
  obtain ⟨rfl, rfl⟩ := tgs0 e
  simp only [Cy.RL, RL] at rl
  obtain ⟨v1, _, rfl, rv1, v2, _, rfl, rv2, v3, _, rfl, rv3, rfl⟩ := rl
  obtain ⟨O1, q1, m1⟩ := tgN1 r1 rv1 e1
  obtain ⟨O2, q2, m2⟩ := tgN1 q1 (R.gr m1.gr rv2) e2
  obtain ⟨O3, q3, m3⟩ := tgN1 q2 (R.gr (m1.trans m2).gr rv3) e3
  exact ⟨v1, v2, v3, rfl, q _ _ _ q3 ((m1.trans m2).trans m3)⟩
end
end DF

set_option Elab.async false
set_option linter.all false
set_option maxRecDepth 100000
set_option maxHeartbeats 4000000
namespace DF
open PySem L2
/-! ### the pot: a list of two ints that the law draws from -/
section
variable {X : Cx} {c : Cy} {W : WX} {σ : L2.St} {H H1 H' : Hp} {O : List (Nat × Addr)} {ρ : Slots} {pt pt' : Pot} {e a b o : Expr} {p p2 p3 pos apos cpos : Pos}
def isPot : Option (Option SV) → Bool
  | some (some (.val .pot)) => true
  | _ => false
theorem isPot_eq {x : Option (Option SV)} (h : isPot x = true) : x = some (some (.val .pot)) := by
  unfold isPot at h
  split at h
  · rfl
  · cases h
def setP (pt : Pot) (ρ : Slots) : M Out := fun _ => .ok (.nx ρ) pt
def intOf : D → Option Int
  | .int i => some i
  | _ => none
theorem intOf_eq {d : D} {i : Int} (h : intOf d = some i) : d = .int i := by
  unfold intOf at h
  split at h
  · cases h; rfl
  · cases h
def potS (i : Nat) (f : Slots → M D) : Slots → M Out := fun ρ => bnd (f ρ) fun d => bnd (opt (intOf d)) fun q => if isPot ρ[i]? then (fun pt => setP (pt.1, q) ρ pt) else fail
theorem pot_stp {q pt : Pot} (h : Pots c.T.tb c.p H pt) : Stp c.T.tb c.p H (upd H c.p (potO q)) q := ⟨fun a o n h _ => by rw [upd_ne n]; exact h, h.put⟩
theorem ds_pot {i j : Nat} {x : Str} {f : Slots → M D} (h : PE X e (dE c W f)) (hN : X.N[i]? = some x := by rfl) (hv : Vis X.env.scope x := by first | exact Or.inl rfl | exact Or.inr (Or.inl rfl)) (hd : (x == ("__debug__" : Str)) = false := by decide) (hcd : (x == ("__classdict__" : Str)) = false := by decide)
    (ha : ∀ v, assign (.Subscript (.Name x p) (.Constant (.int 1) j p2) p3) X.env v = (do
      let ov ← holding [v] (eval (.Name x p) X.env)
      let iv ← holding [v, ov] (eval (.Constant (.int 1) j p2) X.env)
      standAt p3
      holding [v, ov, iv] (setItem ov iv v)
      release [v, ov, iv] []) := by intro _; rfl)
    (hs : swapsWithSole [.Subscript (.Name x p) (.Constant (.int 1) j p2) p3] e pos.line X.env = pure false := by rfl) (hw : swappedStores [.Subscript (.Name x p) (.Constant (.int 1) j p2) p3] e X.env = pure none := by rfl)
    (h1 : (assignEach [.Subscript (.Name x p) (.Constant (.int 1) j p2) p3] X.env).map (·.2) = [assign (.Subscript (.Name x p) (.Constant (.int 1) j p2) p3) X.env] := by rfl) :
    PS X (.Assign [.Subscript (.Name x p) (.Constant (.int 1) j p2) p3] e pos) (dS c W (potS i f)) := by
  refine ps_imp (ps_asg h (pg_sub (pe_var (i := i) hN hv hd hcd) pe_int set_list ha) hs hw h1) fun E σ H ⟨O, ρ, pt, r, h⟩ => ⟨O, ρ, pt, r, (WO.bnd r h).imp fun d p1 H1 _ s1 q v rv => ?_⟩
  have r1 := r.stp s1
  obtain ⟨z, ez, q⟩ := Wg.opt (WO.bnd r1 q) r1.pot
  rw [intOf_eq ez] at rv
  simp only [Cy.R, R] at rv
  subst rv
  split at q
  · rename_i hp
    obtain ⟨v, ev, rv⟩ := r1.sl i _ (isPot_eq hp)
    simp only [Cy.R, R] at rv
    subst rv
    refine ⟨_, ev, c.p, _, 1, 1, rfl, rfl, s1.pot.at_, rfl, ?_⟩
    exact q _ _ _ (r1.stp (pot_stp r1.pot (q := (p1.1, z)))) ((pot_stp (c := c) r1.pot (q := (p1.1, z))).mv r.hp)
  · exact q.elim
def two : D → Option (Int × Int)
  | .tup [.int a, .int b] => some (a, b)
  | _ => none
theorem two_eq {d : D} {q : Int × Int} (h : two d = some q) : d = .tup [.int q.1, .int q.2] := by
  unfold two at h
  split at h
  · cases h; rfl
  · cases h
def potS2 (i j : Nat) (f : Slots → M D) : Slots → M Out := fun ρ => bnd (f ρ) fun d => bnd (opt (two d)) fun q => if isPot ρ[i]? && decide (j < ρ.length) then (fun pt => setP (q.1, pt.2) (ρ.set j (some (.val (.int q.2)))) pt) else fail
theorem ds_pot2 {i j k kk : Nat} {x y : Str} {f : Slots → M D} {py pt0 : Pos} (hc : X.calm = true) (hN : X.N.Nodup) (h : PE X e (dE c W f)) (hi : X.N[i]? = some x := by rfl) (hv : Vis X.env.scope x := by first | exact Or.inl rfl | exact Or.inr (Or.inl rfl)) (hd : (x == ("__debug__" : Str)) = false := by decide) (hcd : (x == ("__classdict__" : Str)) = false := by decide)
    (hj : X.N[j]? = some y := by rfl) (hy : Loc X.env.scope y := by first | exact Or.inl rfl | exact Or.inr rfl) (hf : X.fn y = true ∨ X.env.scope.names.lookup y = some .local := by first | exact .inl rfl | exact .inr rfl | assumption)
    (ha : ∀ v, assign (.Subscript (.Name x p) (.Constant (.int 0) k p2) p3) X.env v = (do
      let ov ← holding [v] (eval (.Name x p) X.env)
      let iv ← holding [v, ov] (eval (.Constant (.int 0) k p2) X.env)
      standAt p3
      holding [v, ov, iv] (setItem ov iv v)
      release [v, ov, iv] []) := by intro _; rfl)
    (hs : swapsWithSole [.Tuple [.Subscript (.Name x p) (.Constant (.int 0) k p2) p3, .Name y py] kk pt0] e pos.line X.env = pure false := by rfl) (hw : swappedStores [.Tuple [.Subscript (.Name x p) (.Constant (.int 0) k p2) p3, .Name y py] kk pt0] e X.env = pure none := by rfl)
    (h1 : (assignEach [.Tuple [.Subscript (.Name x p) (.Constant (.int 0) k p2) p3, .Name y py] kk pt0] X.env).map (·.2) = [assign (.Tuple [.Subscript (.Name x p) (.Constant (.int 0) k p2) p3, .Name y py] kk pt0) X.env] := by rfl)
    (h2 : (assignEach [.Subscript (.Name x p) (.Constant (.int 0) k p2) p3, .Name y py] X.env).map (·.2) = assign (.Subscript (.Name x p) (.Constant (.int 0) k p2) p3) X.env :: (assignEach [.Name y py] X.env).map (·.2) := by rfl)
    (h3 : (assignEach [.Name y py] X.env).map (·.2) = assign (.Name y py) X.env :: (assignEach [] X.env).map (·.2) := by rfl)
    (h4 : (assignEach [.Subscript (.Name x p) (.Constant (.int 0) k p2) p3, .Name y py] X.env).length = 2 := by rfl) (h5 : (assignEach [.Subscript (.Name x p) (.Constant (.int 0) k p2) p3, .Name y py] X.env).findIdx? (·.1) = none := by rfl) (hK : c.K = X.K := by rfl) :
    PS X (.Assign [.Tuple [.Subscript (.Name x p) (.Constant (.int 0) k p2) p3, .Name y py] kk pt0] e pos) (dS c W (potS2 i j f)) := by
  refine ps_imp (ps_asg h (pg_tup hc (pgs_cons (pg_sub (pe_var (i := i) hi hv hd hcd) pe_int set_list ha) (pgs_cons (pg_name (i := j) hN hj hy hf) pgs_nil h3) h2) h4 h5) hs hw h1) fun E σ H ⟨O, ρ, pt, r, h⟩ => ⟨O, ρ, pt, r, (WO.bnd r h).imp fun d p1 H1 _ s1 q v rv => ?_⟩
  have r1 := r.stp s1
  obtain ⟨z, ez, q⟩ := Wg.opt (WO.bnd r1 q) r1.pot
  rw [two_eq ez] at rv
  simp only [Cy.R, R, RL] at rv
  obtain ⟨ad, vs, rfl, sq, v1, _, rfl, rfl, v2, _, rfl, rfl, rfl⟩ := rv
  split at q
  · rename_i hp
    rw [Bool.and_eq_true] at hp
    obtain ⟨hp, hl⟩ := hp
    replace hl := of_decide_eq_true hl
    obtain ⟨v, ev, rv⟩ := r1.sl i _ (isPot_eq hp)
    simp only [Cy.R, R] at rv
    subst rv
    refine ⟨ad, _, rfl, by rw [← hK]; exact Hd.le.sqt sq, rfl, _, _, rfl, _, ev, c.p, _, 0, 0, rfl, rfl, s1.pot.at_, rfl, _, _, rfl, rfl, ?_⟩
    have r2 := r1.stp (pot_stp r1.pot (q := (z.1, p1.2)))
    have r3 := r2.put j (d := .int z.2) (v := .int z.2) (by rw [← r.len]; exact hl) (by simp [Cy.R, R])
    exact q _ _ _ r3 (((pot_stp (c := c) r1.pot (q := (z.1, p1.2))).mv r.hp).trans Mv.fewer)
  · exact q.elim
def dmF : List D → M D
  | [.int i, .int j] => if 0 < j ∧ j < 1073741824 then ret (.tup [.int (i / j), .int (i % j)]) else fail
  | _ => fail
theorem cd_divmod : CallD X c W (.builtin "divmod") dmF := ⟨_, calls_of call_divmod, fun σ O ρ pt H Q xs vs rs rx q => by
  unfold dmF at q
  split at q
  · split at q
    · rename_i hz
      obtain ⟨v, w, rfl, h, h'⟩ := rx.two
      rw [h.int, h'.int]
      refine ⟨_, _, rfl, hz, fun l hl => q _ (Stp.new rs.pot hl) _ (mk_tup rs hl ?_)⟩
      simp [Cy.R, Cy.RL, RL, R]
    · exact q.elim
  · exact q.elim⟩
end
end DF

set_option Elab.async false
set_option linter.all false
set_option maxRecDepth 100000
set_option maxHeartbeats 4000000
namespace DF
open PySem L2
/-! ### the text's facts, read off the heap behind the top -/
def fdAt (K : PySem.W.Frag) (a : Addr) : FuncData := match K.lookup a with
  | some ⟨_, _, .func fd, _⟩ => fd
  | _ => PySem.W.fnOf "" "" ⟨[], [], none, [], [], none, []⟩ [] ⟨.function, [], false, false, []⟩ .none .none .none .none none .none .none
theorem fdAt_eq {K : PySem.W.Frag} {x qual : Str} {pa : Arguments} {bd : List Stmt} {sc : Scope} {dvs : List V} {kws : List (Str × V)} {f : Addr} {fd : FuncData} (F : FunD K x qual pa bd sc dvs kws f fd) : fdAt K f = fd := by
  obtain ⟨oc, od, dV, kV, doc, pm, an, cdv, ct, osl, rfl, lk, _⟩ := F.ex
  unfold fdAt
  rw [lk]
abbrev Fct := PySem.W.Frag → Bool
def obsZ (oks : List Fct) (fn : List He5.DefA) (K : PySem.W.Frag) : He.AlD := ((oks.all fun f => f K) && fn.all fun d => d.ok K, fn.map fun d => He5.fnA K (d.at_ K))
def SaysZ (oks : List Fct) (fn : List He5.DefA) (K : PySem.W.Frag) : Prop := obsZ oks fn K = He5.valA fn
def obsZG (n : Nat) (oks : List Fct) (fn : List He5.DefA) (g : Addr → Option Obj) : He.AlD := obsZ oks fn (He.frG g (He5.asA g n))
def hookZ (n : Nat) (oks : List Fct) (fn : List He5.DefA) : PySem.W.Hook where
  α := He.AlD
  obs := fun s => obsZG n oks fn s.heap.get?
  val := fun _ => He5.valA fn
  says := fun _ h => ∃ K : PySem.W.Frag, K.In h ∧ SaysZ oks fn K
  of := fun _ _ e => ⟨_, He.frG_in, e⟩
  keeps := fun _ _ _ ⟨K, hK, c⟩ k => ⟨K, PySem.W.Frag.In.keeps hK k, c⟩
theorem obsZG_eq {n : Nat} {oks : List Fct} {fn : List He5.DefA} {g : Addr → Option Obj} {s : Shared} (h : ∀ a, g a = s.heap.get? a) : obsZG n oks fn g = (hookZ n oks fn).obs s := by
  have e : g = s.heap.get? := funext h
  rw [e] <;> rfl
section
variable {oks : List Fct} {fn : List He5.DefA} {K : PySem.W.Frag} {h : Heap} {mg : Str → Option Value}
theorem SaysZ.fact (c : SaysZ oks fn K) (i : Nat) {f : Fct} (h : oks[i]? = some f := by rfl) : f K = true := by
  have c1 := (He.ba (show ((oks.all fun f => f K) && fn.all fun d => d.ok K) = true from congrArg (fun z : He.AlD => z.1) c)).1
  exact List.all_eq_true.mp c1 f (List.mem_of_getElem? h)
theorem SaysZ.def_ (c : SaysZ oks fn K) (i : Nat) {d : He5.DefA} (h : fn[i]? = some d := by rfl) : FunD K d.name d.qual d.params d.body d.scope (d.dvs K) (d.kws K) (d.at_ K) (fdAt K (d.at_ K)) := by
  have c2 := (He.ba (show ((oks.all fun f => f K) && fn.all fun d => d.ok K) = true from congrArg (fun z : He.AlD => z.1) c)).2
  have e : fn.map (fun d => He5.fnA K (d.at_ K)) = fn.map He5.DefA.val := congrArg (fun z : He.AlD => z.2) c
  have e2 : (fn.map fun d => He5.fnA K (d.at_ K))[i]? = (fn.map He5.DefA.val)[i]? := by rw [e]
  rw [List.getElem?_map, List.getElem?_map, h] at e2
  obtain ⟨fd, F⟩ := He5.DefA.funD (Option.some.inj e2) (List.all_eq_true.mp c2 d (List.mem_of_getElem? h))
  rw [fdAt_eq F]
  exact F
/-- the text of a law: its facts, and the names of its module -/
structure Tx (oks : List Fct) (fn : List He5.DefA) (K : PySem.W.Frag) (mg : Str → Option Value) : Prop where
  c : SaysZ oks fn K
  g : ∃ h : Heap, K.In h ∧ h.Ns mainGlobals mg
/-! ### kinds of facts -/
def fGlo (x : Str) : Fct := fun K => (He.Fa.glo x).ok K
def fFree (x : Str) : Fct := fun K => (He.Fa.free x).ok K
def fCls (x : Str) : Fct := fun K => (He.Fa.cls x).ok K
def fNoat (x f : Str) : Fct := fun K => (He.Fa.noat x f).ok K
def fMeth (x m : Str) : Fct := fun K => (He.Fa.meth x m).ok K
def fMk (x : Str) : Fct := fun K => (He.Fa.mkr x).ok K
def fClsI (x : Str) : Fct := fun K => (He.Fa.cls x).ok K && (He.eqO (PySem.W.findIn K (.ref (He.ga K x)) "__class__") (some (some (.builtin "object.__class__"))) && (He.eqO (PySem.W.specialIn K (.builtin "object.__class__") "__get__") (some (some (.builtin "getset_descriptor.__get__"))) &&
  (decide (PySem.W.takesIn K (.builtin "object.__class__") = some true) && decide (PySem.W.mroIn K (He.ga K x) (.type "object") = some true))))
def fProp (x y : Str) : Fct := fun K => He.eqO (PySem.W.findIn K (.ref (He.ga K x)) y) (some (some (.ref (He.ma K (He.ga K x) y)))) && (He.eqO (PySem.W.specialIn K (.ref (He.ma K (He.ga K x) y)) "__get__") (some (some (.builtin "property.__get__"))) &&
  (decide (PySem.W.takesIn K (.ref (He.ma K (He.ga K x) y)) = some true) && (match PySem.W.recIn K (He.ma K (He.ga K x) y) "property" with
    | some (.ref _ :: _) => true
    | _ => false)))
def fCmp (x : Str) (cs : List Str) : Fct := fun K => (tagB.all fun n => decide (PySem.W.subIn K (.type n) (.ref (He.ga K x)) = some false)) && cs.all fun y => PySem.W.notFirst K (He.ga K x) (.ref (He.ga K y))
def fNe (x : Str) : Fct := fun K => He.eqO (PySem.W.findIn K (.ref (He.ga K x)) "__ne__") (some (some (.builtin "object.__ne__"))) && decide (PySem.W.subIn K (.ref (He.ga K x)) (.type "object") = some true)
def fBin (x : Str) (op : Operator) : Fct := fun K => PySem.W.selfFirst K (He.ga K x) && (He.eqO (PySem.W.findIn K (.ref (He.ga K x)) (dunderR op.info.2)) (some none) &&
  tagB.all fun n => (PySem.W.findIn K (.type n) (PySem.dunder op.info.2)).isSome && (PySem.W.findIn K (.type n) (dunderR op.info.2)).isSome)
def ansOf (ts : List String) (cs : List Bool) : Sum String Nat → Option Bool
  | .inl n => if n ∈ tagB then some (decide (n ∈ ts)) else none
  | .inr k => cs[k]?
def fIsi (u : PySem.W.Frag → Value) (ts : List String) (cs : List Str) (bs : List Bool) : Fct := fun K => (tagB.all fun n => decide (PySem.W.kitOne K (.type n) (u K) = some (decide (n ∈ ts)))) && (List.zip cs bs).all fun q => decide (PySem.W.kitOne K (.ref (He.ga K q.1)) (u K) = some q.2)
section
variable {x y f m : Str}
theorem Tx.glo (t : Tx oks fn K mg) (i : Nat) (h : oks[i]? = some (fGlo x) := by rfl) : mg x = some (.ref (He.ga K x)) := let ⟨_, X, G⟩ := t.g; He.glo_ok X G (t.c.fact i h)
theorem Tx.free (t : Tx oks fn K mg) (i : Nat) (h : oks[i]? = some (fFree x) := by rfl) : mg x = none := let ⟨_, X, G⟩ := t.g; He.free_ok X G (t.c.fact i h)
theorem Tx.cls (t : Tx oks fn K mg) (i : Nat) (h : oks[i]? = some (fCls x) := by rfl) : Cls K (He.ga K x) := He.cls_ok (t.c.fact i h)
theorem Tx.noat (t : Tx oks fn K mg) (i : Nat) (h : oks[i]? = some (fNoat x f) := by rfl) : NoAttr K (He.ga K x) f := He.noat_ok (t.c.fact i h)
theorem Tx.meth (t : Tx oks fn K mg) (i : Nat) (h : oks[i]? = some (fMeth x m) := by rfl) : Meth K (He.ga K x) m (He.ma K (He.ga K x) m) := He.meth_ok (t.c.fact i h)
theorem Tx.mk_ (t : Tx oks fn K mg) (i : Nat) (h : oks[i]? = some (fMk x) := by rfl) : Mk K (He.ga K x) (He.ma K (He.ga K x) "__init__") := He.mkr_ok (t.c.fact i h)
theorem Tx.clsI (t : Tx oks fn K mg) (i : Nat) (h : oks[i]? = some (fClsI x) := by rfl) : ClsI K (He.ga K x) := by
  have q := t.c.fact i h
  obtain ⟨q1, q⟩ := He.ba q
  obtain ⟨q2, q⟩ := He.ba q
  obtain ⟨q3, q⟩ := He.ba q
  obtain ⟨q4, q5⟩ := He.ba q
  exact ⟨He.cls_ok q1, He.eqO_ok q2, He.eqO_ok q3, of_decide_eq_true q4, of_decide_eq_true q5⟩
theorem Tx.prop (t : Tx oks fn K mg) (i : Nat) (h : oks[i]? = some (fProp x y) := by rfl) : PropOf K (He.ga K x) y (He.ma K (He.ga K x) y) (He5.wf K (He.ga K x) "property" y) := by
  have q := t.c.fact i h
  obtain ⟨q1, q⟩ := He.ba q
  obtain ⟨q2, q⟩ := He.ba q
  obtain ⟨q3, q4⟩ := He.ba q
  refine ⟨He.eqO_ok q1, He.eqO_ok q2, of_decide_eq_true q3, ?_⟩
  unfold He5.wf
  split at q4
  · rename_i f r e
    exact ⟨r, by rw [e]⟩
  · cases q4
theorem Tx.ne (t : Tx oks fn K mg) (i : Nat) (h : oks[i]? = some (fNe x) := by rfl) : PySem.W.findIn K (.ref (He.ga K x)) "__ne__" = some (some (.builtin "object.__ne__")) ∧ PySem.W.subIn K (.ref (He.ga K x)) (.type "object") = some true := by
  obtain ⟨q1, q2⟩ := He.ba (t.c.fact i h)
  exact ⟨He.eqO_ok q1, of_decide_eq_true q2⟩
theorem Tx.bin {op : Operator} (t : Tx oks fn K mg) (i : Nat) (h : oks[i]? = some (fBin x op) := by rfl) : PySem.W.selfFirst K (He.ga K x) = true ∧ PySem.W.findIn K (.ref (He.ga K x)) (dunderR op.info.2) = some none ∧
    ∀ n ∈ tagB, ∃ fo ro, PySem.W.findIn K (.type n) (PySem.dunder op.info.2) = some fo ∧ PySem.W.findIn K (.type n) (dunderR op.info.2) = some ro := by
  obtain ⟨q1, q⟩ := He.ba (t.c.fact i h)
  obtain ⟨q2, q⟩ := He.ba q
  refine ⟨q1, He.eqO_ok q2, fun n hn => ?_⟩
  obtain ⟨z1, z2⟩ := He.ba (List.all_eq_true.mp q n hn)
  obtain ⟨a, ea⟩ := Option.isSome_iff_exists.mp z1
  obtain ⟨b, eb⟩ := Option.isSome_iff_exists.mp z2
  exact ⟨a, b, ea, eb⟩
/-- the classes of the text by their numbers -/
abbrev Tab_ := PySem.W.Frag → Addr × Str
def tbOf (cs : List (Str × List Str)) (tf : List Tab_) (K : PySem.W.Frag) : Tb := { tb := tf.map fun f => f K, cls := fun k => He.ga K (cs.getD k ("", [])).1, names := fun k => (cs.getD k ("", [])).2, fn := fun _ => 0 }
theorem Tx.cmpI {X : Cx} {cs : List (Str × List Str)} {tf : List Tab_} (t : Tx oks fn X.K mg) (i : Nat) (h : oks[i]? = some (fCmp x (cs.map (·.1))) := by rfl) : CmpI X (tbOf cs tf X.K) cs.length (He.ga X.K x) := by
  obtain ⟨q1, q2⟩ := He.ba (t.c.fact i h)
  refine ⟨fun n hn => of_decide_eq_true (List.all_eq_true.mp q1 n hn), fun k hk => ?_⟩
  have e : (cs.getD k ("", [])) = cs[k] := by rw [List.getD_eq_getElem?_getD, List.getElem?_eq_getElem hk]; rfl
  show PySem.W.notFirst X.K (He.ga X.K x) (.ref (He.ga X.K (cs.getD k ("", [])).1)) = true
  rw [e]
  exact List.all_eq_true.mp q2 _ (List.mem_map.mpr ⟨_, List.getElem_mem hk, rfl⟩)
theorem Tx.isi {cs : List (Str × List Str)} {tf : List Tab_} {u : PySem.W.Frag → Value} {ts : List String} {bs : List Bool} (t : Tx oks fn K mg) (i : Nat) (hl : bs.length = cs.length) (h : oks[i]? = some (fIsi u ts (cs.map (·.1)) bs) := by rfl) :
    ∀ (s : Sum String Nat) b, ansOf ts bs s = some b → PySem.W.kitOne K (tagV (tbOf cs tf K) s) (u K) = some b := by
  obtain ⟨q1, q2⟩ := He.ba (t.c.fact i h)
  intro s b e
  cases s with
  | inl n =>
    simp only [ansOf] at e
    split at e
    · rename_i hn
      cases e
      exact of_decide_eq_true (List.all_eq_true.mp q1 n hn)
    · cases e
  | inr k =>
    simp only [ansOf] at e
    have hk : k < bs.length := (List.getElem?_eq_some_iff.mp e).1
    have hc : k < cs.length := by omega
    have e1 : (cs.getD k ("", [])) = cs[k] := by rw [List.getD_eq_getElem?_getD, List.getElem?_eq_getElem hc]; rfl
    show PySem.W.kitOne K (.ref (He.ga K (cs.getD k ("", [])).1)) (u K) = some b
    rw [e1]
    have mem : (cs[k].1, b) ∈ List.zip (cs.map (·.1)) bs := by
      refine List.mem_of_getElem? (i := k) ?_
      rw [List.getElem?_zip_eq_some]
      exact ⟨by rw [List.getElem?_map, List.getElem?_eq_getElem hc]; rfl, e⟩
    exact of_decide_eq_true (List.all_eq_true.mp q2 _ mem)
end
end
/-! ### built-in names -/
theorem bo_abs : bootBuiltins "abs" = some (.builtin "abs") := by decide +kernel
theorem bo_len : bootBuiltins "len" = some (.builtin "len") := by decide +kernel
theorem bo_max : bootBuiltins "max" = some (.builtin "max") := by decide +kernel
theorem bo_min : bootBuiltins "min" = some (.builtin "min") := by decide +kernel
theorem bo_repr : bootBuiltins "repr" = some (.builtin "repr") := by decide +kernel
theorem bo_all : bootBuiltins "all" = some (.builtin "all") := by decide +kernel
theorem bo_any : bootBuiltins "any" = some (.builtin "any") := by decide +kernel
theorem bo_sum : bootBuiltins "sum" = some (.builtin "sum") := by decide +kernel
theorem bo_divmod : bootBuiltins "divmod" = some (.builtin "divmod") := by decide +kernel
theorem bo_isinstance : bootBuiltins "isinstance" = some (.builtin "isinstance") := by decide +kernel
theorem bo_int : bootBuiltins "int" = some (.type "int") := by decide +kernel
theorem bo_bool : bootBuiltins "bool" = some (.type "bool") := by decide +kernel
theorem bo_str : bootBuiltins "str" = some (.type "str") := by decide +kernel
theorem bo_list : bootBuiltins "list" = some (.type "list") := by decide +kernel
theorem bo_tuple : bootBuiltins "tuple" = some (.type "tuple") := by decide +kernel
theorem bo_dict : bootBuiltins "dict" = some (.type "dict") := by decide +kernel
section
variable {gu : Prop} {X : Cx} {c : Cy} {W : WX} {k kc nC : Nat} {f C : Addr} {fd : FuncData} {ps : List Str} {fm : List D → M D} {x m : Str} {p : Pos} {T : String}
theorem pe_bty (hm : X.mg x = none) (hv : bootBuiltins x = some (.type T)) (hg : Gl X x := by rfl) (hn : x ≠ "__name__" := by decide) (hdb : (x == ("__debug__" : Str)) = false := by decide) : PE X (.Name x p) (tC (.ty T)) :=
  ⟨fun pins s σ H Q I h => ld_blt I hg hm hv ⟨.ty T, H, I, rfl, h⟩ hn hdb⟩
theorem pe_gcl {C : Addr} (hm : X.mg x = some (.ref C)) (hg : Gl X x := by rfl) (hd : (x == ("__debug__" : Str)) = false := by decide) : PE X (.Name x p) (tC (.ref C)) := pe_glob hg hm rfl hd
theorem ov_binS {op : Operator} (hd : PySem.dunder op.info.2 = m) (hCs : ∀ k, k < nC → ClsI X.K (c.T.cls k)) (hK : c.K = X.K) (hC : c.T.cls kc = C) (hn1 : ∀ k, k < nC → c.T.cls k = C) (ci : CmpI X c.T nC C) (hm : Meth X.K C m f)
    (hB : PySem.W.selfFirst X.K C = true ∧ PySem.W.findIn X.K (.ref C) (dunderR op.info.2) = some none ∧ ∀ n ∈ tagB, ∃ fo ro, PySem.W.findIn X.K (.type n) (PySem.dunder op.info.2) = some fo ∧ PySem.W.findIn X.K (.type n) (dunderR op.info.2) = some ro)
    (F : FnG gu X.prog X.w X.K X.mg X.base (L2.CX X.prog X.w) k f fd ps (spF c.K c.T 2 fm)) (hr : Rm gu k X.A) (hb : Binds X.K fd ps []) (tk : Takes X W) : OpV X c W (binaryOp op) (ownM nC kc fm) :=
  ov_bin hCs hK hC hn1 ci hB.1 (by rw [hd]; exact hm.at_) hm.fn hB.2.1 (.inl rfl) hB.2.2 F hr hb tk
theorem du_add : PySem.dunder Operator.Add.info.2 = "__add__" := by decide +kernel
theorem du_sub : PySem.dunder Operator.Sub.info.2 = "__sub__" := by decide +kernel
theorem du_mul : PySem.dunder Operator.Mult.info.2 = "__mul__" := by decide +kernel
theorem cst_nil : Cst c [] [] := fun H => RL.nil
theorem cst_cons {d : D} {v : V} {dd : List D} {dvs : List V} (h : ∀ H, c.R H d v) (hs : Cst c dd dvs) : Cst c (d :: dd) (v :: dvs) := fun H => by
  simp only [Cy.RL, RL]
  exact ⟨v, dvs, rfl, h H, hs H⟩
theorem cst_int {i : Int} {dd : List D} {dvs : List V} (hs : Cst c dd dvs) : Cst c (.int i :: dd) (.int i :: dvs) := cst_cons (fun H => by simp [Cy.R, R]) hs
theorem cst_non {dd : List D} {dvs : List V} (hs : Cst c dd dvs) : Cst c (.non :: dd) (.non :: dvs) := cst_cons (fun H => by simp [Cy.R, R]) hs
theorem cst_str {x : Str} {dd : List D} {dvs : List V} (hs : Cst c dd dvs) : Cst c (.str x :: dd) (.str x :: dvs) := cst_cons (fun H => by simp [Cy.R, R]) hs
theorem cst_bl {x : Bool} {dd : List D} {dvs : List V} (hs : Cst c dd dvs) : Cst c (.bl x :: dd) (.bl x :: dvs) := cst_cons (fun H => by simp [Cy.R, R]) hs
end
/-! ### operators that look at the kinds -/
abbrev addU : D → D → M D := orM (pu iAdd) (orM (pu sAdd) (orM (boxM lCat) tCat))
section
variable {gu : Prop} {X : Cx} {c : Cy} {W : WX}
theorem od_addU (hK : c.K = X.K := by rfl) : OpD X c W (binaryOp .Add) addU := od_iAdd.or (od_sAdd.or (od_lCat.d.or (od_tCat hK)))
end
end DF

set_option Elab.async false
set_option linter.all false
set_option maxRecDepth 100000
set_option maxHeartbeats 4000000
namespace DF
open PySem L2
section
variable {X : Cx} {x : Str} {T : String} {r : List V → Hp → VK → Prop} {t : TA} {e : Expr} {es : List Expr} {p pos : Pos}
theorem pe_cty (hc : CallR X (.type T) r) (hm : X.mg x = none) (hv : bootBuiltins x = some (.type T)) (ha : PA X (e :: es) t) (hg : Gl X x := by rfl) (hn : x ≠ "__name__" := by decide) (hdb : (x == ("__debug__" : Str)) = false := by decide)
    (he : starEach (e :: es) X.env = (false, eval e X.env) :: starEach es X.env := by rfl) (hpl : (backTo pos (starEach es X.env)).any (·.1) = false := by rfl) : PE X (.Call (.Name x p) (e :: es) [] pos) (tCB r t) :=
  ⟨fun pins s σ H Q I h => wpAny_Call_Name_kw (ld_blt I hg hm hv (PyProof.Rows.callWith_type1 (thn (ha.run pos pins s σ H _ I h) fun us s1 ⟨vs, H1, I1, r1, q1⟩ => hc pins s1 σ H1 vs us Q I1 r1 q1) he hpl) hn hdb)⟩
end
/-! ### the law's pot: what is asked of it -/
def PotOk (pt : Pot) : Prop := 0 ≤ pt.1 ∧ 0 < pt.2 ∧ pt.2 ≤ 2147483629
def spPot (K : PySem.W.Frag) : Sp := fun vs H Q _ => ∃ (a : Addr) (ns : List Int) (k : Int), vs = [.ref a, .int k] ∧ SqL K H a (ns.map V.int) ∧ 0 ≤ k ∧ k < 100 ∧ ∀ pt : Pot, PotOk pt → ∀ l, H l = none → Q (.ref l) (upd H l (potO pt))
theorem small_mul {i j : Int} (hi : 0 ≤ i) (hj : 0 ≤ j) (h1 : i < 4294967296) (h2 : j < 4294967296) : CMulW i j := by
  have a : i.natAbs < 2 ^ 32 := by omega
  have b : j.natAbs < 2 ^ 32 := by omega
  exact wide_mul a b (by decide) (by decide) (by decide)
def absI (i : Int) : Int := if i < 0 then -i else i
theorem absI_nn (i : Int) : 0 ≤ absI i := by unfold absI; split <;> omega
theorem pot_ok (c k : Int) (h0 : 0 ≤ k) (h1 : k < 100) : PotOk (if absI c - 10 ^ (18 : Int).toNat > 0 then absI c - 10 ^ (18 : Int).toNat else 0, (absI c % 2147483563 * 40009 + 61297 * k + 17) % 2147483629 + 1) := by
  refine ⟨?_, ?_, ?_⟩
  · show 0 ≤ (if absI c - 10 ^ (18 : Int).toNat > 0 then absI c - 10 ^ (18 : Int).toNat else 0)
    split <;> omega
  · show 0 < (absI c % 2147483563 * 40009 + 61297 * k + 17) % 2147483629 + 1
    omega
  · show (absI c % 2147483563 * 40009 + 61297 * k + 17) % 2147483629 + 1 ≤ 2147483629
    omega
theorem cell_at {ns : List Int} {k : Int} (h0 : 0 ≤ k) (h : k < (ns.map V.int).length) : ∃ c, atI (ns.map V.int) k = some (.int c) := by
  have hn : k.toNat < ns.length := by
    rw [List.length_map] at h
    omega
  refine ⟨ns[k.toNat], ?_⟩
  unfold atI ixN
  rw [if_pos h0, if_pos h, Option.bind_some, List.getElem?_map, List.getElem?_eq_getElem hn]
  rfl
theorem cell_read {K : PySem.W.Frag} {H : Hp} {a : Addr} {ns : List Int} {k : Int} {σ : L2.St} {Q : VK} (hS : SqL K H a (ns.map V.int)) (h0 : 0 ≤ k) (h1 : k < 100) (e0 : σ[0]? = some (some (.ref a))) (e1 : σ[1]? = some (some (.int k))) (fin : ∀ c : Int, Q (.int c) H) :
    tIf (tTest (tOp (rI0 fun i j => .bl (decide (i < j))) (tVar 1) (tCB (fun xs H Q => ∃ x n, xs = [x] ∧ LenV K x H n ∧ Q (.int n) H) (tCons (tVar 0) tNil)))) (tOp (rIxL K) (tVar 0) (tVar 1)) (tOp (rI CMulW fun i j => .int (i * j)) (tC (.int 7)) (tVar 1)) σ H Q := by
  refine ⟨_, e1, _, e0, _, _, rfl, .inl ⟨_, hS, rfl⟩, _, _, rfl, rfl, _, rfl, ?_⟩
  by_cases hk : k < (ns.map V.int).length
  · rw [decide_eq_true hk]
    obtain ⟨c, hc⟩ := cell_at h0 hk
    exact ⟨_, e0, _, e1, a, _, k, _, rfl, rfl, hS, hc, fin c⟩
  · rw [decide_eq_false hk]
    exact ⟨_, e1, _, _, rfl, rfl, small_mul (by decide) h0 (by decide) (by omega), fin _⟩
/-! ### the law -/
theorem rd_nt {H H' : Hp} {a : Addr} {u : HO} (g : ∀ a o, H a = some o → nt o = true → H' a = some o) (n : nt u = true) (h : Rd H a u) : Rd H' a u := h.elim (fun h => .inl (g _ _ h n)) fun ⟨o, h⟩ => .inr ⟨o, g _ _ h rfl⟩
theorem sql_nt {K : PySem.W.Frag} {H H' : Hp} {a : Addr} {xs : List V} (g : ∀ a o, H a = some o → nt o = true → H' a = some o) (h : SqL K H a xs) : SqL K H' a xs := h.elim (fun h => .inl (rd_nt g rfl h)) .inr
def spLaw (K : PySem.W.Frag) (T : Tb) : Sp := fun vs H Q _ => ∃ (a : Addr) (ns : List Int), vs = [.ref a] ∧ SqL K H a (ns.map V.int) ∧ ns.length ≤ 63 ∧ LamX.Tabs T.tb H ∧ ∀ H', Q (.bl true) H'
theorem tab_upd {tb : List (Addr × Str)} {H : Hp} {a : Addr} {o u : HO} (h : LamX.Tabs tb H) (e : H a = some u) (m : mt u = true) : LamX.Tabs tb (L2.upd H a o) := fun q hq => by
  obtain ⟨ps, h1, h2, h3⟩ := h q hq
  refine ⟨ps, ?_, h2, fun pos cv hc => ?_⟩
  · rw [upd_ne (fun z => by rw [z, e] at h1; cases h1; cases m)]
    exact h1
  · obtain ⟨c, e1, e2⟩ := h3 pos cv hc
    refine ⟨c, e1, ?_⟩
    rw [upd_ne (fun z => by
      rw [z, e] at e2
      have e3 : u = LamX.CodeO a q.2 := Option.some.inj e2
      rw [e3] at m
      cases m)]
    exact e2
/-- a def that tells True of every pot -/
def AllPots (m : List D → M D) : Prop := ∀ pt, PotOk pt → ∃ pt', m [.pot] pt = .ok (.bl true) pt'
theorem right_sp {K : PySem.W.Frag} {T : Tb} {m : List D → M D} (hm : AllPots m) {H : Hp} {l : Addr} {pt : Pot} (hp : PotOk pt) (hl : H l = some (potO pt)) (hT : LamX.Tabs T.tb H) {Q : VK} {E : XK}
    (q : ∀ H', (∀ a o, a ≠ l → H a = some o → nt o = true → H' a = some o) → LamX.Tabs T.tb H' → Q (.bl true) H') : spF K T 1 m [.ref l] H Q E := by
  obtain ⟨pt', e⟩ := hm pt hp
  refine ⟨l, [l], [.pot], pt, List.mem_singleton.mpr rfl, fun a ha => ?_, rfl, ?_, ⟨hl, hT⟩, ?_⟩
  · rw [List.mem_singleton.mp ha]
    exact ⟨_, hl, rfl⟩
  · simp [RL, R]
  · rw [e]
    intro v H' st rv
    simp only [Cy.R, R] at rv
    subst rv
    exact q H' (fun a o n e m => st.keep a o n e m) st.pot.tab
theorem law_lc {K : PySem.W.Frag} {T : Tb} {m : List D → M D} (hm : AllPots m) {n : Nat} (hn : n < 100) {a : Addr} {ns : List Int} {H : Hp} {Q : VK} {σ : L2.St} (hS : SqL K H a (ns.map V.int)) (hT : LamX.Tabs T.tb H) (es : σ = [some (.ref a), none])
    (q : ∀ D H', H' D = some (.lst ((List.replicate n true).map V.bl)) → Q (.ref D) H') :
    ∀ D, H D = none → ∃ W : Nat → Nat → Hp → Prop, (∃ m, W 0 m (upd H D (.lst []))) ∧ ∀ i mm H, W i mm H →
      ((Itr 0 n).stop i H ∧ Q (.ref D) H) ∨ ((Itr 0 n).go i H ∧ ∃ Nx : Hp → Prop, (∀ H', Nx H' → ∃ m', m' < mm ∧ W (i + 1) m' H') ∧ ∀ x H', (Itr 0 n).yld i H x H' → gName 1 x (wipe σ [1]) H' fun σ2 H2 => wipe σ2 [1] = wipe σ [1] ∧ tYes σ2 H2 fun b H3 =>
        if b = true then tCallA (spF K T 1 m) [] (WE W0) (tCons (tCallA (spPot K) [] (WE W0) (tCons (tVar 0) (tCons (tVar 1) tNil))) tNil) σ2 H3 fun y H4 => ∃ acc, H4 D = some (.lst acc) ∧ acc.length < sizeLine ∧ Nx (upd H4 D (.lst (acc ++ [y]))) else Nx H3) := by
  subst es
  intro D hD
  refine lc_range (lo := 0) (g := gName 1) (tt := tYes) (te := tCallA (spF K T 1 m) [] (WE W0) (tCons (tCallA (spPot K) [] (WE W0) (tCons (tVar 0) (tCons (tVar 1) tNil))) tNil)) (vs := [1]) (σ := [some (.ref a), none]) (Pv := fun i H' => i ≤ n ∧ ((∀ b o, H b = some o → nt o = true → H' b = some o) ∧ LamX.Tabs T.tb H') ∧ H' D = some (.lst ((List.replicate i true).map V.bl))) ⟨Nat.zero_le _, ⟨fun b o e _ => by rw [upd_ne (ne_of_none e hD)]; exact e, hT.ext fun b o e => by rw [upd_ne (ne_of_none e hD)]; exact e⟩, upd_same⟩ (fun i H' hi ⟨_, g, hd⟩ => ?_) fun H' ⟨_, g, hd⟩ => q D H' hd
  refine ⟨rfl, ?_⟩
  show tCallA (spF K T 1 m) [] (WE W0) (tCons (tCallA (spPot K) [] (WE W0) (tCons (tVar 0) (tCons (tVar 1) tNil))) tNil) [some (.ref a), some (.int (0 + (i : Int)))] H' _
  obtain ⟨g, gT⟩ := g
  refine ⟨_, rfl, _, rfl, a, ns, _, rfl, sql_nt g hS, by omega, by omega, fun pt hp l hl => ?_⟩
  have gl : ∀ b o, H' b = some o → upd H' l (potO pt) b = some o := fun b o e => by rw [upd_ne (ne_of_none e hl)]; exact e
  refine right_sp hm hp upd_same (gT.ext gl) fun H2 kp kT => ?_
  have hDl : D ≠ l := ne_of_none hd hl
  have hd2 : H2 D = some (.lst ((List.replicate i true).map V.bl)) := kp D _ hDl (by rw [upd_ne hDl]; exact hd) rfl
  refine ⟨_, hd2, ?_, hi, ⟨fun b o e n => ?_, fun q hq => ?_⟩, ?_⟩
  · rw [List.length_map, List.length_replicate]
    exact Nat.lt_of_lt_of_le (Nat.lt_trans hi hn) (by decide)
  · have bD : b ≠ D := ne_of_none e hD
    have bl : b ≠ l := ne_of_none (g b o e n) hl
    rw [upd_ne bD]
    exact kp b o bl (by rw [upd_ne bl]; exact g b o e n) n
  · exact tab_upd kT hd2 rfl q hq
  · rw [upd_same, List.replicate_succ', List.map_append]
    rfl
theorem all_reps (n : Nat) : (List.replicate n true).all id = true := by
  rw [List.all_eq_true]
  intro x hx
  rw [List.eq_of_mem_replicate hx]
  rfl
theorem cap_ok {m : Int} (h : m ≤ 90) : -(2 ^ 62) ≤ (if m > 1 then m else 1) ∧ (if m > 1 then m else 1) < (2 ^ 62 : Int) ∧ (if m > 1 then m else 1).toNat < 100 := by
  split <;> refine ⟨?_, ?_, ?_⟩ <;> omega
theorem cx_no {P : Program} {w : World} (H : Hp) (s : Shared) (e : Value) (s' : Shared) (h : L2.CX P w [] H s (fun _ _ _ => False) e s') : False := by
  obtain ⟨_, _, _, _, _, _, _, _, _, _, _, _, z⟩ := h
  exact z
/-- the end of a law whose defs may let exceptions out -/
theorem walkZ {lw : PySem.W.OpenLaw} {k : Nat} {qq : Program} {loose : List Str} {XP : (Str → Option Value) → Heap → Prop} {YP : World → Heap → Prop} {dd : DefRec} {x : Str} (h63 : lw.most = some 63) (hdf : dd.params.defaults = []) (hrm : Room k callerA)
    (F : ∀ (w : World) (mg : Str → Option Value) (fa : Addr) (hh : Heap), YP w hh → hh.Ns mainGlobals mg → mg dd.name = some (.ref fa) → ∃ (K : PySem.W.Frag) (fd : FuncData) (cs : List (Addr × Addr)) (T : Tb), K.In hh ∧ (∀ p ∈ cs, hh.get? p.2 = some { cls := .none, data := .fields #[] }) ∧ (∀ p ∈ cs, K.lookup p.2 = none) ∧ (∀ p ∈ cs, PySem.W.CodeHd hh p.1 p.2) ∧
        (∀ q ∈ T.tb, ∃ p ∈ cs, p.2 = q.1) ∧ (∀ (s : Shared) (u : Value), BindsTo s fd ⟨[u], []⟩ [(x, u)]) ∧
        ∀ bb : Heap, K.In bb → bb.Ns mainGlobals mg → (∀ p ∈ cs, LamX.TabB bb mg p.1 p.2) → FnOk lw.prog w K mg bb (L2.CX lw.prog w) k fa fd [x] (spLaw K T)) : PySem.W.WalkO qq loose XP YP lw.row.toRowW dd [] (fun f vs => PySem.call f vs) := by
  refine LamX.walk_ofTsE (x := x) (CX := fun w => L2.CX lw.prog w) h63 (by decide) hdf hrm (fun w mg fa h Y G hm => ?_) fun w H s e s' => cx_no H s e s'
  obtain ⟨K, fd, cs, T, KX, h1, h2, h3, h4, hb, hF⟩ := F w mg fa h Y G hm
  refine ⟨K, KX, fd, cs, spLaw K T, h1, h2, h3, hb, fun H a ns hl _ hH hS => ⟨a, ns, rfl, hS, hl, fun q hq => ?_, fun _ => rfl⟩, hF⟩
  obtain ⟨p, hp, e⟩ := h4 q hq
  exact LamX.TabS.nil (e ▸ hH p hp)
end DF

set_option Elab.async false
set_option linter.all false
set_option maxRecDepth 100000
set_option maxHeartbeats 4000000
/-! DFG: the mirrors worked out by simp. -/
namespace DF
open PySem L2
section
variable {α β : Type} {ρ : Slots} {pt : Pot}
def bndR (r : Res α) (k : α → M β) : Res β := match r with
  | .ok a q => k a q
  | .exc c fs q => .exc c fs q
  | .stuck => .stuck
@[simp] theorem e_bnd (m : M α) (k : α → M β) : bnd m k pt = bndR (m pt) k := by unfold bnd bndR; rfl
@[simp] theorem e_bndok (a : α) (q : Pot) (k : α → M β) : bndR (.ok a q) k = k a q := rfl
@[simp] theorem e_bndst (k : α → M β) : bndR .stuck k = .stuck := rfl
@[simp] theorem e_bndex (c : Nat) (fs : List D) (q : Pot) (k : α → M β) : bndR (.exc c fs q) k = .exc c fs q := rfl
@[simp] theorem e_ret (a : α) : ret a pt = .ok a pt := rfl
@[simp] theorem e_fail : (fail : M α) pt = .stuck := rfl
@[simp] theorem e_some (a : α) : opt (some a) pt = .ok a pt := rfl
@[simp] theorem e_none : opt (none : Option α) pt = .stuck := rfl
@[simp] theorem e_ite {c : Prop} [Decidable c] (a b : M α) : (if c then a else b) pt = if c then a pt else b pt := by split <;> rfl
/-! slots -/
@[simp] theorem e_val (d : D) : valOf (some (some (.val d))) = some d := rfl
@[simp] theorem e_bval (d : D) : bvalOf (some (some (.val d))) = some d := rfl
@[simp] theorem e_bown (ds : List D) : bvalOf (some (some (.own ds))) = some (.lst ds) := rfl
@[simp] theorem e_var (i : Nat) : varE i ρ pt = opt (valOf ρ[i]?) pt := rfl
@[simp] theorem e_bvar (i : Nat) : bvarE i ρ pt = opt (bvalOf ρ[i]?) pt := rfl
@[simp] theorem e_c (d : D) : cE d ρ pt = .ok d pt := rfl
@[simp] theorem e_nilA : nilA ρ pt = .ok [] pt := rfl
@[simp] theorem e_consA (f : Slots → M D) (g : Slots → M (List D)) : consA f g ρ pt = bndR (f ρ pt) fun d => bnd (g ρ) fun ds => ret (d :: ds) := e_bnd _ _
@[simp] theorem e_tupE (g : Slots → M (List D)) : tupE g ρ pt = bndR (g ρ pt) fun ds => if ds.length ≤ 100000 then ret (.tup ds) else fail := e_bnd _ _
@[simp] theorem e_lenA (g : Slots → M (List D)) : lenA g ρ pt = bndR (g ρ pt) fun ds => if ds.length ≤ 100000 then ret ds else fail := e_bnd _ _
@[simp] theorem e_boxE (g : Slots → M (List D)) : boxE g ρ pt = bndR (g ρ pt) fun ds => ret (.lst ds) := e_bnd _ _
@[simp] theorem e_binE (g : D → D → M D) (fa fb : Slots → M D) : binE g fa fb ρ pt = bndR (fa ρ pt) fun x => bnd (fb ρ) fun y => g x y := e_bnd _ _
@[simp] theorem e_asB (b : Bool) : asB (.bl b) pt = .ok b pt := rfl
@[simp] theorem e_testE (f : Slots → M D) : testE f ρ pt = bndR (f ρ pt) asB := e_bnd _ _
@[simp] theorem e_andT (f g : Slots → M Bool) : andT f g ρ pt = bndR (f ρ pt) fun b => if b then g ρ else ret false := e_bnd _ _
@[simp] theorem e_orT (f g : Slots → M Bool) : orT f g ρ pt = bndR (f ρ pt) fun b => if b then ret true else g ρ := e_bnd _ _
@[simp] theorem e_notT (f : Slots → M Bool) : notT f ρ pt = bndR (f ρ pt) fun b => ret (!b) := e_bnd _ _
@[simp] theorem e_andE (f g : Slots → M D) : andE f g ρ pt = bndR (bndR (f ρ pt) asB) fun b => if b then g ρ else ret (.bl false) := by unfold andE; rw [e_bnd, e_bnd]
@[simp] theorem e_orE (f g : Slots → M D) : orE f g ρ pt = bndR (bndR (f ρ pt) asB) fun b => if b then ret (.bl true) else g ρ := by unfold orE; rw [e_bnd, e_bnd]
@[simp] theorem e_notE (f : Slots → M D) : notE f ρ pt = bndR (bndR (f ρ pt) asB) fun b => ret (.bl (!b)) := by unfold notE; rw [e_bnd, e_bnd]
@[simp] theorem e_ifE (t : Slots → M Bool) (f g : Slots → M D) : ifE t f g ρ pt = bndR (t ρ pt) fun b => if b then f ρ else g ρ := e_bnd _ _
def negK : D → M D
  | .int i => ret (.int (-i))
  | _ => fail
@[simp] theorem e_negE (f : Slots → M D) : negE f ρ pt = bndR (f ρ pt) negK := by
  unfold negE bnd bndR
  cases f ρ pt with
  | ok o q => cases o <;> rfl
  | _ => rfl
@[simp] theorem e_negK (i : Int) : negK (.int i) pt = .ok (.int (-i)) pt := rfl
/-! statements -/
@[simp] theorem e_nilS : nilS ρ pt = .ok (.nx ρ) pt := rfl
def seqK (g : Slots → M Out) : Out → M Out
  | .nx ρ' => g ρ'
  | o => ret o
@[simp] theorem e_seqS (f g : Slots → M Out) : seqS f g ρ pt = bndR (f ρ pt) (seqK g) := by
  unfold seqS bnd bndR
  cases f ρ pt with
  | ok o q => cases o <;> rfl
  | _ => rfl
@[simp] theorem e_seqK (g : Slots → M Out) : seqK g (.nx ρ) pt = g ρ pt := rfl
@[simp] theorem e_seqR (g : Slots → M Out) (d : D) : seqK g (.rt d) pt = .ok (.rt d) pt := rfl
@[simp] theorem e_retS (f : Slots → M D) : retS f ρ pt = bndR (f ρ pt) fun d => ret (.rt d) := e_bnd _ _
@[simp] theorem e_retNS : retNS ρ pt = .ok (.rt .non) pt := rfl
@[simp] theorem e_ifS (t : Slots → M Bool) (f g : Slots → M Out) : ifS t f g ρ pt = bndR (t ρ pt) fun b => if b then f ρ else g ρ := e_bnd _ _
@[simp] theorem e_asgS (i : Nat) (f : Slots → M D) : asgS i f ρ pt = bndR (f ρ pt) fun d => if i < ρ.length then ret (.nx (ρ.set i (some (.val d)))) else fail := e_bnd _ _
@[simp] theorem e_asgL (i : Nat) (f : Slots → M (List D)) : asgL i f ρ pt = bndR (f ρ pt) fun d => if i < ρ.length then ret (.nx (ρ.set i (some (.own d)))) else fail := e_bnd _ _
def finK : Out → M D
  | .rt d => ret d
  | .nx _ => ret .non
  | _ => fail
@[simp] theorem e_finr (d : D) : finK (.rt d) pt = .ok d pt := rfl
@[simp] theorem e_finn : finK (.nx ρ) pt = .ok .non pt := rfl
theorem e_fnM (n : Nat) (g : Slots → M Out) (ds : List D) : fnM n g ds pt = bndR (g (ini n ds) pt) finK := by
  unfold fnM bnd bndR
  cases g (ini n ds) pt with
  | ok o q => cases o <;> rfl
  | _ => rfl
def iniK (kc nf : Nat) : Out → M (List D)
  | .nx ρ => opt (fldsOf kc nf ρ)
  | _ => fail
@[simp] theorem e_iniK (kc nf : Nat) : iniK kc nf (.nx ρ) pt = opt (fldsOf kc nf ρ) pt := rfl
theorem e_iniM (kc nf n : Nat) (g : Slots → M Out) (ds : List D) : iniM kc nf n g ds pt = bndR (g (some (.slf kc []) :: ini n ds) pt) (iniK kc nf) := by
  unfold iniM bnd bndR
  cases g (some (.slf kc []) :: ini n ds) pt with
  | ok o q => cases o <;> rfl
  | _ => rfl
/-! operators -/
@[simp] theorem e_pu (g : D → D → Option D) (x y : D) : pu g x y pt = opt (g x y) pt := rfl
@[simp] theorem e_pu1 (g : List D → Option D) (x : List D) : pu1 g x pt = opt (g x) pt := rfl
@[simp] theorem e_blt (g : List D → M α) (fa : Slots → M (List D)) : bltE g fa ρ pt = bndR (fa ρ pt) g := e_bnd _ _
@[simp] theorem e_iop (g : Int → Int → Int) (i j : Int) : iop g (.int i) (.int j) = some (.int (g i j)) := rfl
@[simp] theorem e_iopC (C : Int → Int → Bool) (g : Int → Int → Int) (i j : Int) : iopC C g (.int i) (.int j) = if C i j then some (.int (g i j)) else none := rfl
@[simp] theorem e_icmp (g : Int → Int → Bool) (i j : Int) : icmp g (.int i) (.int j) = some (.bl (g i j)) := rfl
@[simp] theorem e_addI (i j : Int) : addU (.int i) (.int j) pt = .ok (.int (i + j)) pt := rfl
@[simp] theorem e_addS (i j : Str) : addU (.str i) (.str j) pt = (pu sAdd (.str i) (.str j)) pt := by
  show (match pu sAdd (.str i) (.str j) pt with
    | .stuck => orM (boxM lCat) tCat (.str i) (.str j) pt
    | r => r) = _
  cases e : pu sAdd (.str i) (.str j) pt <;> rfl
@[simp] theorem e_eqI (i j : Int) : dEq (.int i) (.int j) = some (.bl (decide (i = j))) := rfl
@[simp] theorem e_neI (i j : Int) : dNe (.int i) (.int j) = some (.bl (!decide (i = j))) := rfl
@[simp] theorem e_eqS (i j : Str) : dEq (.str i) (.str j) = some (.bl (decide (i = j))) := rfl
@[simp] theorem e_neS (i j : Str) : dNe (.str i) (.str j) = some (.bl (!decide (i = j))) := rfl
@[simp] theorem e_eqB (i j : Bool) : dEq (.bl i) (.bl j) = some (.bl (decide (i = j))) := rfl
@[simp] theorem e_neB (i j : Bool) : dNe (.bl i) (.bl j) = some (.bl (!decide (i = j))) := rfl
@[simp] theorem e_call (n : Nat) (fm : List D → M D) (dd : List D) (fa : Slots → M (List D)) : callE n fm dd fa ρ pt = bndR (fa ρ pt) fun ds => if (ds ++ dd).length = n then fm (ds ++ dd) else fail := e_bnd _ _
@[simp] theorem e_make (kc n : Nat) (m : List D → M (List D)) (dd : List D) (fa : Slots → M (List D)) : makeE kc n m dd fa ρ pt = bndR (fa ρ pt) fun ds => if (ds ++ dd).length + 1 = n then bnd (m (ds ++ dd)) fun fs => ret (.obj kc fs) else fail := e_bnd _ _
def getK (kc ix : Nat) : D → M D
  | .obj j fs => if j = kc then opt fs[ix]? else fail
  | _ => fail
@[simp] theorem e_getE (kc ix : Nat) (fo : Slots → M D) : getE kc ix fo ρ pt = bndR (fo ρ pt) (getK kc ix) := by
  unfold getE bnd bndR
  cases fo ρ pt with
  | ok o q => cases o <;> rfl
  | _ => rfl
@[simp] theorem e_getK (kc ix : Nat) (fs : List D) : getK kc ix (.obj kc fs) pt = opt fs[ix]? pt := by
  show (if kc = kc then opt fs[ix]? else fail) pt = _
  rw [if_pos rfl]
def noXR (r : Res α) : Res α := match r with
  | .exc _ _ _ => .stuck
  | r => r
@[simp] theorem e_noX (m : M α) : noX m pt = noXR (m pt) := rfl
@[simp] theorem e_noXok (a : α) : noXR (.ok a pt) = .ok a pt := rfl
def propK (kc : Nat) (fm : List D → M D) : D → M D
  | .obj j fs => if j = kc then noX (fm [.obj j fs]) else fail
  | _ => fail
@[simp] theorem e_propE (kc : Nat) (fm : List D → M D) (fo : Slots → M D) : propE kc fm fo ρ pt = bndR (fo ρ pt) (propK kc fm) := by
  unfold propE bnd bndR
  cases fo ρ pt with
  | ok o q => cases o <;> rfl
  | _ => rfl
@[simp] theorem e_propK (kc : Nat) (fm : List D → M D) (fs : List D) : propK kc fm (.obj kc fs) pt = noXR (fm [.obj kc fs] pt) := by
  show (if kc = kc then noX (fm [.obj kc fs]) else fail) pt = _
  rw [if_pos rfl]
  rfl
def methK (kc n : Nat) (fm : List D → M D) (dd : List D) (fa : Slots → M (List D)) (ρ : Slots) : D → M D
  | .obj j fs => if j = kc then bnd (fa ρ) fun ds => if (ds ++ dd).length + 1 = n then fm (.obj j fs :: (ds ++ dd)) else fail else fail
  | _ => fail
@[simp] theorem e_methE (kc n : Nat) (fm : List D → M D) (dd : List D) (fo : Slots → M D) (fa : Slots → M (List D)) : methE kc n fm dd fo fa ρ pt = bndR (fo ρ pt) (methK kc n fm dd fa ρ) := by
  unfold methE bnd bndR
  cases fo ρ pt with
  | ok o q => cases o <;> rfl
  | _ => rfl
@[simp] theorem e_methK (kc n : Nat) (fm : List D → M D) (dd : List D) (fa : Slots → M (List D)) (fs : List D) : methK kc n fm dd fa ρ (.obj kc fs) pt = bndR (fa ρ pt) fun ds => if (ds ++ dd).length + 1 = n then fm (.obj kc fs :: (ds ++ dd)) else fail := by
  show (if kc = kc then bnd (fa ρ) fun ds => if (ds ++ dd).length + 1 = n then fm (.obj kc fs :: (ds ++ dd)) else fail else fail) pt = _
  rw [if_pos rfl]
  exact e_bnd _ _
def slfOf (kc ix : Nat) : Option (Option SV) → Option (List D)
  | some (some (.slf k fs)) => if k = kc ∧ fs.length = ix then some fs else none
  | _ => none
@[simp] theorem e_slf (kc ix : Nat) (fs : List D) : slfOf kc ix (some (some (.slf kc fs))) = if fs.length = ix then some fs else none := by
  unfold slfOf
  simp
@[simp] theorem e_fldS (i kc ix : Nat) (f : Slots → M D) : fldS i kc ix f ρ pt = bndR (f ρ pt) fun d => opt ((slfOf kc ix ρ[i]?).map fun fs => .nx (ρ.set i (some (.slf kc (fs ++ [d]))))) := by
  unfold fldS
  rw [e_bnd]
  congr 1
  funext d q
  match h : ρ[i]? with
  | some (some (.slf k fs)) =>
    simp only [slfOf]
    by_cases hz : k = kc ∧ fs.length = ix
    · rw [if_pos hz, if_pos hz, hz.1]
      rfl
    · rw [if_neg hz, if_neg hz]
      rfl
  | some (some (.val _)) => rfl
  | some (some (.own _)) => rfl
  | some (some (.ownd _)) => rfl
  | some (some (.exv _ _)) => rfl
  | some (some .lam) => rfl
  | some (some (.raw _)) => rfl
  | some none => rfl
  | none => rfl
@[simp] theorem e_flds (kc nf : Nat) (fs : List D) (r : Slots) (h : fs.length = nf) : fldsOf kc nf (some (.slf kc fs) :: r) = some fs := by
  unfold fldsOf
  simp [h]
@[simp] theorem e_ix0 : ixM .pot (.int 0) pt = .ok (.int pt.1) pt := rfl
@[simp] theorem e_ix1 : ixM .pot (.int 1) pt = .ok (.int pt.2) pt := rfl
@[simp] theorem e_ixT (ds : List D) (i : Int) : ixM (.tup ds) (.int i) pt = opt (atI ds i) pt := rfl
@[simp] theorem e_ixL (ds : List D) (i : Int) : ixM (.lst ds) (.int i) pt = opt (atI ds i) pt := rfl
@[simp] theorem e_at0 (d : D) (ds : List D) : atI (d :: ds) 0 = some d := by simp [atI, ixN]
@[simp] theorem e_at1 (d e : D) (ds : List D) : atI (d :: e :: ds) 1 = some e := by
  unfold atI ixN
  rw [if_pos (by decide), if_pos (by simp only [List.length_cons]; omega)]
  rfl
@[simp] theorem e_at2 (d e f : D) (ds : List D) : atI (d :: e :: f :: ds) 2 = some f := by
  unfold atI ixN
  rw [if_pos (by decide), if_pos (by simp only [List.length_cons]; omega)]
  rfl
@[simp] theorem e_isi (nC : Nat) (ans : Sum String Nat → Option Bool) (fo : Slots → M D) : isiE nC ans fo ρ pt = bndR (fo ρ pt) fun x => opt (((knd nC x).bind ans).map .bl) := e_bnd _ _
@[simp] theorem e_forS (fi : Slots → M (List D)) (tgf : D → Slots → Option Slots) (g : Slots → M Out) : forS fi tgf g ρ pt = bndR (fi ρ pt) fun items => forL tgf g items ρ := e_bnd _ _
def forK (tgf : D → Slots → Option Slots) (g : Slots → M Out) (ds : List D) : Out → M Out
  | .nx ρ2 => forL tgf g ds ρ2
  | .ct ρ2 => forL tgf g ds ρ2
  | .bk ρ2 => ret (.nx ρ2)
  | .rt d => ret (.rt d)
@[simp] theorem e_forL0 (tgf : D → Slots → Option Slots) (g : Slots → M Out) : forL tgf g [] ρ pt = .ok (.nx ρ) pt := rfl
@[simp] theorem e_forL (tgf : D → Slots → Option Slots) (g : Slots → M Out) (d : D) (ds : List D) : forL tgf g (d :: ds) ρ pt = bndR (opt (tgf d ρ) pt) fun ρ1 => bnd (g ρ1) (forK tgf g ds) := by
  show bnd (opt (tgf d ρ)) _ pt = _
  rw [e_bnd]
  cases opt (tgf d ρ) pt with
  | ok r q =>
    simp only [e_bndok, e_bnd]
    cases g r q with
    | ok o z => cases o <;> rfl
    | _ => rfl
  | _ => rfl
@[simp] theorem e_forK (tgf : D → Slots → Option Slots) (g : Slots → M Out) (ds : List D) : forK tgf g ds (.nx ρ) pt = forL tgf g ds ρ pt := rfl
@[simp] theorem e_forKr (tgf : D → Slots → Option Slots) (g : Slots → M Out) (ds : List D) (d : D) : forK tgf g ds (.rt d) pt = .ok (.rt d) pt := rfl
@[simp] theorem e_itE (f : Slots → M D) : itE f ρ pt = bndR (f ρ pt) fun d => opt (itemsOf d) := e_bnd _ _
@[simp] theorem e_itA (g : List D → Option (List D)) (fa : Slots → M (List D)) : itA g fa ρ pt = bndR (fa ρ pt) fun ds => opt (g ds) := e_bnd _ _
@[simp] theorem e_itT (ds : List D) : itemsOf (.tup ds) = some ds := rfl
@[simp] theorem e_itL (ds : List D) : itemsOf (.lst ds) = some ds := rfl
@[simp] theorem e_tgN (i : Nat) (d : D) : tgN i d ρ = if i < ρ.length then some (ρ.set i (some (.val d))) else none := rfl
@[simp] theorem e_tgT (ts : List (D → Slots → Option Slots)) (ds : List D) : tgT ts (.tup ds) ρ = tgs ts ds ρ := rfl
@[simp] theorem e_tgLT (ts : List (D → Slots → Option Slots)) (ds : List D) : tgL ts (.tup ds) ρ = tgs ts ds ρ := rfl
@[simp] theorem e_tgLL (ts : List (D → Slots → Option Slots)) (ds : List D) : tgL ts (.lst ds) ρ = tgs ts ds ρ := rfl
@[simp] theorem e_tgs0 : tgs [] [] ρ = some ρ := rfl
@[simp] theorem e_tgs (t : D → Slots → Option Slots) (ts : List (D → Slots → Option Slots)) (d : D) (ds : List D) : tgs (t :: ts) (d :: ds) ρ = (t d ρ).bind (tgs ts ds) := rfl
@[simp] theorem e_comp (fi : Slots → M (List D)) (vs : List Nat) (tgf : D → Slots → Option Slots) (t : Slots → M Bool) (f : Slots → M D) : compE fi vs tgf t f ρ pt = bndR (fi ρ pt) fun items => if noOwn ρ vs then compL tgf t f (wipeD ρ vs) items [] else fail := e_bnd _ _
@[simp] theorem e_compL0 (tgf : D → Slots → Option Slots) (t : Slots → M Bool) (f : Slots → M D) (acc : List D) : compL tgf t f ρ [] acc pt = .ok acc pt := rfl
@[simp] theorem e_compL (tgf : D → Slots → Option Slots) (t : Slots → M Bool) (f : Slots → M D) (d : D) (ds acc : List D) : compL tgf t f ρ (d :: ds) acc pt = bndR (opt (tgf d ρ) pt) fun ρ1 => bnd (noX (t ρ1)) fun b => if b then bnd (noX (f ρ1)) fun y => (if acc.length < 100000 then compL tgf t f ρ ds (acc ++ [y]) else fail) else compL tgf t f ρ ds acc := e_bnd _ _
@[simp] theorem e_yesT : yesT ρ pt = .ok true pt := rfl
@[simp] theorem e_wipe0 : wipeD ρ [] = ρ := rfl
@[simp] theorem e_wipe (v : Nat) (vs : List Nat) : wipeD ρ (v :: vs) = (wipeD ρ vs).set v none := rfl
@[simp] theorem e_unp (tgf : D → Slots → Option Slots) (f : Slots → M D) : unpS tgf f ρ pt = bndR (f ρ pt) fun d => bnd (opt (tgf d ρ)) fun ρ' => ret (.nx ρ') := e_bnd _ _
@[simp] theorem e_par (i j : Nat) (fa : Slots → M (List D)) : parS i j fa ρ pt = bndR (fa ρ pt) fun ds => bnd (opt (tgs [tgN i, tgN j] ds ρ)) fun ρ' => ret (.nx ρ') := e_bnd _ _
@[simp] theorem e_par3 (i j l : Nat) (fa : Slots → M (List D)) : par3S i j l fa ρ pt = bndR (fa ρ pt) fun ds => bnd (opt (tgs [tgN i, tgN j, tgN l] ds ρ)) fun ρ' => ret (.nx ρ') := e_bnd _ _
@[simp] theorem e_slE (fa : Slots → M D) (fl fh : Slots → M (Option Int)) : slE fa fl fh ρ pt = bndR (fa ρ pt) fun x => bnd (fl ρ) fun lo => bnd (fh ρ) fun hi => slM x lo hi := e_bnd _ _
@[simp] theorem e_noO : noO ρ pt = .ok none pt := rfl
def soK : D → M (Option Int)
  | .int i => ret (some i)
  | _ => fail
@[simp] theorem e_soO (f : Slots → M D) : soO f ρ pt = bndR (f ρ pt) soK := by
  unfold soO bnd bndR
  cases f ρ pt with
  | ok o q => cases o <;> rfl
  | _ => rfl
@[simp] theorem e_soK (i : Int) : soK (.int i) pt = .ok (some i) pt := rfl
@[simp] theorem e_joinE (fa fb : Slots → M D) : joinE fa fb ρ pt = bndR (fa ρ pt) fun x => bnd (opt (strOf1 x)) fun a => bnd (fb ρ) fun y => opt (joinF a y) := e_bnd _ _
@[simp] theorem e_str1 (x : Str) : strOf1 (.str x) = some x := rfl
@[simp] theorem e_oneE (g : D → Option D) (f : Slots → M D) : oneE g f ρ pt = bndR (f ρ pt) fun d => opt (g d) := e_bnd _ _
@[simp] theorem e_joined (fs : List (Slots → M D)) : joinedE fs ρ pt = glueE fs Str.empty ρ pt := rfl
@[simp] theorem e_glue0 (acc : Str) : glueE [] acc ρ pt = .ok (.str acc) pt := rfl
@[simp] theorem e_glue (f : Slots → M D) (fs : List (Slots → M D)) (acc : Str) : glueE (f :: fs) acc ρ pt = bndR (f ρ pt) fun d => bnd (opt (strOf1 d)) fun y => if (acc ++ y).length ≤ 1000000 then glueE fs (acc ++ y) ρ else fail := e_bnd _ _
@[simp] theorem e_unE (g : D → M D) (f : Slots → M D) : unE g f ρ pt = bndR (f ρ pt) g := e_bnd _ _
@[simp] theorem e_unM (kc : Nat) (fm : List D → M D) (fs : List D) : unM kc fm (.obj kc fs) pt = fm [.obj kc fs] pt := by
  show (if kc = kc then fm [.obj kc fs] else fail) pt = _
  rw [if_pos rfl]
@[simp] theorem e_txM (kc : Nat) (fm : List D → M D) (fs : List D) : txM kc fm [.obj kc fs] pt = bndR (fm [.obj kc fs] pt) fun d => bnd (opt (strOf1 d)) fun y => ret (.str y) := by
  show (if kc = kc then bnd (fm [.obj kc fs]) _ else fail) pt = _
  rw [if_pos rfl]
  exact e_bnd _ _
@[simp] theorem e_ownM (nC kc : Nat) (fm : List D → M D) (fs : List D) (y : D) : ownM nC kc fm (.obj kc fs) y pt = if (knd nC y).isSome then fm [.obj kc fs, y] pt else .stuck := by
  show (if kc = kc ∧ (knd nC y).isSome = true then fm [.obj kc fs, y] else fail) pt = _
  by_cases h : (knd nC y).isSome = true <;> simp [h]
@[simp] theorem e_neM (nC kc : Nat) (fm : List D → M D) (x y : D) : neM nC kc fm x y pt = bndR (ownM nC kc fm x y pt) notB := e_bnd _ _
@[simp] theorem e_notB (b : Bool) : notB (.bl b) pt = .ok (.bl (!b)) pt := rfl
@[simp] theorem e_own (ds : List D) : ownOf (some (some (.own ds))) = some ds := rfl
@[simp] theorem e_app (i : Nat) (f : Slots → M D) : appS i f ρ pt = bndR (opt (ownOf ρ[i]?) pt) fun ds => bnd (f ρ) fun d => growM i ρ ds [d] := e_bnd _ _
@[simp] theorem e_ext (i : Nat) (f : Slots → M D) : extS i f ρ pt = bndR (opt (ownOf ρ[i]?) pt) fun ds => bnd (f ρ) fun d => bnd (opt (lstOf d)) fun es => growM i ρ ds es := e_bnd _ _
@[simp] theorem e_grow (i : Nat) (ds es : List D) : growM i ρ ds es pt = if ds.length + es.length ≤ 100000 then .ok (.nx (ρ.set i (some (.own (ds ++ es))))) pt else .stuck := e_ite _ _
@[simp] theorem e_lst1 (ds : List D) : lstOf (.lst ds) = some ds := rfl
@[simp] theorem e_kI (nC : Nat) (i : Int) : knd nC (.int i) = some (.inl "int") := rfl
@[simp] theorem e_kS (nC : Nat) (i : Str) : knd nC (.str i) = some (.inl "str") := rfl
@[simp] theorem e_kB (nC : Nat) (i : Bool) : knd nC (.bl i) = some (.inl "bool") := rfl
@[simp] theorem e_kN (nC : Nat) : knd nC .non = some (.inl "NoneType") := rfl
@[simp] theorem e_kL (nC : Nat) (i : List D) : knd nC (.lst i) = some (.inl "list") := rfl
@[simp] theorem e_kT (nC : Nat) (i : List D) : knd nC (.tup i) = some (.inl "tuple") := rfl
@[simp] theorem e_kO (nC k : Nat) (fs : List D) : knd nC (.obj k fs) = if k < nC then some (.inr k) else none := rfl
@[simp] theorem e_ansI (ts : List String) (cs : List Bool) (n : String) : ansOf ts cs (.inl n) = if n ∈ tagB then some (decide (n ∈ ts)) else none := rfl
@[simp] theorem e_ansO (ts : List String) (cs : List Bool) (k : Nat) : ansOf ts cs (.inr k) = cs[k]? := rfl
@[simp] theorem e_tagB (n : String) : (n ∈ tagB) = (n = "NoneType" ∨ n = "bool" ∨ n = "int" ∨ n = "str" ∨ n = "list" ∨ n = "tuple" ∨ n = "dict") := by simp [tagB]
end
@[simp] theorem e_addT (i j : List D) {pt : Pot} : addU (.tup i) (.tup j) pt = tCat (.tup i) (.tup j) pt := rfl
/-! ### a draw -/
def Pt (pt : Pot) : Prop := 0 ≤ pt.1 ∧ 0 ≤ pt.2 ∧ pt.2 < 4294967296
theorem PotOk.pt {pt : Pot} (h : PotOk pt) : Pt pt := ⟨h.1, Int.le_of_lt h.2.1, by have := h.2.2; omega⟩
end DF

set_option Elab.async false
set_option linter.all false
set_option maxRecDepth 100000
set_option maxHeartbeats 4000000
/-! DFH: numbers with bounds, texts of numbers. -/
namespace DF
open PySem L2
def Bd (k : Nat) (z : Int) : Prop := z.natAbs < 2 ^ k
def MulOk (i j : Int) : Prop := i.natAbs.log2 + j.natAbs.log2 < 1000000
def Log (i : Int) : Prop := i.natAbs.log2 < 1920
theorem Bd.log {k : Nat} {z : Int} (h : Bd k z) (hk : 0 < k) : z.natAbs.log2 < k := by
  by_cases e : z.natAbs = 0
  · rw [e]
    exact hk
  · exact (Nat.log2_lt e).mpr h
theorem Bd.mono {k l : Nat} {z : Int} (h : Bd k z) (hk : k ≤ l) : Bd l z := Nat.lt_of_lt_of_le h (Nat.pow_le_pow_right (by decide) hk)
theorem Bd.add {k : Nat} {x y : Int} (h : Bd k x) (h' : Bd k y) : Bd (k + 1) (x + y) := by
  unfold Bd at *
  have := Int.natAbs_add_le x y
  rw [Nat.pow_succ]
  omega
theorem Bd.neg {k : Nat} {x : Int} (h : Bd k x) : Bd k (-x) := by
  unfold Bd at *
  rw [Int.natAbs_neg]
  exact h
theorem Bd.sub {k : Nat} {x y : Int} (h : Bd k x) (h' : Bd k y) : Bd (k + 1) (x - y) := by
  rw [Int.sub_eq_add_neg]
  exact h.add h'.neg
theorem Bd.mul {k l : Nat} {x y : Int} (h : Bd k x) (h' : Bd l y) : Bd (k + l) (x * y) := by
  unfold Bd at *
  rw [Int.natAbs_mul, Nat.pow_add]
  exact Nat.mul_lt_mul'' h h'
theorem Bd.ok {k l : Nat} {x y : Int} (h : Bd k x) (h' : Bd l y) (hk : 0 < k) (hl : 0 < l) (hs : k + l ≤ 1000000) : MulOk x y := by
  have := h.log hk
  have := h'.log hl
  unfold MulOk
  omega
theorem Bd.lg {k : Nat} {x : Int} (h : Bd k x) (hk : 0 < k) (hs : k ≤ 1920) : Log x := Nat.lt_of_lt_of_le (h.log hk) hs
@[simp high] theorem e_mul (i j : Int) (h : MulOk i j) : iMul (.int i) (.int j) = some (.int (i * j)) := by
  show (if decide (i.natAbs.log2 + j.natAbs.log2 < 1000000) = true then some (D.int (i * j)) else none) = _
  rw [if_pos (decide_eq_true (show i.natAbs.log2 + j.natAbs.log2 < 1000000 from h))]
theorem log_lt64 {j : Int} (h0 : 0 < j) (h1 : j < 18446744073709551616) : j.natAbs.log2 < 9000 := by
  have : Bd 64 j := by unfold Bd; omega
  exact Nat.lt_trans (this.log (by decide)) (by decide)
@[simp high] theorem e_div (i j : Int) (h0 : 0 < j) (h1 : j < 18446744073709551616) : iDiv (.int i) (.int j) = some (.int (i / j)) := by
  show (if (decide (0 < j) && decide (j.natAbs.log2 < 9000)) = true then some (D.int (i / j)) else none) = _
  rw [if_pos (by rw [decide_eq_true h0, decide_eq_true (log_lt64 h0 h1)]; rfl)]
/-! ### the text of a number -/
theorem ofs_app (a b : String) : Str.ofString (a ++ b) = Str.ofString a ++ Str.ofString b := by
  rw [Str.ofString_eq_toList, Str.ofString_eq_toList, Str.ofString_eq_toList]
  apply Str.ext'
  rw [Str.cps_append]
  simp
def tx (i : Int) : Str := Str.ofString (toString i)
theorem tx_neg {i : Int} (h : 0 < i) : tx (-i) = Str.ofString "-" ++ tx i := by
  obtain ⟨n, rfl⟩ := Int.eq_ofNat_of_zero_le (Int.le_of_lt h)
  cases n with
  | zero => omega
  | succ m =>
    unfold tx
    rw [← ofs_app]
    rfl
theorem tx_len {i : Int} (h : Log i) : (tx i).length ≤ 1921 := by
  unfold tx
  rw [ofString_length]
  exact int_text_length_le (by decide) h
@[simp] theorem e_fmtI (i : Int) (h : Log i) : fmtF (.int i) = some (.str (tx i)) := by
  show (if i.natAbs.log2 < 1920 then some (D.str (toString i)) else none) = _
  rw [if_pos (show i.natAbs.log2 < 1920 from h)]
  rfl
@[simp] theorem e_strI (i : Int) (h : Log i) : strF [.int i] = some (.str (tx i)) := by
  show (if i.natAbs.log2 < 1920 then some (D.str (toString i)) else none) = _
  rw [if_pos (show i.natAbs.log2 < 1920 from h)]
  rfl
theorem tx_pos (i : Int) : 0 < (tx i).length := by
  have nn : ∀ n : Nat, 0 < (tx (n : Int)).length := fun n => by
    have h := TL.tl_num n
    have h2 := TL.numL_ne n
    rw [← h] at h2
    unfold tx Str.length
    unfold TL.tl at h2
    cases e : (Str.ofString (toString ((n : Nat) : Int))).cps with
    | mk l =>
      rw [e] at h2
      cases l with
      | nil => exact absurd rfl h2
      | cons a l => exact Nat.succ_pos _
  by_cases h : 0 ≤ i
  · obtain ⟨n, rfl⟩ := Int.eq_ofNat_of_zero_le h
    exact nn n
  · have : i = -(-i) := by omega
    rw [this, tx_neg (by omega), Str.length_append]
    obtain ⟨n, e⟩ := Int.eq_ofNat_of_zero_le (show 0 ≤ -i by omega)
    rw [e]
    have := nn n
    omega
theorem len_ne {a b : Str} (h : 0 < a.length) (hb : b.length = 0) : ¬ a = b := fun e => by
  rw [e, hb] at h
  exact Nat.lt_irrefl _ h
@[simp] theorem e_sAdd (a b : Str) (h : a.length + b.length ≤ 1000000) : sAdd (.str a) (.str b) = some (.str (a ++ b)) := by
  show (if _ then _ else _) = _
  rw [if_pos h]
theorem sok_app {a b : Str} (ha : PyData.strOk a = true) (hb : PyData.strOk b = true) : PyData.strOk (a ++ b) = true := by
  unfold PyData.strOk at *
  rw [Str.cps_append, Array.all_append, ha, hb]
  rfl
theorem sok_ofs (s : String) : PyData.strOk (Str.ofString s) = true := by
  unfold PyData.strOk
  rw [Str.ofString_eq_toList]
  simp only [List.all_toArray, List.all_eq_true, List.mem_map, forall_exists_index, and_imp]
  rintro n c _ rfl
  refine decide_eq_true ?_
  have h := c.valid
  unfold UInt32.isValidChar Nat.isValidChar at h
  show c.val.toNat < 1114112
  rcases h with h | h
  · exact Nat.lt_trans h (by decide)
  · exact h.2
end DF

set_option Elab.async false
set_option linter.all false
set_option maxRecDepth 100000
set_option maxHeartbeats 4000000
namespace DF
open PySem PySem.Spec PyProof.Rows L2
/-! ### several except clauses, each with a name -/
/-- behind a clause its name is gone -/
def offE (i : Nat) (D : Ends) : Ends := { nx := fun τ G => D.nx (τ.set i none) G, rt := D.rt, bk := fun τ G => D.bk (τ.set i none) G, ct := fun τ G => D.ct (τ.set i none) G }
abbrev Cl := Value × Nat × (Addr → Value → Option Addr → TS)
def wNam (K : PySem.W.Frag) (Wo : WX) (D : Ends) : List Cl → WX
  | [] => Wo
  | q :: r => fun cls d σ H => ∃ b, PySem.W.exmOne K cls q.1 = some b ∧ (b = true → ∀ a, H a = none → q.2.2 a cls d (offE q.2.1 D) (σ.set q.2.1 (some (.ref a))) H) ∧ (b = false → wNam K Wo D r cls d σ H)
inductive HdN (X : Cx) : List ExceptHandler → List Cl → Prop
  | nil : HdN X [] []
  | cons {x n : Str} {cv : Value} {i : Nat} {ts : Addr → Value → Option Addr → TS} {st : Stmt} {sts : List Stmt} {p1 p2 : Pos} {hs : List ExceptHandler} {l : List Cl} (nm : Names X x cv) (hi : X.N[i]? = some n) (hl : X.env.kindOf n = some .local)
      (su : ∀ (a : Addr) (oe : Obj) (cls : Value) (d : Option Addr) (pn : List (Addr × Obj)), Zc cls d oe → (∃ vs, oe.data = .fields vs) → PSs (X.suite a ((a, oe) :: pn)) (st :: sts) (ts a cls d)) (more : HdN X hs l) :
      HdN X (.ExceptHandler (some (.Name x p1)) (some n) (st :: sts) p2 :: hs) ((cv, i, ts) :: l)
section
variable {X : Cx} {body : List Stmt} {h1 : ExceptHandler} {hs : List ExceptHandler} {l : List Cl} {pos : Pos} {tb : WX → TS} {Wo : WX}
theorem try_named (es : X.stack = X.env :: X.outer) (ef : X.env.frame = some X.env.locals) (nd : X.N.Nodup) (tk : Takes X Wo)
    (hb : ∀ (W : WX) (pn : List (Addr × Obj)) (xe : Value → Shared → Prop), Takes (X.tr pn xe) W → PassesOwn (model X.prog X.w) X.A X.env xe → PSs (X.tr pn xe) body (tb W))
    (hk : HdN X (h1 :: hs) l) : PS X (.Try body (h1 :: hs) [] [] pos) (fun D σ H => tb (wNam X.K Wo D l) D σ H) := by
  refine ⟨fun pins s σ H D I0 want => ?_⟩
  have ok := I0.ok
  have frm : X.A.frames = some (X.env :: X.outer) := ok.frames.trans (congrArg some es)
  refine wpAny_Try_except ?_
  refine wpAny_mono ((hb (wNam X.K Wo D l) (X.pn ++ pins)
    (fun ev z1 => wpAny (model X.prog X.w) X.A (noteFrame ev X.env) (fun _ z2 => wpAny (model X.prog X.w) X.A (setFlight ev none) (fun _ z3 =>
      wpAny (model X.prog X.w) X.A (handleBy ev X.env (h1 :: hs)) (SP X pins D) X.xe z3) X.xe z2) X.xe z1)
    (fun ev z caught => ?_) PassesOwn.looking).run [] s σ H D (I0.toTry _) want) (fun fl z sp => ?_) (fun _ _ q => q)
  · obtain ⟨a, G, sI, pins1, τ, H1, cls, d, rfl, Jt, below, up, sky, na, eos, bare, w⟩ := caught
    have J : Inv X pins τ H1 sI := Jt.ofTry ok
    have sky1 : Sky G (X.env :: X.outer) a (Zc cls d) X.env.locals z.heap := es ▸ sky
    show wpAny (model X.prog X.w) X.A (noteFrame (.ref a) X.env) _ _ _
    refine Sky.land Zc.steady frm ef sky1 fun g fly up1 => ?_
    have Jg : Inv X pins τ H1 { z with heap := g } := J.landed below fly.1 (up.trans up1) eos bare
    obtain ⟨oe, ovs, eoe, zoe, doe⟩ := fly.there
    have offFr : a ∉ frs (X.env :: X.outer) := fun hm => by
      obtain ⟨_, o2, e2, n2⟩ := fly.2.2.1.mem hm
      rw [eoe] at e2
      cases e2
      exact n2 _ doe
    have offL : a ≠ X.env.locals := fun q => offFr (List.mem_filterMap.mpr ⟨X.env, List.mem_cons_self, by rw [ef, q]⟩)
    have offF : a ∉ X.fs := fun hm => by
      obtain ⟨en, m1, m2⟩ := List.mem_filterMap.mp hm
      exact offFr (List.mem_filterMap.mpr ⟨en, List.mem_cons_of_mem _ m1, m2⟩)
    have Sg := Jg.suite eoe doe na offL offF
    have each : ∀ {hz : List ExceptHandler} {lz : List Cl}, HdN X hz lz → wNam X.K Wo D lz cls d τ H1 → wpAny (model X.prog X.w) X.A (handleBy (.ref a) X.env hz) (SP X pins D) X.xe { z with heap := g } := by
      intro hz lz hd
      induction hd with
      | nil =>
        intro w
        refine wpAny_handleBy_nil ?_
        obtain ⟨_, _, _, o5, v5, T5, _, _, e5, _, d5, i5, _⟩ := id fly
        unfold PySem.passOn
        refine wpAny_bind (wpAny_field e5 d5 i5 ?_)
        rw [if_neg (show ¬ ((Value.ref T5 == Value.none) = true) from by simp)]
        have up2 : wpAny (model X.prog X.w) X.A (setFlight (.ref a) X.env.frame) (fun _ z4 => wpAny (model X.prog X.w) X.A (throw (.ref a) : Sem Flow) (SP X pins D) X.xe z4) X.xe { z with heap := g } := by
          rw [ef]
          exact HandSPX.setFlight_upZ fly fun g4 held up4 => wpAny_throw (tk _ _ ⟨a, G, sI, pins, τ, H1, cls, d, rfl, J, below, (up.trans up1).trans up4, .inr (.inr (es ▸ held)), na, eos, bare, w⟩)
        first
          | exact wpAny_bind (wpAny_pure (wpAny_bind up2))
          | exact wpAny_bind up2
      | @cons x n cv i ts st sts p1 p2 hs2 l2 nm hi hl su more ih =>
        intro w
        obtain ⟨b, eb, yes, no⟩ := w
        refine wpAny_handleBy_cons (codeAny_handlers_test ?_) (by intro q; cases q)
        have lkT : PySem.W.Looks (model X.prog X.w) g (typeOf (.ref a)) cls := fun A Q E y k q => wpAny_typeOf_ref (k _ _ eoe) (by rw [zoe.1]; exact q)
        have lkM := PySem.W.exm_one (M := model X.prog X.w) Jg.kIn lkT eb
        have named : ∀ {Q : Value → Shared → Prop} {E : Value → Shared → Prop}, Q cv { z with heap := g } → wpAny (model X.prog X.w) (X.A.mark (some (.ref a))) (eval (.Name x p1) X.env) Q E { z with heap := g } := fun {Q E} q => by
          obtain ⟨g1, g2, g3 | ⟨g3, g4, g5⟩⟩ := nm
          · exact ld_glob (X := X.suite a ((a, oe) :: (X.pn ++ pins))) Sg g1 g3 q g2
          · exact ld_blt (X := X.suite a ((a, oe) :: (X.pn ++ pins))) Sg g1 g3 g4 q g5 g2
        refine named (lkM.here ?_)
        cases b with
        | false =>
          show wpAny _ X.A (handleBy (.ref a) X.env hs2) _ _ _
          exact ih (no rfl)
        | true =>
          refine codeAny_handlers_suite_as (HandSPX.lands_againZ fly fun g4 fly4 up4 => ?_)
          have J4 : Inv X pins τ H1 { z with heap := g4 } := J.landed below fly4.1 ((up.trans up1).trans up4) eos bare
          obtain ⟨o4, v4, e4, z4, d4⟩ := fly4.there
          have S4 := J4.suite e4 d4 na offL offF
          refine store_ok (X := X.suite a ((a, o4) :: (X.pn ++ pins))) (v := .ref a) S4 nd hi (.inl hl) rfl (fun y S5 => ?_) (.inr hl)
          refine wpAny_mono ((su a o4 cls d (X.pn ++ pins) z4 ⟨_, d4⟩).run [] y _ H1 _ S5 (yes rfl a na)) (fun fl y6 sp => ?_) (fun _ _ q => q.elim)
          have goes : ∀ {τ6 : L2.St} {H6 : Hp} {Q : Shared → Prop}, Inv (X.suite a ((a, o4) :: (X.pn ++ pins))) [] τ6 H6 y6 → (∀ y7, Inv X pins (τ6.set i none) H6 y7 → Q y7) →
              wpAny (model X.prog X.w) X.A (do bindName X.env n .none; unbindBehindTheSuite X.env n p2) (fun _ y7 => Q y7) X.xe y6 := fun {τ6 H6 Q} S6 hq => gone_ok (S6.unsuite ok) nd hi hl hq
          cases fl with
          | ret u =>
            obtain ⟨v6, τ6, H6, S6, r6, q6⟩ := sp
            exact goes S6 fun y7 J7 => ⟨_, _, _, J7, r6, q6⟩
          | next =>
            obtain ⟨τ6, H6, S6, q6⟩ := sp
            exact goes S6 fun y7 J7 => ⟨_, _, J7, q6⟩
          | brk =>
            obtain ⟨τ6, H6, S6, q6⟩ := sp
            exact goes S6 fun y7 J7 => ⟨_, _, J7, q6⟩
          | cont =>
            obtain ⟨τ6, H6, S6, q6⟩ := sp
            exact goes S6 fun y7 J7 => ⟨_, _, J7, q6⟩
    exact each hk w
  · cases fl with
    | ret u =>
      obtain ⟨v, τ, H1, Jt, r, q⟩ := sp
      exact ⟨v, τ, H1, Jt.ofTry ok, r, q⟩
    | next =>
      obtain ⟨τ, H1, Jt, q⟩ := sp
      exact wpAny_execs_nil ⟨τ, H1, Jt.ofTry ok, q⟩
    | brk =>
      obtain ⟨τ, H1, Jt, q⟩ := sp
      exact ⟨τ, H1, Jt.ofTry ok, q⟩
    | cont =>
      obtain ⟨τ, H1, Jt, q⟩ := sp
      exact ⟨τ, H1, Jt.ofTry ok, q⟩
end
end DF

set_option Elab.async false
set_option linter.all false
set_option maxRecDepth 100000
set_option maxHeartbeats 4000000
namespace DF
open PySem PySem.Spec PyProof.Rows L2
/-! ### exceptions of the text: made -/
def spX (T : Tb) (ec : Nat) : Sp := fun vs H Q _ => ∃ a ws, vs = .ref a :: ws ∧ ws.length = (T.names ec).length ∧ H a = some (exo a (T.cls ec) none) ∧
  ∀ (d : Addr) (fl : List (Str × V)), H d = none → d ≠ a → (∀ (i : Nat) (n : Str) (v : V), (T.names ec)[i]? = some n → ws[i]? = some v → fl.lookup n = some v) → Q .non (upd (upd H d (exd d fl)) a (exo a (T.cls ec) (some d)))
section
variable {P : Program} {w : World} {K : PySem.W.Frag} {mg : Str → Option Value} {base : Heap} {T : Tb} {x qual : Str} {st : Stmt} {f : Addr} {fd : FuncData} {y v v2 fld fld2 : Str} {ec : Nat}
theorem fnX1 (F : FunD K x qual (defArgs st) (defBody st) (defScope st) [] [] f fd) (S : FnScope [y, v] [y, v] (defScope st)) (O : OexC K (T.cls ec)) (hn : T.names ec = [fld]) (no : NoAttr K (T.cls ec) fld)
    (hb : ∀ (cdv : Value) (A : Around) (outer : List Env) (s : Shared) (H : Hp) (E : XK), PSs (cxOf (L2.CX P w) P w K mg base [y, v] qual (defScope st) f cdv A outer s H E) (defBody st) (tOst K fld (tVar 0) (tVar 1))) :
    FnOk P w K mg base (L2.CX P w) 1 f fd [y, v] (spX T ec) := by
  refine F.ok (k := 0) S (fun vs H Q E h => ?_) (fun cdv A outer s H vs Q E hr h => ?_)
  · obtain ⟨a, ws, rfl, hl, _⟩ := h
    rw [List.length_cons, hl, hn]
    rfl
  · obtain ⟨a, ws, rfl, hl, ha, q⟩ := h
    rw [hn] at hl
    obtain ⟨y1, rfl⟩ := List.length_eq_one_iff.mp hl
    refine ⟨_, hb cdv A outer s H E, ⟨y1, rfl, .ref a, rfl, a, _, rfl, O, no, .inl ⟨ha, fun d hd ne => q d _ hd ne fun i n v e1 e2 => ?_⟩⟩⟩
    rw [hn] at e1
    match i, e1, e2 with
    | 0, e1, e2 =>
      simp only [List.getElem?_cons_zero, Option.some.injEq] at e1 e2
      subst e1 e2
      simp
    | i + 1, e1, e2 => simp at e1
theorem upd_swap {H : Hp} {a d : Addr} {o u u2 : HO} (ne : d ≠ a) : upd (upd (upd H d u) a o) d u2 = upd (upd H d u2) a o := by
  funext b
  by_cases h1 : b = d
  · subst h1
    rw [upd_same, upd_ne ne, upd_same]
  · rw [upd_ne h1]
    by_cases h2 : b = a
    · subst h2
      rw [upd_same, upd_same]
    · rw [upd_ne h2, upd_ne h1, upd_ne h2, upd_ne h1]
theorem fnX2 (F : FunD K x qual (defArgs st) (defBody st) (defScope st) [] [] f fd) (S : FnScope [y, v, v2] [y, v, v2] (defScope st)) (O : OexC K (T.cls ec)) (hn : T.names ec = [fld, fld2]) (no : NoAttr K (T.cls ec) fld) (no2 : NoAttr K (T.cls ec) fld2) (nf : (fld == fld2) = false)
    (hb : ∀ (cdv : Value) (A : Around) (outer : List Env) (s : Shared) (H : Hp) (E : XK), PSs (cxOf (L2.CX P w) P w K mg base [y, v, v2] qual (defScope st) f cdv A outer s H E) (defBody st) (tSeq (tOst K fld (tVar 0) (tVar 1)) (tOst K fld2 (tVar 0) (tVar 2)))) :
    FnOk P w K mg base (L2.CX P w) 1 f fd [y, v, v2] (spX T ec) := by
  refine F.ok (k := 0) S (fun vs H Q E h => ?_) (fun cdv A outer s H vs Q E hr h => ?_)
  · obtain ⟨a, ws, rfl, hl, _⟩ := h
    rw [List.length_cons, hl, hn]
    rfl
  · obtain ⟨a, ws, rfl, hl, ha, q⟩ := h
    rw [hn] at hl
    obtain ⟨y1, y2, rfl⟩ : ∃ y1 y2, ws = [y1, y2] := match ws, hl with | [y1, y2], _ => ⟨y1, y2, rfl⟩
    refine ⟨_, hb cdv A outer s H E, ⟨y1, rfl, .ref a, rfl, a, _, rfl, O, no, .inl ⟨ha, fun d hd ne => ⟨y2, rfl, .ref a, rfl, a, _, rfl, O, no2, .inr ⟨d, [(fld, y1)], upd_same, by rw [upd_ne ne, upd_same], (show 1 ≤ 900 by decide), ?_⟩⟩⟩⟩⟩
    rw [upd_swap ne]
    refine q d _ hd ne fun i n v e1 e2 => ?_
    rw [hn] at e1
    match i, e1, e2 with
    | 0, e1, e2 =>
      simp only [List.getElem?_cons_zero, Option.some.injEq] at e1 e2
      subst e1 e2
      simp [List.lookup, nf]
    | 1, e1, e2 =>
      simp only [List.getElem?_cons_succ, List.getElem?_cons_zero, Option.some.injEq] at e1 e2
      subst e1 e2
      simp [List.lookup]
    | i + 2, e1, e2 => simp at e1
end
/-! ### raise -/
def raiS (ec n : Nat) (fa : Slots → M (List D)) : Slots → M Out := fun ρ => bnd (fa ρ) fun ds => if ds.length = n then fun pt => .exc ec ds pt else fail
section
variable {X : Cx} {c : Cy} {W : WX} {σ : L2.St} {H H' : Hp} {O : List (Nat × Addr)} {ρ : Slots} {pt pt' : Pot}
theorem del_upd {H : Hp} {a d : Addr} {u o1 o2 o3 : HO} (ha : H a = none) (ne : d ≠ a) : upd (L2.del (upd (upd (upd H a o1) d o2) a o3) a) d u = upd H d u := by
  funext b
  by_cases h1 : b = d
  · subst h1
    rw [upd_same, upd_same]
  · rw [upd_ne h1, upd_ne h1]
    by_cases h2 : b = a
    · subst h2
      rw [L2.del_same, ha]
    · rw [L2.del_ne h2, upd_ne h2, upd_ne h1, upd_ne h2]
theorem ds_raise {ec n k : Nat} {x : Str} {e : Expr} {es : List Expr} {p pos pos' : Pos} {fI : Addr} {fd : FuncData} {ps : List Str} {fa : Slots → M (List D)} (tk : Takes X W) (T1 : OexC X.K (c.T.cls ec)) (me : Meth X.K (c.T.cls ec) "__init__" fI)
    (F1 : FnOk X.prog X.w X.K X.mg X.base (L2.CX X.prog X.w) k fI fd ps (spX c.T ec)) (hr : Room (k + 1) X.A) (hb : Binds X.K fd ps []) (hm : X.mg x = some (.ref (c.T.cls ec))) (hn : (c.T.names ec).length = n) (ha : PA X (e :: es) (dA c W fa)) (hc : X.calm = true := by rfl) (hn1 : n ≤ 1000 := by decide) (hg : Gl X x := by rfl)
    (hdb : (x == ("__debug__" : Str)) = false := by decide) (he : starEach (e :: es) X.env = (false, eval e X.env) :: starEach es X.env := by rfl) (hpl : (backTo pos (starEach es X.env)).any (·.1) = false := by rfl) :
    PS X (.Raise (some (.Call (.Name x p) (e :: es) [] pos)) none pos') (dS c W (raiS ec n fa)) := by
  refine ps_imp (ps_raise hc tk (pmk_oex T1 me.at_ (beq_iff_eq.mp me.fn) F1 hr hb .nil passL hg hm ha hdb he hpl)) fun E σ H ⟨O, ρ, pt, r, h⟩ => ⟨O, ρ, pt, r, (WO.bnd r h).imp fun ds p1 H1 _ s1 q vs rl => ?_⟩
  by_cases hl : ds.length = n
  · rw [if_pos hl] at q
    have lv := RL.len rl
    refine ⟨by omega, fun a hfa => ⟨a, vs, by rw [List.append_nil], by rw [← lv, hl, hn], upd_same, fun d fl hd ne hfl => ⟨rfl, d, fl, upd_same, by rw [upd_ne ne, upd_same], by rw [← upd_ne (H := H1) (o := exo a (c.T.cls ec) none) ne]; exact hd, ?_⟩⟩⟩
    have hd1 : H1 d = none := by rw [← upd_ne (H := H1) (o := exo a (c.T.cls ec) none) ne]; exact hd
    rw [del_upd hfa ne]
    have r1 := r.stp s1
    have st := Stp.new (o := .xd fl) r1.pot hd1
    have r2 := r1.stp st
    refine q (.ref (c.T.cls ec)) (some d) σ _ r2.fin ⟨rfl, .inr ⟨d, fl, vs, rfl, Hd.at_new (fun z => r1.fresh hd1 (List.mem_append_left _ z)), hfl, by rw [hl, hn], ?_⟩⟩
    exact RL.gr ((Hd.sub fun z h => List.mem_append_left _ h : Gr (Hd (hid c O) H1) (Hd c.S H1)).trans (Hd.new hd1)) rl
  · rw [if_neg hl] at q
    exact q.elim
end
end DF

set_option Elab.async false
set_option linter.all false
set_option maxRecDepth 100000
set_option maxHeartbeats 4000000
namespace DF
open PySem PySem.Spec PyProof.Rows L2
/-! ### try -/
/-- a clause of data: which classes it takes, the slot of its name, what it does -/
structure Ha where
  yes : Nat → Option Bool
  i : Nat
  g : Slots → M Out
def plainV : Option SV → Bool
  | some (.exv _ _) => false
  | _ => true
def endH (i : Nat) : Res Out → Res Out
  | .ok (.rt d) pt => .ok (.rt d) pt
  | _ => .stuck
def catchS (n : Nat) : List Ha → Nat → List D → Pot → Res Out
  | [], e, fs, pt => .exc e fs pt
  | h :: hs, e, fs, pt => match h.yes e with
    | some true => if h.i < n then endH h.i (h.g ((List.replicate n none).set h.i (some (.exv e fs))) pt) else .stuck
    | some false => catchS n hs e fs pt
    | none => .stuck
def tryS (n : Nat) (g : Slots → M Out) (hs : List Ha) : Slots → M Out := fun ρ pt => match g ρ pt with
  | .exc e fs pt' => catchS n hs e fs pt'
  | r => r
inductive HaOk (X : Cx) (c : Cy) : List ExceptHandler → List Cl → List Ha → Prop
  | nil : HaOk X c [] [] []
  | cons {x n : Str} {cv : Value} {i : Nat} {st : Stmt} {sts : List Stmt} {p1 p2 : Pos} {hs : List ExceptHandler} {l : List Cl} {hd : List Ha} {yes : Nat → Option Bool} {g : Slots → M Out} (nm : Names X x cv) (hi : X.N[i]? = some n) (hl : X.env.kindOf n = some .local)
      (hy : ∀ e b, yes e = some b → PySem.W.exmOne X.K (.ref (c.T.cls e)) cv = some b)
      (su : ∀ (a : Addr) (oe : Obj) (cls : Value) (d : Option Addr) (pn : List (Addr × Obj)), Zc cls d oe → (∃ vs, oe.data = .fields vs) → PSs (X.suite a ((a, oe) :: pn)) (st :: sts) (dS { c with x := { c.x with a := a, cls := cls, d := d } } W0 g)) (more : HaOk X c hs l hd) :
      HaOk X c (.ExceptHandler (some (.Name x p1)) (some n) (st :: sts) p2 :: hs) ((cv, i, fun a cls d => dS { c with x := { c.x with a := a, cls := cls, d := d } } W0 g) :: l) (⟨yes, i, g⟩ :: hd)
theorem HaOk.hdn {X : Cx} {c : Cy} {hs : List ExceptHandler} {l : List Cl} {hd : List Ha} (h : HaOk X c hs l hd) : HdN X hs l := by
  induction h with
  | nil => exact .nil
  | cons nm hi hl hy su more ih => exact .cons nm hi hl su ih
section
variable {X : Cx} {c : Cy} {W : WX} {σ : L2.St} {H H' : Hp} {O : List (Nat × Addr)} {ρ : Slots} {pt pt' : Pot}
theorem takes_len {Y : Cx} (tk : Takes Y W) : Takes Y (fun cls d _ H => ∀ τ : L2.St, τ.length = Y.N.length → W cls d τ H) := fun u s ⟨a, B, sI, pins, σ, H, cls, d, e, I, r1, r2, r3, r4, r5, r6, w⟩ => tk u s ⟨a, B, sI, pins, σ, H, cls, d, e, I, r1, r2, r3, r4, r5, r6, w σ I.len⟩
/-- nothing is known of the slots -/
theorem Fin.bare (f : Fin c H pt) (hp : c.p ∈ c.S) : RS c [] (List.replicate σ.length none) σ H pt :=
  ⟨f.pot, fun a o n h m => f.ext a o n h m, hp, f.hS, fun _ h => (nomatch h), .nil, .nil, List.length_replicate, fun _ h => (nomatch h), fun i s h => by
    rw [List.getElem?_replicate] at h
    split at h <;> cases h⟩
theorem SlotOk.x_ {c' : Cy} {i : Nat} {y : Option (Option V)} {s : SV} (e : c' = { c with x := c'.x }) (hl : c'.x.lf = c.x.lf ∧ c'.x.lc = c.x.lc ∧ c'.x.lq = c.x.lq) (np : plainV (some s) = true) (h : SlotOk c' O H i y s) : SlotOk c O H i y s := by
  obtain ⟨K, T, p, S, H0, me, x1⟩ := c
  obtain ⟨K', T', p', S', H0', me', x2⟩ := c'
  cases e
  cases s with
  | val d => exact h
  | own ds => exact h
  | ownd ds => exact h
  | slf k fs => exact h
  | raw v => exact h
  | exv e fs => cases np
  | lam =>
    obtain ⟨h1, h2⟩ := h
    simp only at hl
    obtain ⟨q1, q2, q3⟩ := hl
    refine ⟨?_, ?_⟩
    · rw [h1]
      show some (some (V.ref x2.lf)) = some (some (V.ref x1.lf))
      rw [q1]
    · show Hd _ H x1.lc = some (LamX.CodeO x1.lc x1.lq)
      rw [← q2, ← q3]
      exact h2
theorem RS.x_ {c' : Cy} (r : RS c' O ρ σ H pt) (e : c' = { c with x := c'.x }) (hl : c'.x.lf = c.x.lf ∧ c'.x.lc = c.x.lc ∧ c'.x.lq = c.x.lq) (np : ρ.all plainV = true) : RS c O ρ σ H pt := by
  have sl : ∀ i s, ρ[i]? = some (some s) → SlotOk c O H i σ[i]? s := fun i s h => (r.sl i s h).x_ e hl (List.all_eq_true.mp np _ (List.mem_of_getElem? h))
  obtain ⟨K, T, p, S, H0, me, x1⟩ := c
  obtain ⟨K', T', p', S', H0', me', x2⟩ := c'
  cases e
  exact ⟨r.pot, fun a o n h m => r.ext a o n h m, r.hp, r.hS, r.new, r.nd, r.nf, r.len, r.ow, sl⟩
theorem catch_ok {E : Ends} {n : Nat} (hp : c.p ∈ c.S) (hX : c.K = X.K) {hs : List ExceptHandler} {l : List Cl} {hd : List Ha} (h : HaOk X c hs l hd) {e : Nat} {fs : List D} {cls : Value} {dd : Option Addr} (hl : σ.length = n) (f : Fin c H pt) (rx : RX c H e fs cls dd)
    (w : WO c W E [] H (catchS n hd e fs pt)) : wNam X.K W E l cls dd σ H := by
  induction h with
  | nil => exact w cls dd σ H f rx
  | @cons x nm1 cv i st sts p1 p2 hs2 l2 hd2 yes g nm hi hln hy su more ih =>
    unfold catchS at w
    simp only at w
    cases ey : yes e with
    | none => rw [ey] at w; exact w.elim
    | some b =>
      rw [ey] at w
      have em := hy e b ey
      refine ⟨b, by rw [rx.1]; exact em, fun hb a na => ?_, fun hb => ?_⟩
      · subst hb
        simp only at w
        by_cases hin : i < n
        · rw [if_pos hin] at w
          have r0 : RS { c with x := { c.x with a := a, cls := cls, d := dd } } [] (List.replicate σ.length none) σ H pt := Fin.bare (c := { c with x := { c.x with a := a, cls := cls, d := dd } }) ⟨f.pot, fun a o n h m => f.ext a o n h m, f.hS⟩ hp
          have r1 : RS { c with x := { c.x with a := a, cls := cls, d := dd } } [] ((List.replicate n none).set i (some (.exv e fs))) (σ.set i (some (.ref a))) H pt := by
            refine ⟨r0.pot, fun a o n h m => r0.ext a o n h m, r0.hp, r0.hS, r0.new, r0.nd, r0.nf, by rw [List.length_set, List.length_set, List.length_replicate, hl], fun _ h => (nomatch h), fun j s hj => ?_⟩
            by_cases ej : j = i
            · subst ej
              rw [List.getElem?_set_self (by rw [List.length_replicate]; exact hin)] at hj
              cases hj
              refine ⟨List.getElem?_set_self (by rw [hl]; exact hin), ?_⟩
              have hh : hid { c with x := { c.x with a := a, cls := cls, d := dd } } [] = c.S := List.append_nil _
              rw [hh]
              exact rx
            · rw [List.getElem?_set_ne (Ne.symm ej), List.getElem?_replicate] at hj
              split at hj <;> cases hj
          refine ⟨[], _, pt, r1, ?_⟩
          cases er : g ((List.replicate n none).set i (some (.exv e fs))) pt with
          | stuck => rw [er] at w; exact w.elim
          | exc _ _ _ => rw [er] at w; exact w.elim
          | ok o p1 =>
            rw [er] at w
            cases o with
            | bk _ => exact w.elim
            | ct _ => exact w.elim
            | rt d => exact fun v H1 f1 rv => w v H1 ⟨f1.pot, fun a o n h m => f1.ext a o n h m, f1.hS⟩ rv
            | nx ρ1 => exact w.elim
        · rw [if_neg hin] at w
          exact w.elim
      · subst hb
        exact ih w
theorem endH_end {E : Ends} {i : Nat} {H1 : Hp} {r : Res Out} (w : WO c W E O H (endH i r)) : WO c W E [] H1 (endH i r) := by
  cases r with
  | stuck => exact w
  | exc _ _ _ => exact w.elim
  | ok o p1 =>
    cases o with
    | rt d => exact w
    | nx _ => exact w.elim
    | bk _ => exact w.elim
    | ct _ => exact w.elim
theorem catch_end {E : Ends} {n : Nat} {e : Nat} {fs : List D} {H1 : Hp} : ∀ {hd : List Ha}, WO c W E O H (catchS n hd e fs pt) → WO c W E [] H1 (catchS n hd e fs pt)
  | [], w => w
  | h :: hd, w => by
    unfold catchS at w ⊢
    cases ey : h.yes e with
    | none => rw [ey] at w; exact w.elim
    | some b =>
      rw [ey] at w
      cases b with
      | false => exact catch_end w
      | true =>
        simp only at w ⊢
        by_cases hin : h.i < n
        · rw [if_pos hin] at w ⊢
          exact endH_end w
        · rw [if_neg hin] at w
          exact w.elim
theorem ds_try {n : Nat} {body : List Stmt} {h1 : ExceptHandler} {hs : List ExceptHandler} {l : List Cl} {hd : List Ha} {g : Slots → M Out} {pos : Pos} (hX : c.K = X.K) (nd : X.N.Nodup) (tk : Takes X W)
    (hb : ∀ (E1 : XK) (pn : List (Addr × Obj)) (xe : Value → Shared → Prop), Takes (X.tr pn xe) (fun cls d _ H => E1 cls d H) → PassesOwn (model X.prog X.w) X.A X.env xe → PSs (X.tr pn xe) body (dS c (fun cls d _ H => E1 cls d H) g)) (hk : HaOk X c (h1 :: hs) l hd)
    (hn : X.N.length = n := by rfl) (es : X.stack = X.env :: X.outer := by rfl) (ef : X.env.frame = some X.env.locals := by rfl) : PS X (.Try body (h1 :: hs) [] [] pos) (dS c W (tryS n g hd)) := by
  refine ps_imp (try_named (tb := fun W1 => dS c (fun cls d _ H => ∀ τ : L2.St, τ.length = X.N.length → W1 cls d τ H) g) es ef nd tk (fun W1 pn xe tk1 po => hb (fun cls d H => ∀ τ : L2.St, τ.length = X.N.length → W1 cls d τ H) pn xe (takes_len tk1) po) hk.hdn) fun E σ H ⟨O, ρ, pt, r, h⟩ => ⟨O, ρ, pt, r, ?_⟩
  unfold tryS at h
  cases e : g ρ pt with
  | ok o p1 =>
    rw [e] at h
    cases o with
    | nx _ => exact h
    | bk _ => exact h
    | ct _ => exact h
    | rt _ => exact h
  | stuck => rw [e] at h; exact h
  | exc k fs p1 =>
    rw [e] at h
    intro cls dd τ0 H1 f rx τ hl
    have w : WO c W E [] H1 (catchS n hd k fs p1) := catch_end h
    exact catch_ok r.hp hX hk (hl.trans hn) f rx w
end
end DF

set_option Elab.async false
set_option linter.all false
set_option maxRecDepth 100000
set_option maxHeartbeats 4000000
namespace DF
open PySem PySem.Spec PyProof.Rows L2
/-! ### a field of the exception that was caught -/
def exAt (ec j : Nat) : Option (Option SV) → Option D
  | some (some (.exv e fs)) => if e = ec then fs[j]? else none
  | _ => none
theorem exAt_some {ec j : Nat} {x : Option (Option SV)} {d : D} (h : exAt ec j x = some d) : ∃ fs, x = some (some (.exv ec fs)) ∧ fs[j]? = some d := by
  unfold exAt at h
  split at h
  · rename_i e fs
    by_cases he : e = ec
    · subst he
      rw [if_pos rfl] at h
      exact ⟨fs, rfl, h⟩
    · rw [if_neg he] at h
      cases h
  · cases h
def xfE (i ec j : Nat) : Slots → M D := fun ρ => opt (exAt ec j ρ[i]?)
section
variable {X : Cx} {c : Cy} {W : WX} {σ : L2.St} {H H' : Hp} {O : List (Nat × Addr)} {ρ : Slots} {pt pt' : Pot}
theorem de_xf {i ec j : Nat} {n f : Str} {a : Addr} {oe : Obj} {cls : Value} {d : Option Addr} {pn : List (Addr × Obj)} {p pos : Pos} (T1 : XfC X.K (c.T.cls ec)) (no : NoAttr X.K (c.T.cls ec) f) (hj : (c.T.names ec)[j]? = some f) (hz : Zc cls d oe) (hf : ∃ vs, oe.data = .fields vs)
    (hN : X.N[i]? = some n := by rfl) (hv : Vis X.env.scope n := by first | exact Or.inl rfl | exact Or.inr (Or.inl rfl) | exact Or.inr (Or.inr rfl)) (hd : (n == ("__debug__" : Str)) = false := by decide) (hcd : (n == ("__classdict__" : Str)) = false := by decide)
    (hb : attributeBase (.Name n p) f X.env (eval (.Name n p) X.env) = eval (.Name n p) X.env := by rfl) :
    PE (X.suite a ((a, oe) :: pn)) (.Attribute (.Name n p) f pos) (dE { c with x := { c.x with a := a, cls := cls, d := d } } W (xfE i ec j)) := by
  refine pe_imp (pe_xf (X := X) (C := c.T.cls ec) T1 no hz hf (pe_var (X := X.suite a ((a, oe) :: pn)) (i := i) hN hv hd hcd) hb) fun σ H Q ⟨O, ρ, pt, r, h⟩ => ?_
  obtain ⟨y, ey, hq⟩ := Wg.opt h r.pot
  obtain ⟨fs, es, ey⟩ := exAt_some ey
  obtain ⟨e1, e2, e3⟩ := r.sl i _ es
  rcases e3 with ⟨rfl, _⟩ | ⟨d0, fl, vs, q1, q2, q3, q4, q5⟩
  · simp at ey
  · obtain ⟨v, ev, rv⟩ := RL.getD q5 ey
    exact ⟨.ref a, e1, rfl, e2, d0, fl, v, q1, Hd.le _ _ q2, q3 j f v hj ev, hq v rv⟩
/-! ### a lambda without parameters, handed to a def -/
def noOwnA (ρ : Slots) : Bool := ρ.all fun s => match s with
  | some v => !isOwn v
  | none => true
theorem own_nil (r : RS c O ρ σ H pt) (h : noOwnA ρ = true) : O = [] := by
  cases O with
  | nil => rfl
  | cons q O =>
    obtain ⟨s, e, o⟩ := r.ow q List.mem_cons_self
    have := List.all_eq_true.mp h _ (List.mem_of_getElem? e)
    simp only [o] at this
    cases this
/-- what the lambda means at H -/
def Lam (K : PySem.W.Frag) (T : Tb) (p : Addr) (S : List Addr) (H : Hp) (tl : XK → Hp → VK → Prop) (m : M D) : Prop := ∀ (E : XK) (H1 : Hp) (Q1 : VK) (p1 : Pot), Stp T.tb p H H1 p1 → Wf ⟨K, T, p, S, H1, 0, x0⟩ H1 Q1 E (m p1) → tl E H1 Q1
def TTd (K : PySem.W.Frag) (T : Tb) (hm : M D → M D) : (XK → Hp → VK → Prop) → Hp → VK → Prop := fun tl H Q => ∃ p S pt m, p ∈ S ∧ (∀ a ∈ S, ∃ o, H a = some o ∧ mt o = true) ∧ Pots T.tb p H pt ∧ Lam K T p S H tl m ∧ Wf ⟨K, T, p, S, H, 0, x0⟩ H Q (fun _ _ _ => False) (hm m pt)
def lamM (n : Nat) (g : M D → Slots → M Out) : M D → M D := fun m => bnd (g m (some .lam :: List.replicate n none)) fun o => match o with
  | .rt d => ret d
  | .nx _ => ret .non
  | _ => fail
def isLam : Option (Option SV) → Bool
  | some (some .lam) => true
  | _ => false
def actE (m : M D) : Slots → M D := fun ρ => if isLam ρ[0]? && noOwnA ρ then m else fail
abbrev xl (f c' : Addr) (q : Str) : Xc := ⟨0, .none, none, f, c', q⟩
theorem Wf.wg {K : PySem.W.Frag} {T : Tb} {p : Addr} {S : List Addr} {E : XK} {Q : VK} {r : Res D} (hK : c.K = K) (hT : c.T = T) (hp : c.p = p) (hS : c.S = S) (h : Wg c (fun cls d _ H => E cls d H) σ H (fun d _ H' => ∀ v, c.R (Hd c.S H') d v → Q v H') r) : Wf ⟨K, T, p, S, H, 0, x0⟩ H Q E r := by
  subst hK hT hp hS
  cases r with
  | ok d pt => exact fun v H' st rv => h H' st v rv
  | exc e fs pt => exact fun cls dd H' st rx => h cls dd H' st rx
  | stuck => exact h
theorem Wf.to_wg {K : PySem.W.Frag} {T : Tb} {p : Addr} {S : List Addr} {E : XK} {Q : VK} {r : Res D} (hK : c.K = K) (hT : c.T = T) (hp : c.p = p) (hS : c.S = S) (h : Wf ⟨K, T, p, S, H, 0, x0⟩ H Q E r) : Wg c (fun cls d _ H => E cls d H) σ H (fun d _ H' => ∀ v, c.R (Hd c.S H') d v → Q v H') r := by
  subst hK hT hp hS
  cases r with
  | ok d pt => exact fun H' st v rv => h v H' st rv
  | exc e fs pt => exact fun cls dd H' st rx => h cls dd H' st rx
  | stuck => exact h
/-- the def that calls the lambda -/
theorem gives_of {T : Tb} {N : List Str} {x a q : Str} {sg : Scope} {g0 : Addr} {cdg : Value} {bg : List Stmt} {g : M D → Slots → M Out} {n : Nat} (hN : N.length = n + 1)
    (hb : ∀ (f c' : Addr) (s : Shared) (H : Hp) (p : Addr) (S : List Addr) (m : M D),
      (∀ (E1 : XK) (pn : List (Addr × Obj)) (xe : Value → Shared → Prop) (p1 p2 : Pos), Takes ((cxOf C8.CX0 X.prog X.w X.K X.mg X.base N x sg g0 cdg X.A X.stack s H C8.E0).tr pn xe) (fun cls d _ H => E1 cls d H) →
        PE ((cxOf C8.CX0 X.prog X.w X.K X.mg X.base N x sg g0 cdg X.A X.stack s H C8.E0).tr pn xe) (.Call (.Name a p1) [] [] p2) (dE ⟨X.K, T, p, S, H, 0, xl f c' q⟩ (fun cls d _ H => E1 cls d H) (actE m))) →
      PSs (cxOf C8.CX0 X.prog X.w X.K X.mg X.base N x sg g0 cdg X.A X.stack s H C8.E0).nox bg (dS ⟨X.K, T, p, S, H, 0, xl f c' q⟩ W0 (g m))) :
    LamX.GivesTo X N x sg g0 cdg bg a q (TTd X.K T (lamM n g)) := by
  intro f c' s H Q tl act hc h
  obtain ⟨p, S, pt, m, hp, hS, hpot, hL, hw⟩ := h
  have nS : c' ∉ S := fun z => by
    obtain ⟨o, e, mo⟩ := hS c' z
    rw [hc] at e
    have e2 : LamX.CodeO c' q = o := Option.some.inj e
    rw [← e2] at mo
    cases mo
  have hid0 : hid (⟨X.K, T, p, S, H, 0, xl f c' q⟩ : Cy) [] = S := List.append_nil _
  refine ⟨_, hb f c' s H p S m fun E1 pn xe p1 p2 tk => ?_, ⟨[], some .lam :: List.replicate n none, pt, ?_, ?_⟩⟩
  · refine pe_imp (act (fun cls d _ H => E1 cls d H) pn xe E1 p1 p2 tk fun _ _ _ _ z => z) fun σZ HZ Q1 ⟨O1, ρ1, pt1, r1, h1⟩ => ?_
    unfold actE at h1
    by_cases hz : (isLam ρ1[0]? && noOwnA ρ1) = true
    · rw [if_pos hz] at h1
      obtain ⟨z1, z2⟩ := Bool.and_eq_true_iff.mp hz
      have eO := own_nil r1 z2
      subst eO
      have es : ρ1[0]? = some (some .lam) := by
        unfold isLam at z1
        split at z1
        · assumption
        · cases z1
      obtain ⟨e1, e2⟩ := r1.sl 0 _ es
      refine ⟨e1, Hd.le _ _ e2, hL E1 HZ Q1 pt1 ⟨fun a o n e mm => r1.ext a o n e mm, r1.pot⟩ ?_⟩
      refine Wf.wg (c := ⟨X.K, T, p, S, H, 0, xl f c' q⟩) (σ := σZ) rfl rfl rfl rfl ?_
      rw [hid0] at h1
      exact h1
    · rw [if_neg hz] at h1
      exact h1.elim
  · refine ⟨hpot, fun _ _ _ e _ => e, hp, hS, fun _ z => (nomatch z), .nil, .nil, ?_, fun _ z => (nomatch z), fun i sv hi => ?_⟩
    · unfold L2.start
      simp [hN]
    · cases i with
      | zero =>
        simp only [List.getElem?_cons_zero, Option.some.injEq] at hi
        subst hi
        refine ⟨rfl, ?_⟩
        rw [hid0]
        exact Hd.out nS hc
      | succ i =>
        rw [List.getElem?_cons_succ, List.getElem?_replicate] at hi
        split at hi <;> cases hi
  · unfold lamM DF.bnd at hw
    cases e : g m (some .lam :: List.replicate n none) pt with
    | stuck => rw [e] at hw; exact hw
    | exc _ _ _ =>
      rw [e] at hw
      exact fun cls dd τ H1 fi rx => hw cls dd H1 ⟨fun a o n h m => fi.ext a o n h m, fi.pot⟩ rx
    | ok o p1 =>
      rw [e] at hw
      cases o with
      | nx ρ1 => exact fun O' σ' H' rs _ => hw .non H' ⟨fun a o n h m => rs.ext a o n h m, rs.pot⟩ (by simp [Cy.R, R])
      | rt d => exact fun v H' fi rv => hw v H' ⟨fun a o n h m => fi.ext a o n h m, fi.pot⟩ rv
      | bk ρ1 => exact hw.elim
      | ct ρ1 => exact hw.elim
def lamcE (hm : M D → M D) (fb : Slots → M D) : Slots → M D := fun ρ => if noOwnA ρ then fun pt => match hm (fb ρ) pt with
  | .ok d p => .ok d p
  | _ => .stuck else fail
theorem de_lam {x a : Str} {g0 c1 P1 : Addr} {k : Nat} {pg : Arguments} {bg : List Stmt} {sg : Scope} {dvs : List V} {kws : List (Str × V)} {fd : FuncData} {Ng : List Str} {params : Arguments} {body : Expr} {scope : Scope} {p lpos pos : Pos} {hm : M D → M D} {fb : Slots → M D}
    (hK : c.K = X.K) (gx : X.mg x = some (.ref g0)) (F : FunD X.K x x pg bg sg dvs kws g0 fd) (hb : L2.Binds X.K fd [a] []) (Sg : FnScope Ng [a] sg) (hG : ∀ cdv, LamX.GivesTo X Ng x sg g0 cdv bg a (X.env.qual ++ "<lambda>") (TTd X.K c.T hm))
    (TB : LamX.TabB X.base X.mg c1 P1) (hcode : X.env.code = .ref c1) (hmT : (P1, X.env.qual ++ "<lambda>") ∈ c.T.tb) (hu : ∀ p ∈ c.T.tb, p.1 = P1 → p.2 = X.env.qual ++ "<lambda>") (hr : Room (k + 2) X.A)
    (hbind : ∀ (q : Str) (cl : List (Str × Addr)) (pm cv ctv : Value), bindArgs (PySem.W.kla_fn "<lambda>" q params body scope cl pm cv ctv) ⟨[], []⟩ = pure [])
    (hbody : ∀ (A : Around) (outer : List Env) (s : Shared) (H : Hp) (E : XK) (f c' : Addr), Room k (A.deeper (LamX.lamEnv X scope s.heap.objs.size f c')) → PE (LamX.lamCx X A outer s H E scope f c') body (dE c (fun cls d _ H => E cls d H) fb))
    (L : LamX.LamS X.env.scope scope := by exact LamX.lamS_by (by kernel_rfl)) (hdef : defaultsOf params X.env = ([], []) := by rfl) (hg : Gl X x := by rfl) (hNg : Ng[0]? = some a := by rfl) (hva : Vis sg a := by first | exact Or.inl rfl | exact Or.inr (Or.inl rfl) | exact Or.inr (Or.inr rfl))
    (hdb : (x == ("__debug__" : Str)) = false := by decide) (hd : (a == ("__debug__" : Str)) = false := by decide) (hcd : (a == ("__classdict__" : Str)) = false := by decide) :
    PE X (.Call (.Name x p) [.Lambda params body scope lpos] [] pos) (dE c W (lamcE hm fb)) := by
  obtain ⟨oc, od, dV, kV, doc, pm, an, cdv, ct, osl, rfl, lk, hcg, _, _⟩ := F.ex
  refine pe_imp (LamX.pe_lamcall (T := c.T.tb) (TT := TTd X.K c.T hm) (t := fun E => dE c (fun cls d _ H => E cls d H) fb) hg gx F.kp lk hcg hb Sg hNg hva (hG cdv) TB hcode hmT hu hr L hdef hbind hbody hdb hd hcd) fun σ H Q ⟨O, ρ, pt, r, h⟩ => ⟨r.pot.tab, fun H1 eN T1 => ?_⟩
  unfold lamcE at h
  by_cases hz : noOwnA ρ = true
  · rw [if_pos hz] at h
    have eO := own_nil r hz
    subst eO
    have hid0 : hid c [] = c.S := List.append_nil _
    have st : Stp c.T.tb c.p H H1 pt := ⟨fun b o _ e m => eN b o e (fun ps z => by rw [z] at m; cases m), ⟨eN _ _ r.pot.at_ (fun ps z => by cases z), T1⟩⟩
    have r1 := r.stp st
    refine ⟨c.p, c.S, pt, fb ρ, r.hp, r1.hS, r1.pot, fun E H2 Q2 p2 st2 w => ⟨[], ρ, p2, r1.stp st2, ?_⟩, ?_⟩
    · rw [hid0]
      exact Wf.to_wg hK rfl rfl rfl w
    · cases e : hm (fb ρ) pt with
      | stuck => rw [e] at h; exact h
      | exc _ _ _ => rw [e] at h; exact h.elim
      | ok d p1 =>
        rw [e] at h
        intro v H2 st2 rv
        refine h H2 (st.trans st2) v ?_
        rw [hid0]
        obtain ⟨K1, T1', p1', S1, H01, me1, x1⟩ := c
        simp only at hK
        subst hK
        exact rv
  · rw [if_neg hz] at h
    exact h.elim
end
end DF

set_option Elab.async false
set_option linter.all false
set_option maxRecDepth 100000
set_option maxHeartbeats 4000000
namespace DF
open PySem PySem.Spec PyProof.Rows L2
/-! ### repr of lists, tuples, the empty dict -/
mutual
def shD : D → Option PyData
  | .non => some .none
  | .bl b => some (.bool b)
  | .int i => some (.int i)
  | .str x => some (.str x)
  | .tup ds => (shL ds).map .tuple
  | .lst ds => (shL ds).map .list
  | .dct [] => some (.dict [])
  | _ => none
def shL : List D → Option (List PyData)
  | [] => some []
  | d :: ds => (shD d).bind fun x => (shL ds).map fun xs => x :: xs
end
mutual
def noL : PyData → Bool
  | .list _ => false
  | .tuple xs => noLs xs
  | _ => true
def noLs : List PyData → Bool
  | [] => true
  | x :: xs => noL x && noLs xs
end
section
variable {X : Cx} {c : Cy} {W : WX} {pins : List (Addr × Obj)} {σ : L2.St} {H H1 : Hp} {s : Shared}
mutual
theorem rd_D (I : Inv X pins σ H s) (g : Gr H1 H) {T : Tb} {p : Addr} : ∀ {d : D} {v : V} {u : Value} {x : PyData}, R X.K T p H1 d v → RelV v u → shD d = some x → ∃ as, Reads s.heap u x as ∧ (noL x = true → sysModules ∉ as)
  | .non, _, _, _, h, r, e => by
    simp only [R] at h; simp only [shD] at e; cases e; subst h; cases r; exact ⟨_, .none, by simp⟩
  | .bl b, _, _, _, h, r, e => by
    simp only [R] at h; simp only [shD] at e; cases e; subst h; cases r; exact ⟨_, .bool b, by simp⟩
  | .int b, _, _, _, h, r, e => by
    simp only [R] at h; simp only [shD] at e; cases e; subst h; obtain ⟨t, rfl⟩ := r; exact ⟨_, .int b t, by simp⟩
  | .str b, _, _, _, h, r, e => by
    simp only [R] at h; simp only [shD] at e; cases e; subst h; obtain ⟨t, rfl⟩ := r; exact ⟨_, .str b t, by simp⟩
  | .tup ds, _, _, _, h, r, e => by
    simp only [R] at h
    simp only [shD] at e
    obtain ⟨a, vs, rfl, sq, rl⟩ := h
    cases q : shL ds with
    | none => rw [q] at e; cases e
    | some xs =>
      rw [q] at e
      cases e
      cases r
      obtain ⟨its, rv, ⟨o, ho, hc, n, hd⟩, _⟩ := I.tuple (g.sqt sq)
      obtain ⟨as, hr, hn⟩ := rd_L I g rl rv q
      exact ⟨as, .tuple ho hc hd (by simpa using hr), fun z => hn (by simpa [noL] using z)⟩
  | .lst ds, _, _, _, h, r, e => by
    simp only [R] at h
    simp only [shD] at e
    obtain ⟨a, vs, rfl, sq, rl⟩ := h
    cases q : shL ds with
    | none => rw [q] at e; cases e
    | some xs =>
      rw [q] at e
      cases e
      cases r
      obtain ⟨its, rv, ⟨o, n, ho, hc, _, hd⟩, _⟩ := I.list (.inl (.inl (g _ _ sq)))
      obtain ⟨as, hr, hn⟩ := rd_L I g rl rv q
      exact ⟨_, .list ho hc hd (by simpa using hr), fun z => by simp [noL] at z⟩
  | .dct [], _, _, _, h, r, e => by
    simp only [R] at h
    simp only [shD] at e
    obtain ⟨a, es, rfl, he, rk⟩ := h
    simp only [RK] at rk
    subst rk
    cases e
    cases r
    obtain ⟨_, ns, vs, kv, o, es, ep, ho, ⟨hx, _, _⟩, hd, _, hp, _⟩ := I.hok a _ (g _ _ he)
    have ev : vs = [] := by
      cases kv
      rfl
    subst ev
    have ee : es.toList = [] := by
      cases hq : es.toList with
      | nil => rfl
      | cons z zs =>
        rw [hq] at hp
        cases hp
    refine ⟨_, .dict (kvs := []) ho hx hd (by rw [ee]; exact .nil) (by rw [ee]; exact .nil), fun _ z => ?_⟩
    have z1 : sysModules = a := by simpa using z
    rw [← z1] at ns
    simp at ns
  | .dct (_ :: _), _, _, _, _, _, e | .obj _ _, _, _, _, _, _, e | .pot, _, _, _, _, _, e | .fn _, _, _, _, _, _, e | .cls _, _, _, _, _, _, e | .ty _, _, _, _, _, _, e => by simp only [shD] at e; cases e
theorem rd_L (I : Inv X pins σ H s) (g : Gr H1 H) {T : Tb} {p : Addr} : ∀ {ds : List D} {vs : List V} {us : List Value} {xs : List PyData}, RL X.K T p H1 ds vs → Vals vs us → shL ds = some xs → ∃ as, ReadsAll s.heap us xs as ∧ (noLs xs = true → sysModules ∉ as)
  | [], _, _, _, h, r, e => by
    simp only [RL] at h
    simp only [shL] at e
    cases e
    subst h
    cases r
    exact ⟨_, .nil, by simp⟩
  | d :: ds, _, _, _, h, r, e => by
    simp only [RL] at h
    simp only [shL] at e
    obtain ⟨v, ws, rfl, rv, rl⟩ := h
    cases r with
    | cons ru rus =>
      cases q : shD d with
      | none => rw [q] at e; cases e
      | some x =>
        rw [q] at e
        cases q2 : shL ds with
        | none => rw [q2] at e; cases e
        | some xs =>
          rw [q2] at e
          cases e
          obtain ⟨as, h1, n1⟩ := rd_D I g rv ru q
          obtain ⟨bs, h2, n2⟩ := rd_L I g rl rus q2
          refine ⟨_, .cons h1 h2, fun z => ?_⟩
          simp only [noLs, Bool.and_eq_true] at z
          exact fun m => (List.mem_append.mp m).elim (n1 z.1) (n2 z.2)
end
/-- a container, to be looked at -/
theorem rd_B (I : Inv X pins σ H s) (hK : c.K = X.K) {O : List (Nat × Addr)} {d : D} {v : V} {u : Value} {x : PyData} (h : RB c O H d v) (r : RelV v u) (e : shD d = some x) : ∃ as, Reads s.heap u x as ∧ (noL x = true → sysModules ∉ as) := by
  rcases h with h | ⟨i, a, ds, vs, e1, ev, m, ha, rl⟩ | ⟨i, a, ds, vs, e1, ev, m, ha, rl⟩
  · have h : R X.K c.T c.p (Hd (hid c O) H) d v := hK ▸ h
    exact rd_D I Hd.le h r e
  · subst e1
    subst ev
    have rl : RL X.K c.T c.p (Hd (hid c O) H) ds vs := hK ▸ rl
    simp only [shD] at e
    cases q : shL ds with
    | none => rw [q] at e; cases e
    | some xs =>
      rw [q] at e
      cases e
      cases r
      obtain ⟨its, rv, ⟨o, n, ho, hc, _, hd⟩, _⟩ := I.list (.inl (.inl ha))
      obtain ⟨as, hr, hn⟩ := rd_L I Hd.le rl rv q
      exact ⟨_, .list ho hc hd (by simpa using hr), fun z => by simp [noL] at z⟩
  · subst e1
    subst ev
    cases ds with
    | cons z zs =>
      obtain ⟨k, dd⟩ := z
      simp only [shD] at e
      cases e
    | nil =>
      have rk : RK X.K c.T c.p (Hd (hid c O) H) [] vs := hK ▸ rl
      simp only [RK] at rk
      subst rk
      have hR : R X.K c.T c.p H (.dct []) (.ref a) := by
        simp only [R]
        exact ⟨a, [], rfl, ha, by simp [RK]⟩
      exact rd_D I (Gr.refl H) hR r e
def shOk (x : PyData) : Bool := x.showable && ((!x.hasDict || noL x) && (decide (x.shown.length ≤ 1000000) && decide (x.depth ≤ 20)))
def reprC (d : D) : Option D := (shD d).bind fun x => if shOk x then some (.str x.shown) else none
def reprG : List D → Option D
  | [.tup ds] => reprC (.tup ds)
  | [.lst ds] => reprC (.lst ds)
  | [.dct ds] => reprC (.dct ds)
  | xs => reprF xs
def rRc (X : Cx) : List V → Hp → VK → Prop := fun vs H Q => ∃ a x, vs = [.ref a] ∧ (∀ (pins : List (Addr × Obj)) (σ : L2.St) (s : Shared), Inv X pins σ H s → ∃ as, Reads s.heap (.ref a) x as ∧ (noL x = true → sysModules ∉ as)) ∧ shOk x = true ∧ Q (.str x.shown) H
theorem cr_reprC (hg : X.A.guards = some []) {k : Nat} (hr : Room k X.A) : CallR X (.builtin "repr") (rRc X) := by
  intro pins s σ H xs us Q I r h
  obtain ⟨a, x, rfl, hrd, hok, q⟩ := h
  cases r with
  | cons ra rn =>
    cases rn
    cases ra
    obtain ⟨as, hR, hn⟩ := hrd pins σ s I
    unfold shOk at hok
    simp only [Bool.and_eq_true, Bool.or_eq_true, Bool.not_eq_true', decide_eq_true_eq] at hok
    obtain ⟨h1, h2, h3, h4⟩ := hok
    have hu := hr.un
    refine repr_of_reads' hR h1 (fun z => hn (h2.resolve_left (by rw [z]; simp))) hg (by omega) (fun b o e => e) (fun h' u tk hk => ?_) (Nat.le_trans h3 (by decide))
    exact ⟨.str x.shown, H, I.kept hk, ⟨u, rfl⟩, q⟩
theorem repr_ok {O : List (Nat × Addr)} {xs : List D} {z : D} {vs : List V} {Q : VK} (rx : RBL c O H xs vs) (e : reprF xs = some z) (q : ∀ v, c.R (Hd (hid c O) H) z v → Q v H) : rRepr vs H Q := by
  unfold reprF at e
  split at e
  · split at e
    · rename_i hz
      cases e
      obtain ⟨v, rfl, h⟩ := rx.one
      rw [h.str]
      exact .inl ⟨_, rfl, hz, q _ (by simp [Cy.R, R])⟩
    · cases e
  · split at e
    · rename_i hz
      cases e
      obtain ⟨v, rfl, h⟩ := rx.one
      rw [h.int]
      exact .inr (.inl ⟨_, rfl, hz, q _ (by simp [Cy.R, R])⟩)
    · cases e
  · cases e
    obtain ⟨v, rfl, h⟩ := rx.one
    rw [h.bl]
    exact .inr (.inr (.inl ⟨_, rfl, q _ (by simp [Cy.R, R])⟩))
  · cases e
    obtain ⟨v, rfl, h⟩ := rx.one
    rw [h.non]
    exact .inr (.inr (.inr ⟨rfl, q _ (by simp [Cy.R, R])⟩))
  · cases e
theorem reprC_ok (hK : c.K = X.K) {O : List (Nat × Addr)} {d z : D} {a : Addr} {Q : VK} (rv : RB c O H d (.ref a)) (e : reprC d = some z) (q : ∀ v, c.R (Hd (hid c O) H) z v → Q v H) : rRc X [.ref a] H Q := by
  unfold reprC at e
  cases q1 : shD d with
  | none => rw [q1] at e; cases e
  | some x =>
    rw [q1] at e
    simp only [Option.bind_some] at e
    by_cases ho : shOk x = true
    · rw [if_pos ho] at e
      cases e
      exact ⟨a, x, rfl, fun pins σ s I => rd_B I hK rv rfl q1, ho, q _ (by simp [Cy.R, R])⟩
    · rw [if_neg ho] at e
      cases e
theorem cd_reprG {k : Nat} (hr : Rm True k X.A) (hK : c.K = X.K := by rfl) : CallD X c W (.builtin "repr") (pu1 reprG) := by
  refine cd_pu (cr_repr.or (cr_reprC (hr.gd trivial) hr.room)) fun O H xs z vs Q rx e q => ?_
  unfold reprG at e
  split at e
  · obtain ⟨v, rfl, h⟩ := rx.one
    obtain ⟨a, ws, rfl, _⟩ := h.tup
    exact .inr (reprC_ok hK h e q)
  · obtain ⟨v, rfl, h⟩ := rx.one
    obtain ⟨a, ws, rfl, _⟩ := h.lst
    exact .inr (reprC_ok hK h e q)
  · obtain ⟨v, rfl, h⟩ := rx.one
    obtain ⟨a, ws, rfl, _⟩ := h.dct
    exact .inr (reprC_ok hK h e q)
  · exact .inl (repr_ok rx e q)
end
end DF

set_option Elab.async false
set_option linter.all false
set_option maxRecDepth 100000
set_option maxHeartbeats 4000000
namespace DF
open PySem PySem.Spec PyProof.Rows L2
section
variable {gu : Prop} {X : Cx} {c : Cy} {W : WX} {σ : L2.St} {H H1 H' : Hp} {O : List (Nat × Addr)} {ρ : Slots} {pt pt' : Pot} {e a b o : Expr} {p p2 p3 pos apos cpos : Pos}
/-! ### constants of the module -/
theorem de_gint {x : Str} {i : Int} (h : ∃ t, X.mg x = some (.int i t)) (hg : Gl X x := by rfl) (hd : (x == ("__debug__" : Str)) = false := by decide) : PE X (.Name x pos) (dE c W (cE (.int i))) :=
  pe_imp (C8.pe_gc (v := .int i) hg (let ⟨t, e⟩ := h; ⟨_, e, t, rfl⟩) hd) fun σ H Q ⟨O, ρ, pt, r, q⟩ => Wg.here q r.pot _ (by simp [Cy.R, R])
theorem de_gstr {x : Str} {i : Str} (h : ∃ t, X.mg x = some (.str i t)) (hg : Gl X x := by rfl) (hd : (x == ("__debug__" : Str)) = false := by decide) : PE X (.Name x pos) (dE c W (cE (.str i))) :=
  pe_imp (C8.pe_gc (v := .str i) hg (let ⟨t, e⟩ := h; ⟨_, e, t, rfl⟩) hd) fun σ H Q ⟨O, ρ, pt, r, q⟩ => Wg.here q r.pot _ (by simp [Cy.R, R])
/-! ### {} -/
theorem de_dct0 : PE X (.Dict [] [] pos) (dE c W (cE (.dct []))) := pe_imp pe_dnewK fun σ H Q ⟨O, ρ, pt, r, q⟩ l hl => q _ (Stp.new r.pot hl) _ (by
  simp only [Cy.R, R]
  exact ⟨l, [], rfl, Hd.at_new (r.fresh hl), by simp [RK]⟩)
/-! ### a <= b <= c -/
def chI (f1 f2 : Int → Int → Bool) (fa fb fc : Slots → M D) : Slots → M D := fun ρ => bnd (fa ρ) fun x => bnd (fb ρ) fun y => bnd (opt (intOf x)) fun i => bnd (opt (intOf y)) fun j =>
  if f1 i j then bnd (fc ρ) fun z => bnd (opt (intOf z)) fun k => ret (.bl (f2 j k)) else ret (.bl false)
theorem ch_ok {f1 f2 : Int → Int → Bool} {fa fb fc : Slots → M D} {Q : VK} (h : dE c W (chI f1 f2 fa fb fc) σ H Q) : tChain (rI0 fun i j => .bl (f1 i j)) (rI0 fun i j => .bl (f2 i j)) (dE c W fa) (dE c W fb) (dE c W fc) σ H Q := by
  obtain ⟨O, ρ, pt, r, q⟩ := h
  refine ⟨O, ρ, pt, r, (Wg.bnd q).imp fun x p1 H1 _ s1 q v rv => ?_⟩
  have r1 := r.stp s1
  refine ⟨O, ρ, p1, r1, (Wg.bnd q).imp fun y p2 H2 _ s2 q w rw => ?_⟩
  have r2 := r1.stp s2
  obtain ⟨i, ei, q⟩ := Wg.opt (Wg.bnd q) r2.pot
  obtain ⟨j, ej, q⟩ := Wg.opt (Wg.bnd q) r2.pot
  rw [intOf_eq ei] at rv
  rw [intOf_eq ej] at rw
  simp only [Cy.R, R] at rv rw
  subst rv rw
  refine ⟨i, j, rfl, rfl, f1 i j, rfl, ?_⟩
  by_cases hf : f1 i j = true
  · rw [if_pos hf] at q
    rw [if_pos hf]
    refine ⟨O, ρ, p2, r2, (Wg.bnd q).imp fun z p3 H3 _ s3 q u ru => ?_⟩
    have r3 := r2.stp s3
    obtain ⟨k, ek, q⟩ := Wg.opt (Wg.bnd q) r3.pot
    rw [intOf_eq ek] at ru
    simp only [Cy.R, R] at ru
    subst ru
    exact ⟨j, k, rfl, rfl, Wg.here q r3.pot _ (by simp [Cy.R, R])⟩
  · rw [if_neg hf] at q
    rw [if_neg hf]
    exact Wg.here q r2.pot _ (by simp [Cy.R, R])
theorem de_ch {op op' : CmpOp} {f1 f2 : Int → Int → Bool} {fa fb fc : Slots → M D} {c3 : Expr} (o1 : OpR X (compareOp op) (rI0 fun i j => .bl (f1 i j))) (o2 : OpR X (compareOp op') (rI0 fun i j => .bl (f2 i j))) (ha : PE X a (dE c W fa)) (hb : PE X b (dE c W fb)) (hc : PE X c3 (dE c W fc))
    (hm : lastMarks [op, op'] [b, c3] = false := by with_unfolding_all rfl) : PE X (.Compare a [op, op'] [b, c3] pos) (dE c W (chI f1 f2 fa fb fc)) := pe_imp (pe_chain o1 o2 ha hb hc hm) fun σ H Q h => ch_ok h
theorem dt_ch {op op' : CmpOp} {f1 f2 : Int → Int → Bool} {fa fb fc : Slots → M D} {c3 : Expr} (o1 : OpR X (compareOp op) (rI0 fun i j => .bl (f1 i j))) (o2 : OpR X (compareOp op') (rI0 fun i j => .bl (f2 i j))) (ha : PE X a (dE c W fa)) (hb : PE X b (dE c W fb)) (hc : PE X c3 (dE c W fc))
    (hm : lastMarks [op, op'] [b, c3] = false := by with_unfolding_all rfl) : PT X (.Compare a [op, op'] [b, c3] pos) (dT c W (testE (chI f1 f2 fa fb fc))) := pt_imp (pt_chain o1 o2 ha hb hc hm) fun σ H Q h => by
  refine ch_ok (c := c) (W := W) ?_
  obtain ⟨O, ρ, pt, r, q⟩ := h
  refine ⟨O, ρ, pt, r, (Wg.bnd q).imp fun d p1 H1 _ s1 q v rv => ?_⟩
  obtain ⟨b, ed, q2⟩ := asB_ok q s1.pot
  subst ed
  exact ⟨b, by simpa [Cy.R, R] using rv, q2⟩
/-! ### in -/
def flatD : D → Bool
  | .non | .bl _ | .int _ | .str _ => true
  | _ => false
def eqF : D → D → Bool
  | .non, .non => true
  | .bl a, .bl b => a == b
  | .bl a, .int b => (if a then 1 else 0) == b
  | .int a, .bl b => a == (if b then 1 else 0)
  | .int a, .int b => a == b
  | .str a, .str b => a == b
  | _, _ => false
def inL (x : D) (ds : List D) : Option Bool := if flatD x && ds.all flatD then some (ds.any fun y => eqF y x) else none
def inB : D → D → Option Bool
  | x, .lst ds => inL x ds
  | x, .tup ds => inL x ds
  | .str x, .str z => match x.cps.toList with
    | [n] => some (decide (n ∈ z.cps.toList))
    | _ => none
  | _, _ => none
def inD (x y : D) : Option D := (inB x y).map .bl
def ninD (x y : D) : Option D := (inB x y).map fun b => .bl (!b)
theorem flat_v {d : D} {v : V} (h : RB c O H d v) (f : flatD d = true) : flatV v = true ∧ ∀ d' v', flatD d' = true → RB c O H d' v' → eqV v v' = eqF d d' := by
  have key : ∀ {d' : D} {v' : V}, flatD d' = true → RB c O H d' v' → (d' = .non ∧ v' = .non) ∨ (∃ b, d' = .bl b ∧ v' = .bl b) ∨ (∃ b, d' = .int b ∧ v' = .int b) ∨ (∃ b, d' = .str b ∧ v' = .str b) := fun {d' v'} f h => by
    cases d' <;> first | (simp [flatD] at f; done) | skip
    · exact .inl ⟨rfl, h.non⟩
    · exact .inr (.inl ⟨_, rfl, h.bl⟩)
    · exact .inr (.inr (.inl ⟨_, rfl, h.int⟩))
    · exact .inr (.inr (.inr ⟨_, rfl, h.str⟩))
  refine ⟨?_, fun d' v' f' h' => ?_⟩
  · rcases key f h with ⟨rfl, rfl⟩ | ⟨b, rfl, rfl⟩ | ⟨b, rfl, rfl⟩ | ⟨b, rfl, rfl⟩ <;> rfl
  · rcases key f h with ⟨rfl, rfl⟩ | ⟨b, rfl, rfl⟩ | ⟨b, rfl, rfl⟩ | ⟨b, rfl, rfl⟩ <;> rcases key f' h' with ⟨rfl, rfl⟩ | ⟨b', rfl, rfl⟩ | ⟨b', rfl, rfl⟩ | ⟨b', rfl, rfl⟩ <;> rfl
theorem flat_vs {x : D} {v : V} (hx : RB c O H x v) (fx : flatD x = true) : ∀ {ds : List D} {vs : List V}, c.RL (Hd (hid c O) H) ds vs → ds.all flatD = true → vs.all flatV = true ∧ inV v vs = ds.any fun y => eqF y x
  | [], _, h, _ => by simp only [Cy.RL, RL] at h; subst h; exact ⟨rfl, rfl⟩
  | d :: ds, _, h, f => by
    simp only [Cy.RL, RL] at h
    obtain ⟨w, ws, rfl, rw1, rl⟩ := h
    rw [List.all_cons, Bool.and_eq_true] at f
    obtain ⟨h1, h2⟩ := flat_vs hx fx rl f.2
    obtain ⟨k1, k2⟩ := flat_v (RB.of rw1) f.1
    refine ⟨by rw [List.all_cons, k1, h1]; rfl, ?_⟩
    unfold inV at h2 ⊢
    rw [List.any_cons, List.any_cons, k2 x v fx hx, h2]
theorem inB_ok {neg : Bool} {x y : D} {v w : V} {z : Bool} {Q : VK} (hK : c.K = X.K) (rx : RB c O H x v) (ry : RB c O H y w) (e : inB x y = some z) (q : Q (.bl (if neg then !z else z)) H) :
    rIn X.K neg v w H Q ∨ ∃ (n : Nat) (s : Str), v = .str ⟨#[n]⟩ ∧ w = .str s ∧ Q (.bl (if neg then !decide (n ∈ s.cps.toList) else decide (n ∈ s.cps.toList))) H := by
  have seq : ∀ {ds : List D} {a : Addr} {vs : List V}, w = .ref a → (SqL X.K H a vs ∨ SqT X.K H a vs) → c.RL (Hd (hid c O) H) ds vs → inL x ds = some z → rIn X.K neg v w H Q := fun {ds a vs} ew sq rl e => by
    unfold inL at e
    split at e
    · rename_i hf
      rw [Bool.and_eq_true] at hf
      cases e
      obtain ⟨h1, h2⟩ := flat_vs rx hf.1 rl hf.2
      exact ⟨a, vs, ew, sq, (flat_v rx hf.1).1, h1, by rw [h2]; exact q⟩
    · cases e
  unfold inB at e
  split at e
  · obtain ⟨a, vs, ew, ha, rl⟩ := ry.lst
    exact .inl (seq ew (.inl (.inl (.inl ha))) rl e)
  · obtain ⟨a, vs, ew, ha, rl⟩ := ry.tup
    exact .inl (seq ew (.inr (hK ▸ ha)) rl e)
  · rename_i x1 s1
    split at e
    · rename_i n hn
      cases e
      refine .inr ⟨n, s1, ?_, ry.str, q⟩
      rw [rx.str]
      obtain ⟨⟨l⟩⟩ := x1
      simp only at hn
      rw [hn]
    · cases e
  · cases e
theorem od_in (hK : c.K = X.K := by rfl) : OpD X c W (compareOp .In) (pu inD) := opd_pu (op_in_seq.or op_in_sign) fun O H x y z v w Q rx ry e q => by
  unfold inD at e
  cases e1 : inB x y with
  | none => rw [e1] at e; cases e
  | some b =>
    rw [e1] at e
    cases e
    exact inB_ok (neg := false) hK rx ry e1 (q _ (by simp [Cy.R, R]))
theorem od_nin (hK : c.K = X.K := by rfl) : OpD X c W (compareOp .NotIn) (pu ninD) := opd_pu (op_notIn_seq.or op_notIn_sign) fun O H x y z v w Q rx ry e q => by
  unfold ninD at e
  cases e1 : inB x y with
  | none => rw [e1] at e; cases e
  | some b =>
    rw [e1] at e
    cases e
    exact inB_ok (neg := true) hK rx ry e1 (q _ (by simp [Cy.R, R]))
/-! ### x[i] = v, of a list of one's own -/
def setL (ds : List D) (k : Int) (d : D) : Option (List D) := (ixN ds.length k).map fun n => ds.set n d
def setS (i : Nat) (fi f : Slots → M D) : Slots → M Out := fun ρ => bnd (f ρ) fun d => bnd (opt (ownOf ρ[i]?)) fun ds => bnd (fi ρ) fun k => bnd (opt (intOf k)) fun k => bnd (opt (setL ds k d)) fun ds' => ret (.nx (ρ.set i (some (.own ds'))))
theorem own_set {i : Nat} {ds ds' : List D} {a : Addr} {vs : List V} {d : D} {v : V} {k : Int} (r : RS c O ρ σ H pt) (m : (i, a) ∈ O) (ev : σ[i]? = some (some (.ref a))) (hl : i < ρ.length) (ha : H a = some (.lst vs)) (rl : c.RL (Hd (hid c O) H) ds vs) (rv : c.R (Hd (hid c O) H) d v) (e : setL ds k d = some ds') :
    ∃ n, ixN vs.length k = some n ∧ RS c O (ρ.set i (some (.own ds'))) σ (upd H a (.lst (vs.set n v))) pt ∧ Mv c O H O (upd H a (.lst (vs.set n v))) := by
  unfold setL at e
  rw [RL.len rl] at e
  cases en : ixN vs.length k with
  | none => rw [en] at e; cases e
  | some n =>
    rw [en] at e
    cases e
    obtain ⟨rs, mv⟩ := r.mut (s' := .own (ds.set n d)) m (o := .lst (vs.set n v)) (fun gr => ⟨a, vs.set n v, m, ev, upd_same, RL.set n (RL.gr gr rl) (R.gr gr rv)⟩) hl
    exact ⟨n, rfl, rs, mv⟩
theorem ds_set {i : Nat} {x : Str} {fi f : Slots → M D} (h : PE X e (dE c W f)) (hx : PE X a (dE c W fi)) (hN : X.N[i]? = some x := by rfl) (hv : Vis X.env.scope x := by first | exact Or.inl rfl | exact Or.inr (Or.inl rfl)) (hd : (x == ("__debug__" : Str)) = false := by decide) (hcd : (x == ("__classdict__" : Str)) = false := by decide)
    (ha : ∀ v, assign (.Subscript (.Name x p) a p3) X.env v = (do
      let ov ← holding [v] (eval (.Name x p) X.env)
      let iv ← holding [v, ov] (eval a X.env)
      standAt p3
      holding [v, ov, iv] (setItem ov iv v)
      release [v, ov, iv] []) := by intro _; rfl)
    (hs : swapsWithSole [.Subscript (.Name x p) a p3] e pos.line X.env = pure false := by rfl) (hw : swappedStores [.Subscript (.Name x p) a p3] e X.env = pure none := by rfl)
    (h1 : (assignEach [.Subscript (.Name x p) a p3] X.env).map (·.2) = [assign (.Subscript (.Name x p) a p3) X.env] := by rfl) :
    PS X (.Assign [.Subscript (.Name x p) a p3] e pos) (dS c W (setS i fi f)) := by
  refine ps_imp (ps_asg h (pg_sub (pe_var (i := i) hN hv hd hcd) hx set_list ha) hs hw h1) fun E σ H ⟨O, ρ, pt, r, h⟩ => ⟨O, ρ, pt, r, (WO.bnd r h).imp fun d p1 H1 _ s1 q v rv => ?_⟩
  have r1 := r.stp s1
  obtain ⟨ds, eo, q⟩ := Wg.opt (WO.bnd r1 q) r1.pot
  have es := ownOf_eq eo
  obtain ⟨ad, vs, m, ev, hal, rl⟩ := r1.sl i _ es
  refine ⟨_, ev, ⟨O, ρ, p1, r1, (WO.bnd r1 q).imp fun kd p2 H2 _ s2 q kv rk => ?_⟩⟩
  have r2 := r1.stp s2
  obtain ⟨k, ek, q⟩ := Wg.opt (WO.bnd r2 q) r2.pot
  rw [intOf_eq ek] at rk
  simp only [Cy.R, R] at rk
  subst rk
  obtain ⟨ds', es', q⟩ := Wg.opt (WO.bnd r2 q) r2.pot
  have g2 : Gr (Hd (hid c O) H1) (Hd (hid c O) H2) := s2.gr r1.pm
  obtain ⟨n, hn, rs, mv⟩ := own_set r2 m ev (List.getElem?_eq_some_iff.mp es).1 (s2.keep _ _ (r1.new _ m).2.1 hal) (RL.gr g2 rl) (R.gr g2 rv) es'
  exact ⟨ad, vs, k, n, rfl, rfl, s2.keep _ _ (r1.new _ m).2.1 hal, hn, q _ _ _ rs mv⟩
def set2S (i : Nat) (k1 k2 : Int) (fa : Slots → M (List D)) : Slots → M Out := fun ρ => bnd (tupE fa ρ) fun t => match t with
  | .tup [d1, d2] => bnd (opt (ownOf ρ[i]?)) fun ds => bnd (opt (setL ds k1 d1)) fun ds1 => bnd (opt (setL ds1 k2 d2)) fun ds2 => ret (.nx (ρ.set i (some (.own ds2))))
  | _ => fail
theorem ds_set2 {i j1 j2 kk kt : Nat} {k1 k2 : Int} {x : Str} {fa : Slots → M (List D)} {q1 q2 q3 pt0 pt2 : Pos} (hc : X.calm = true) (h : PA X [a, b] (dA c W fa)) (hN : X.N[i]? = some x := by rfl) (hv : Vis X.env.scope x := by first | exact Or.inl rfl | exact Or.inr (Or.inl rfl)) (hd : (x == ("__debug__" : Str)) = false := by decide) (hcd : (x == ("__classdict__" : Str)) = false := by decide)
    (ha : ∀ v, assign (.Subscript (.Name x p) (.Constant (.int k1) j1 p2) p3) X.env v = (do
      let ov ← holding [v] (eval (.Name x p) X.env)
      let iv ← holding [v, ov] (eval (.Constant (.int k1) j1 p2) X.env)
      standAt p3
      holding [v, ov, iv] (setItem ov iv v)
      release [v, ov, iv] []) := by intro _; rfl)
    (hb : ∀ v, assign (.Subscript (.Name x q1) (.Constant (.int k2) j2 q2) q3) X.env v = (do
      let ov ← holding [v] (eval (.Name x q1) X.env)
      let iv ← holding [v, ov] (eval (.Constant (.int k2) j2 q2) X.env)
      standAt q3
      holding [v, ov, iv] (setItem ov iv v)
      release [v, ov, iv] []) := by intro _; rfl)
    (hs : swapsWithSole [.Tuple [.Subscript (.Name x p) (.Constant (.int k1) j1 p2) p3, .Subscript (.Name x q1) (.Constant (.int k2) j2 q2) q3] kt pt0] (.Tuple [a, b] kk pt2) pos.line X.env = pure false := by rfl)
    (hw : swappedStores [.Tuple [.Subscript (.Name x p) (.Constant (.int k1) j1 p2) p3, .Subscript (.Name x q1) (.Constant (.int k2) j2 q2) q3] kt pt0] (.Tuple [a, b] kk pt2) X.env = pure none := by rfl)
    (h1 : (assignEach [.Tuple [.Subscript (.Name x p) (.Constant (.int k1) j1 p2) p3, .Subscript (.Name x q1) (.Constant (.int k2) j2 q2) q3] kt pt0] X.env).map (·.2) = [assign (.Tuple [.Subscript (.Name x p) (.Constant (.int k1) j1 p2) p3, .Subscript (.Name x q1) (.Constant (.int k2) j2 q2) q3] kt pt0) X.env] := by rfl)
    (h2 : (assignEach [.Subscript (.Name x p) (.Constant (.int k1) j1 p2) p3, .Subscript (.Name x q1) (.Constant (.int k2) j2 q2) q3] X.env).map (·.2) = assign (.Subscript (.Name x p) (.Constant (.int k1) j1 p2) p3) X.env :: (assignEach [.Subscript (.Name x q1) (.Constant (.int k2) j2 q2) q3] X.env).map (·.2) := by rfl)
    (h3 : (assignEach [.Subscript (.Name x q1) (.Constant (.int k2) j2 q2) q3] X.env).map (·.2) = assign (.Subscript (.Name x q1) (.Constant (.int k2) j2 q2) q3) X.env :: (assignEach [] X.env).map (·.2) := by rfl)
    (h4 : (assignEach [.Subscript (.Name x p) (.Constant (.int k1) j1 p2) p3, .Subscript (.Name x q1) (.Constant (.int k2) j2 q2) q3] X.env).length = 2 := by rfl) (h5 : (assignEach [.Subscript (.Name x p) (.Constant (.int k1) j1 p2) p3, .Subscript (.Name x q1) (.Constant (.int k2) j2 q2) q3] X.env).findIdx? (·.1) = none := by rfl) (hK : c.K = X.K := by rfl) :
    PS X (.Assign [.Tuple [.Subscript (.Name x p) (.Constant (.int k1) j1 p2) p3, .Subscript (.Name x q1) (.Constant (.int k2) j2 q2) q3] kt pt0] (.Tuple [a, b] kk pt2) pos) (dS c W (set2S i k1 k2 fa)) := by
  refine ps_imp (ps_asg (de_tup h) (pg_tup hc (pgs_cons (pg_sub (pe_var (i := i) hN hv hd hcd) pe_int set_list ha) (pgs_cons (pg_sub (pe_var (i := i) hN hv hd hcd) pe_int set_list hb) pgs_nil h3) h2) h4 h5) hs hw h1) fun E σ H ⟨O, ρ, pt, r, h⟩ => ⟨O, ρ, pt, r, (WO.bnd r h).imp fun d p1 H1 _ s1 q v rv => ?_⟩
  have r1 := r.stp s1
  split at q
  · rename_i d1 d2
    simp only [Cy.R, R, RL] at rv
    obtain ⟨at_, vs0, rfl, sq, w1, _, rfl, rw1, w2, _, rfl, rw2, rfl⟩ := rv
    obtain ⟨ds, eo, q⟩ := Wg.opt (WO.bnd r1 q) r1.pot
    obtain ⟨ds1, e1, q⟩ := Wg.opt (WO.bnd r1 q) r1.pot
    obtain ⟨ds2, e2, q⟩ := Wg.opt (WO.bnd r1 q) r1.pot
    have es := ownOf_eq eo
    have hl := (List.getElem?_eq_some_iff.mp es).1
    obtain ⟨ad, vs, m, ev, hal, rl⟩ := r1.sl i _ es
    obtain ⟨n, hn, rs, mv⟩ := own_set r1 m ev hl hal rl rw1 e1
    have es1 : (ρ.set i (some (.own ds1)))[i]? = some (some (.own ds1)) := List.getElem?_set_self hl
    obtain ⟨ad1, vs1, m1, ev1, hal1, rl1⟩ := rs.sl i _ es1
    obtain ⟨n1, hn1, rs1, mv1⟩ := own_set rs m1 ev1 (by rw [List.length_set]; exact hl) hal1 rl1 (R.gr mv.gr rw2) e2
    rw [List.set_set] at rs1
    exact ⟨at_, _, rfl, by rw [← hK]; exact Hd.le.sqt sq, rfl, w1, [w2], rfl, _, ev, ad, vs, k1, n, rfl, rfl, hal, hn, w2, [], rfl, _, ev1, ad1, vs1, k2, n1, rfl, rfl, hal1, hn1, rfl, q _ _ _ rs1 (mv.trans mv1)⟩
  · exact q.elim
end
end DF

set_option Elab.async false
set_option linter.all false
set_option maxRecDepth 100000
set_option maxHeartbeats 4000000
namespace DF
open PySem PySem.Spec PyProof.Rows L2
/-! ### calls by keywords -/
def pick {α : Type} (sel : List (Bool × Nat)) (mv ws : List α) : List α := sel.filterMap fun q => if q.1 then ws[q.2]? else mv[q.2]?
theorem vals_at {vs : List V} {us : List Value} (h : Vals vs us) (i : Nat) : (vs[i]? = none ∧ us[i]? = none) ∨ ∃ v u, vs[i]? = some v ∧ us[i]? = some u ∧ RelV v u := by
  induction h generalizing i with
  | nil => exact .inl ⟨by simp, by simp⟩
  | cons r _ ih =>
    cases i with
    | zero => exact .inr ⟨_, _, rfl, rfl, r⟩
    | succ i => simpa using ih i
theorem vals_pick {mz zs : List V} {mv ws : List Value} (h1 : Vals mz mv) (h2 : Vals zs ws) : ∀ sel : List (Bool × Nat), Vals (pick sel mz zs) (pick sel mv ws)
  | [] => .nil
  | q :: sel => by
    have ih := vals_pick h1 h2 sel
    unfold pick at ih ⊢
    rw [List.filterMap_cons, List.filterMap_cons]
    cases hq : q.1 with
    | true =>
      simp only [if_true]
      rcases vals_at h2 q.2 with ⟨e1, e2⟩ | ⟨v, u, e1, e2, r⟩
      · rw [e1, e2]; exact ih
      · rw [e1, e2]; exact .cons r ih
    | false =>
      simp only [Bool.false_eq_true, if_false]
      rcases vals_at h1 q.2 with ⟨e1, e2⟩ | ⟨v, u, e1, e2, r⟩
      · rw [e1, e2]; exact ih
      · rw [e1, e2]; exact .cons r ih
theorem rl_at {K : PySem.W.Frag} {T : Tb} {p : Addr} {H : Hp} {ds : List D} {vs : List V} (h : RL K T p H ds vs) (i : Nat) : (ds[i]? = none ∧ vs[i]? = none) ∨ ∃ d v, ds[i]? = some d ∧ vs[i]? = some v ∧ R K T p H d v := by
  cases e : ds[i]? with
  | none =>
    left
    refine ⟨rfl, ?_⟩
    have := List.getElem?_eq_none_iff.mp e
    exact List.getElem?_eq_none (by rw [← RL.len h]; exact this)
  | some d =>
    obtain ⟨v, ev, r⟩ := RL.getD h e
    exact .inr ⟨d, v, rfl, ev, r⟩
theorem rl_pick {K : PySem.W.Frag} {T : Tb} {p : Addr} {H : Hp} {md ds : List D} {mz zs : List V} (h1 : RL K T p H md mz) (h2 : RL K T p H ds zs) : ∀ sel : List (Bool × Nat), RL K T p H (pick sel md ds) (pick sel mz zs)
  | [] => RL.nil
  | q :: sel => by
    have ih := rl_pick h1 h2 sel
    unfold pick at ih ⊢
    rw [List.filterMap_cons, List.filterMap_cons]
    cases hq : q.1 with
    | true =>
      simp only [if_true]
      rcases rl_at h2 q.2 with ⟨e1, e2⟩ | ⟨v, u, e1, e2, r⟩
      · rw [e1, e2]; exact ih
      · rw [e1, e2]; exact RL.cons r ih
    | false =>
      simp only [Bool.false_eq_true, if_false]
      rcases rl_at h1 q.2 with ⟨e1, e2⟩ | ⟨v, u, e1, e2, r⟩
      · rw [e1, e2]; exact ih
      · rw [e1, e2]; exact RL.cons r ih
section
variable {gu : Prop} {X : Cx} {c : Cy} {W : WX} {CX : CXT} {k n n0 kc : Nat} {f C : Addr} {fd : FuncData} {ps ks : List Str} {sp : Sp} {E : L2.St → XK} {x : Str} {p pos kpos : Pos} {e o : Expr} {es : List Expr} {kws : List Keyword} {t tk : TA} {g : List Value → List Value → List Value} {gV : List V → List V → List V} {nm : Option Str}
theorem pk_imp {kws : List Keyword} {t t' : TA} (h : PK X kws t) (i : ∀ σ H Q, t' σ H Q → t σ H Q) : PK X kws t' := ⟨fun pos pins s σ H Q I q => h.run pos pins s σ H Q I (i σ H Q q)⟩
theorem dk_nil : PK X [] (dA c W nilA) := pk_imp pk_nil fun σ H Q ⟨O, ρ, pt, r, q⟩ => Wg.here q r.pot _ RL.nil
theorem dk_cons {f : Slots → M D} {g : Slots → M (List D)} (h : PE X e (dE c W f)) (hs : PK X kws (dA c W g)) : PK X (⟨nm, e, kpos⟩ :: kws) (dA c W (consA f g)) := by
  refine pk_imp (pk_cons h hs) fun σ H Q ⟨O, ρ, pt, r, q⟩ => ?_
  refine ⟨O, ρ, pt, r, (Wg.bnd q).imp fun d p1 H1 _ s1 q v rv => ?_⟩
  refine ⟨O, ρ, p1, r.stp s1, (Wg.bnd q).imp fun ds p2 H2 _ s2 q vs rvs => ?_⟩
  have r2 := (r.stp s1).stp s2
  exact Wg.here q r2.pot _ (RL.cons (R.gr (s2.gr r.pm) rv) rvs)
theorem makeKAt {pins : List (Addr × Obj)} {σ : L2.St} {H : Hp} {s : Shared} {Q : VK} {us ws : List Value} {vs zs : List V} (M : Mk X.K C f) (F : FnG gu X.prog X.w X.K X.mg X.base CX k f fd ps sp) (hr : Rm gu (k + 1) X.A) (hb : KBn X.K fd ps (n + 1) ks g gV) (hx : PassesAt CX X σ (E σ))
    (I : Inv X pins σ H s) (r : Vals vs us) (rz : Vals zs ws) (l1 : vs.length = n) (l2 : zs.length = ks.length)
    (h : ∀ y dx, H y = none → H dx = none → dx ≠ y → sp (gV (.ref y :: vs) zs) (upd (upd H dx (.own y)) y (.ins C dx [])) (fun v H2 => v = .non ∧ Q (.ref y) H2) (E σ)) :
    wpAny (model X.prog X.w) X.A (call (.ref C) us (ks.zip ws)) (EP X pins σ Q) X.xe s := by
  have hq := h (s.heap.objs.size + 1) s.heap.objs.size (I.hok.fresh (Nat.le_succ _)) (I.hok.fresh (Nat.le_refl _)) (Nat.ne_of_lt (Nat.lt_succ_self _))
  have J := Inv.made (C := C) I
  have r1 : Vals (V.ref (s.heap.objs.size + 1) :: vs) (Value.ref (s.heap.objs.size + 1) :: us) := .cons rfl r
  have lu : (Value.ref (s.heap.objs.size + 1) :: us).length = n + 1 := r1.length.symm.trans (congrArg (· + 1) l1)
  have go := F.run _ X.stack _ _ ⟨Value.ref (s.heap.objs.size + 1) :: us, ks.zip ws⟩ _ _ _ (E σ) (hr.make C us (ks.zip ws)) (J.env0.make C us (ks.zip ws)) (hb.to _ (Value.ref (s.heap.objs.size + 1) :: us) ws J.kIn lu (rz.length.symm.trans l2)) (hb.rel r1 rz) hq
  refine wpAny_call (make_map (f := f) I.kIn M.makes M.init (beq_iff_eq.mp M.fn) (codeAny_mono go fun res s' hq' => ?_))
  match res, hq' with
  | .error e, hq' => exact hx pins _ _ e s' J hq'
  | .ok (.ret u), hq' =>
    obtain ⟨v, H', I3, rv, ev, q3⟩ := J.after hq'
    subst ev
    exact ⟨rv, ⟨V.ref (s.heap.objs.size + 1), H', I3, rfl, q3⟩⟩
def makeKE (kc n n0 m : Nat) (fm : List D → M (List D)) (sel : List (Bool × Nat)) (dd : List D) (fa fk : Slots → M (List D)) : Slots → M D := fun ρ => bnd (fa ρ) fun ds => bnd (fk ρ) fun es =>
  if ds.length = n0 ∧ es.length = m ∧ (ds ++ pick sel dd es).length + 1 = n then bnd (fm (ds ++ pick sel dd es)) fun fs => ret (.obj kc fs) else fail
theorem makeK_use {fm : List D → M (List D)} {fa fk : Slots → M (List D)} {sel : List (Bool × Nat)} {dd : List D} {dvs : List V} {m : Nat} {σ : L2.St} {H : Hp} {Q : VK} (hC : c.T.cls kc = C) (hc : Cst c dd dvs) (h : dE c W (makeKE kc n n0 m fm sel dd fa fk) σ H Q) :
    dA c W fa σ H fun vs H1 => dA c W fk σ H1 fun zs H2 => vs.length = n0 ∧ zs.length = m ∧ ∀ y dx, H2 y = none → H2 dx = none → dx ≠ y → spI c.K c.T kc n fm (.ref y :: (vs ++ pick sel dvs zs)) (upd (upd H2 dx (.own y)) y (.ins C dx [])) (fun v H3 => v = .non ∧ Q (.ref y) H3) (WE W σ) := by
  obtain ⟨O, ρ, pt, r, q⟩ := h
  refine ⟨O, ρ, pt, r, (Wg.bnd q).imp fun ds p1 H1 _ s1 q vs rl => ?_⟩
  have r1 := r.stp s1
  refine ⟨O, ρ, p1, r1, (Wg.bnd q).imp fun es p2 H2 _ s2 q zs rz => ?_⟩
  have r2 := r1.stp s2
  by_cases hl : ds.length = n0 ∧ es.length = m ∧ (ds ++ pick sel dd es).length + 1 = n
  · rw [if_pos hl] at q
    refine ⟨(RL.len rl).symm.trans hl.1, (RL.len rz).symm.trans hl.2.1, fun y dx hy hdx ne => ?_⟩
    exact spI_of r2 (RL.app (RL.gr (s2.gr r.pm) rl) (rl_pick (hc _) rz sel)) hl.2.2 hC hy hdx ne q
  · rw [if_neg hl] at q
    exact q.elim
theorem de_makeK {m : Nat} {fm : List D → M (List D)} {fa fk : Slots → M (List D)} {sel : List (Bool × Nat)} {dd : List D} {dvs : List V} (M : Mk X.K C f) (F : FnG gu X.prog X.w X.K X.mg X.base (L2.CX X.prog X.w) k f fd ps (spI c.K c.T kc n fm)) (hr : Rm gu (k + 1) X.A) (tk : Takes X W) (hm : X.mg x = some (.ref C)) (hC : c.T.cls kc = C)
    (hb : KBn X.K fd ps (n0 + 1) ks g (fun vs zs => vs ++ pick sel dvs zs)) (hc : Cst c dd dvs) (ha : PA X (e :: es) (dA c W fa)) (hkw : PK X kws (dA c W fk)) (hg : Gl X x := by rfl)
    (hall : (backToKw pos (keywordEach kws X.env)).all (·.1.isSome) = true := by rfl) (hks : (backToKw pos (keywordEach kws X.env)).filterMap (·.1) = ks := by rfl) (hl : ks.length = m := by rfl) (hdb : (x == ("__debug__" : Str)) = false := by decide)
    (he : starEach (e :: es) X.env = (false, eval e X.env) :: starEach es X.env := by rfl) (hpl : ((backTo pos (starEach (e :: es) X.env)).any (·.1) || (backToKw pos (keywordEach kws X.env)).any (·.1.isNone)) = false := by rfl) :
    PE X (.Call (.Name x p) (e :: es) kws pos) (dE c W (makeKE kc n n0 m fm sel dd fa fk)) := by
  subst hl
  refine ⟨fun pins s σ H Q I h => wpAny_Call_Name_kw (ld_glob I hg hm ?_ hdb)⟩
  refine PySem.W.callWith_KW (h₀ := X.base) I.ok.mod.kin M.kp hall (thn (ha.run pos pins s σ H _ I (makeK_use hC hc h)) fun us s1 ⟨vs, H1, I1, r, q⟩ => ?_) hpl he
  refine thn (hkw.run pos pins s1 σ H1 _ I1 q) fun ws s2 ⟨zs, H2, I2, rz, l1, l2, q2⟩ => ⟨I2.kIn, ?_⟩
  rw [hks]
  exact makeKAt (E := WE W) M F hr hb (passAt tk σ) I2 r rz l1 l2 q2
theorem de_makeK0 {m : Nat} {fm : List D → M (List D)} {fk : Slots → M (List D)} {sel : List (Bool × Nat)} {dd : List D} {dvs : List V} (M : Mk X.K C f) (F : FnG gu X.prog X.w X.K X.mg X.base (L2.CX X.prog X.w) k f fd ps (spI c.K c.T kc n fm)) (hr : Rm gu (k + 1) X.A) (tk : Takes X W) (hm : X.mg x = some (.ref C)) (hC : c.T.cls kc = C)
    (hb : KBn X.K fd ps 1 ks g (fun vs zs => vs ++ pick sel dvs zs)) (hc : Cst c dd dvs) (hkw : PK X kws (dA c W fk)) (hg : Gl X x := by rfl)
    (hall : (backToKw pos (keywordEach kws X.env)).all (·.1.isSome) = true := by rfl) (hks : (backToKw pos (keywordEach kws X.env)).filterMap (·.1) = ks := by rfl) (hl : ks.length = m := by rfl) (hdb : (x == ("__debug__" : Str)) = false := by decide)
    (hpl : ((backTo pos (starEach [] X.env)).any (·.1) || (backToKw pos (keywordEach kws X.env)).any (·.1.isNone)) = false := by rfl) :
    PE X (.Call (.Name x p) [] kws pos) (dE c W (makeKE kc n 0 m fm sel dd nilA fk)) := by
  subst hl
  refine ⟨fun pins s σ H Q I h => wpAny_Call_Name_kw (ld_glob I hg hm ?_ hdb)⟩
  have h2 : dA c W fk σ H fun zs H2 => zs.length = ks.length ∧ ∀ y dx, H2 y = none → H2 dx = none → dx ≠ y → spI c.K c.T kc n fm (.ref y :: ([] ++ pick sel dvs zs)) (upd (upd H2 dx (.own y)) y (.ins C dx [])) (fun v H3 => v = .non ∧ Q (.ref y) H3) (WE W σ) := by
    obtain ⟨O, ρ, pt, r, q⟩ := makeK_use hC hc h
    obtain ⟨O1, ρ1, pt1, r1, q1⟩ := Wg.here q r.pot [] RL.nil
    exact ⟨O1, ρ1, pt1, r1, q1.imp fun a q H' _ _ z v rv => ⟨(z v rv).2.1, (z v rv).2.2⟩⟩
  refine PySem.W.callWith_KW0 (h₀ := X.base) I.ok.mod.kin M.kp hall ?_ hpl
  refine thn (hkw.run pos pins s σ H _ I h2) fun ws s2 ⟨zs, H2, I2, rz, l2, q2⟩ => ⟨I2.kIn, ?_⟩
  rw [hks]
  exact makeKAt (us := []) (vs := []) (E := WE W) M F hr hb (passAt tk σ) I2 .nil rz rfl l2 q2
end
end DF

set_option Elab.async false
set_option linter.all false
set_option maxRecDepth 100000
set_option maxHeartbeats 4000000
namespace DF
open PySem PySem.Spec PyProof.Rows L2
/-! ### the end of a law, called with no repr under way -/
section
variable {P : Program} {w : World} {K : PySem.W.Frag} {mg mb : Str → Option Value} {CX : CXT} {k : Nat} {fa a : Addr} {cs : List (Addr × Addr)} {fd : FuncData} {x : Str} {sp : Sp} {s1 : Shared} {vs : List Value} {ns : List Int}
abbrev emT : Obj := { cls := .none, data := .fields #[] }
abbrev lsO (vs : List Value) : Obj := { cls := .type "list", data := .seq vs.toArray }
theorem law_core (KX : K.In s1.heap) (hns : s1.heap.Ns mainGlobals mg) (hb : s1.heap.Ns builtinsNs mb) (hbb : ∀ y : Str, y ≠ "__name__" → mb y = bootBuiltins y) (hlim : s1.heap.NoLimit) (hg : s1.gens = #[])
    (hT : ∀ q ∈ cs, s1.heap.get? q.2 = some emT) (nT : ∀ q ∈ cs, K.lookup q.2 = none) (hC : ∀ q ∈ cs, PySem.W.CodeHd s1.heap q.1 q.2)
    (hbm : ∃ (bm : Addr) (ob : Obj), mg "__builtins__" = some (.ref bm) ∧ bm ≠ builtinsNs ∧ s1.heap.get? bm = some ob ∧ ob.cls = .type "module" ∧ ob.dict = some builtinsNs ∧ ob.data = .plain)
    (ha : s1.heap.get? a = some (lsO vs)) (hr : Rm True k callerA)
    (F : ∀ base : Heap, K.In base → base.Ns mainGlobals mg → (∀ q ∈ cs, LamX.TabB base mg q.1 q.2) → FnG True P w K mg base CX k fa fd [x] sp) (hbind : ∀ (s : Shared) (u : Value), BindsTo s fd ⟨[u], []⟩ [(x, u)])
    (hCX : ∀ H e s', CX [] H s1 (fun _ _ _ => False) e s' → False) {H : Hp} (want : sp [.ref a] H (fun v _ => v = .bl true) fun _ _ _ => False)
    (tabs : ∀ q ∈ cs, H q.2 = some (.tbl #[])) (kinds : ∀ b, H b = none ∨ b ∈ cs.map (·.2) ∨ ∃ o xs, H b = some (.frz o (.lst xs))) (hok : HOk P w H s1.heap) (only : ∀ b, H b ≠ none → b = a ∨ b ∈ cs.map (·.2)) (hK : H a ≠ none → K.lookup a = none) :
    codeAny (model P w) callerA (.call (.ref fa) ⟨[.ref a], []⟩) (fun r s' => r = .ok (.ret (.bool true)) ∧ OldK s1.heap s'.heap ∧ s'.os = s1.os ∧ AllBare s'.gens) s1 := by
  have atT : ∀ b : Addr, b ∈ cs.map (·.2) → s1.heap.get? b = some emT := fun b m => by
    obtain ⟨q, hq, e⟩ := List.mem_map.mp m
    exact e ▸ hT q hq
  have seen : ∀ {b : Addr} {o : Obj}, s1.heap.get? b = some o → H b = none → (hidT s1.heap H).get? b = some o := fun e n => hidT_get e n
  have off : ∀ {b : Addr} {o : Obj}, s1.heap.get? b = some o → (∀ us m, o.data ≠ .seq us m) → o.data ≠ .fields #[] → H b = none := fun {b o} e n1 n2 => by
    by_cases z : H b = none
    · exact z
    · rcases only b z with y | y
      · rw [y, ha] at e
        cases e
        exact absurd rfl (n1 _ _)
      · rw [atT b y] at e
        cases e
        exact absurd rfl n2
  have offD : ∀ {b : Addr} {o : Obj} {es : Array DictEntry} {ep : Nat}, s1.heap.get? b = some o → o.data = .dict es ep → H b = none := fun {b o es ep} e d => off e (fun us m y => by rw [d] at y; cases y) fun y => by rw [d] at y; cases y
  have nsB : ∀ {b : Addr} {m : Str → Option Value}, s1.heap.Ns b m → (hidT s1.heap H).Ns b m := fun {b m} ⟨o, es, ep, e, d, r⟩ => ⟨o, es, ep, seen e (offD e d), d, r⟩
  have inB : K.In (hidT s1.heap H) := fun b o e => seen (KX b o e) (by
    by_cases z : H b = none
    · exact z
    · rcases only b z with y | y
      · subst y
        rw [hK z] at e
        cases e
      · obtain ⟨q, hq, eq⟩ := List.mem_map.mp y
        rw [← eq, nT q hq] at e
        cases e)
  have modB : L2.Mod K mg (hidT s1.heap H) := ⟨inB, nsB hns, ⟨mb, nsB hb, hbb⟩, let ⟨mc, z1, z2⟩ := hlim; ⟨mc, nsB z1, z2⟩⟩
  have tabB : ∀ q ∈ cs, LamX.TabB (hidT s1.heap H) mg q.1 q.2 := fun q hq => by
    refine ⟨?_, ?_, fun z => ?_⟩
    · obtain ⟨o, us, file, tf, flags, tg, inF, text, tt, e1, y1, y2, y3, y4, y5, y6, y7, y8, yn⟩ := hC q hq
      refine ⟨o, us, file, tf, flags, tg, inF, text, tt, seen e1 (off e1 (fun u2 m y => by rw [y2] at y; cases y) fun y => ?_), y1, y2, y3, y4, y5, y6, y7, y8, yn⟩
      rw [y2] at y
      cases y
      simp at y3
    · obtain ⟨bm, ob, b1, b2, b3, b4, b5, b6⟩ := hbm
      refine ⟨bm, ob, b1, b2, fun z => ?_, fun z => ?_, seen b3 (off b3 (fun us m y => by rw [b6] at y; cases y) fun y => by rw [b6] at y; cases y), b4, b5, b6⟩
      · obtain ⟨o, es, ep, e, hd, _⟩ := hns
        rw [z, e] at b3
        cases b3
        rw [hd] at b6
        cases b6
      · rw [z, hT q hq] at b3
        cases b3
        cases b6
    · obtain ⟨o, es, ep, e, hd, _⟩ := hns
      rw [z, hT q hq] at e
      cases e
      cases hd
  have env : Env0 P w K mg (hidT s1.heap H) callerA [] s1 H := ⟨rfl, modB, fun b o e => of_hidT e, Nat.le_of_eq (hidT_size _ _), trivial, fun b m => (nomatch (show b ∈ ([] : List Addr) from m)), hok, .of_eq hg⟩
  refine codeAny_mono ((F _ inB (nsB hns) tabB).run callerA [] s1 H ⟨[.ref a], []⟩ [.ref a] [.ref a] _ _ hr env (hbind s1 (.ref a)) (.cons rfl .nil) want) fun res s' got => ?_
  match res, got with
  | .error e, got => exact (hCX H e s' got).elim
  | .ok (.ret u), got =>
    obtain ⟨v, H', eos, bare, un, hok', rv, q⟩ := got
    have ev : v = .bl true := q
    subst ev
    obtain rfl : u = Value.bool true := rv
    have stays : ∀ b o, b ∉ cs.map (·.2) → s1.heap.get? b = some o → s'.heap.get? b = some o := fun b o nb e => by
      cases q : H b with
      | none => exact un.keep b o e q (fun z => (nomatch (show b ∈ ([] : List Addr) from z))) (by simp)
      | some u =>
        rcases kinds b with z | z | ⟨ob, xs, z⟩
        · rw [q] at z; cases z
        · exact absurd z nb
        · obtain ⟨e1, _⟩ := hok b _ z
          obtain ⟨e2, _⟩ := hok' b _ (un.frzs b ob _ z)
          rw [e] at e1
          cases e1
          exact e2
    have grew : ∀ q ∈ cs, ∃ more : Array Value, s'.heap.get? q.2 = some { cls := .none, data := .fields more } := fun q hq => by
      obtain ⟨more, z⟩ := un.tbls q.2 #[] (tabs q hq)
      exact ⟨_, hok' q.2 _ z⟩
    refine ⟨rfl, ⟨fun b o e => ?_, fun b o e => ?_⟩, eos, bare⟩
    · by_cases m : b ∈ cs.map (·.2)
      · obtain ⟨q, hq, eq⟩ := List.mem_map.mp m
        obtain ⟨more, z⟩ := grew q hq
        rw [← eq, hT q hq] at e
        cases e
        rw [← eq]
        exact .inr (.inl ⟨((hC q hq).tab (hT q hq)).isCodeTable, rfl, #[], more, rfl, by rw [Array.empty_append]; exact z⟩)
      · exact .inl (stays b o m e)
    · by_cases m : b ∈ cs.map (·.2)
      · obtain ⟨q, hq, eq⟩ := List.mem_map.mp m
        obtain ⟨more, z⟩ := grew q hq
        exact ⟨_, eq ▸ z⟩
      · exact ⟨o, stays b o m e⟩
theorem law_run (KX : K.In s1.heap) (hns : s1.heap.Ns mainGlobals mg) (hb : s1.heap.Ns builtinsNs mb) (hbb : ∀ y : Str, y ≠ "__name__" → mb y = bootBuiltins y) (hlim : s1.heap.NoLimit) (hg : s1.gens = #[])
    (hT : ∀ q ∈ cs, s1.heap.get? q.2 = some emT) (nT : ∀ q ∈ cs, K.lookup q.2 = none) (hC : ∀ q ∈ cs, PySem.W.CodeHd s1.heap q.1 q.2)
    (hbm : ∃ (bm : Addr) (ob : Obj), mg "__builtins__" = some (.ref bm) ∧ bm ≠ builtinsNs ∧ s1.heap.get? bm = some ob ∧ ob.cls = .type "module" ∧ ob.dict = some builtinsNs ∧ ob.data = .plain)
    (ha : s1.heap.get? a = some (lsO vs)) (hi : IntsAre vs ns) (hl : ns.length ≤ sizeLine) (hr : Rm True k callerA)
    (F : ∀ base : Heap, K.In base → base.Ns mainGlobals mg → (∀ q ∈ cs, LamX.TabB base mg q.1 q.2) → FnG True P w K mg base CX k fa fd [x] sp) (hbind : ∀ (s : Shared) (u : Value), BindsTo s fd ⟨[u], []⟩ [(x, u)])
    (want : ∀ H : Hp, (∀ q ∈ cs, H q.2 = some (.tbl #[])) → SqL K H a (ns.map V.int) → sp [.ref a] H (fun v _ => v = .bl true) fun _ _ _ => False)
    (hCX : ∀ H e s', CX [] H s1 (fun _ _ _ => False) e s' → False) :
    codeAny (model P w) callerA (.call (.ref fa) ⟨[.ref a], []⟩) (fun r s' => r = .ok (.ret (.bool true)) ∧ OldK s1.heap s'.heap ∧ s'.os = s1.os ∧ AllBare s'.gens) s1 := by
  have rv := vals_ints hi
  have lv := hi.length
  have atT : ∀ b : Addr, b ∈ cs.map (·.2) → s1.heap.get? b = some emT := fun b m => by
    obtain ⟨q, hq, e⟩ := List.mem_map.mp m
    exact e ▸ hT q hq
  have aT : a ∉ cs.map (·.2) := fun m => by
    have z := (atT a m).symm.trans ha
    cases z
  have inT : ∀ q ∈ cs, q.2 ∈ cs.map (·.2) := fun q hq => List.mem_map.mpr ⟨q, hq, rfl⟩
  cases hk : K.lookup a with
  | some o =>
    have eo := (KX a o hk).symm.trans ha
    cases eo
    let G : Hp := fun b => if b ∈ cs.map (·.2) then some (.tbl #[]) else none
    have gT : ∀ {b}, b ∈ cs.map (·.2) → G b = some (.tbl #[]) := fun m => if_pos m
    have gN : ∀ {b}, b ∉ cs.map (·.2) → G b = none := fun m => if_neg m
    refine law_core (H := G) KX hns hb hbb hlim hg hT nT hC hbm ha hr F hbind hCX (want G (fun q hq => gT (inT q hq)) (.inr ⟨_, vs.toArray, _, hk, rfl, rfl, rfl, by rw [List.size_toArray, lv]; exact hl, by simpa using rv⟩)) (fun q hq => gT (inT q hq)) (fun b => ?_) (fun b u z => ?_) (fun b z => ?_) fun z => absurd (gN aT) z
    · by_cases m : b ∈ cs.map (·.2)
      · exact .inr (.inl m)
      · exact .inl (gN m)
    · by_cases m : b ∈ cs.map (·.2)
      · rw [gT m] at z
        cases z
        exact atT b m
      · rw [gN m] at z
        cases z
    · by_cases m : b ∈ cs.map (·.2)
      · exact .inr m
      · exact absurd (gN m) z
  | none =>
    let G : Hp := fun b => if b = a then some (.frz (lsO vs) (.lst (ns.map V.int))) else if b ∈ cs.map (·.2) then some (.tbl #[]) else none
    have gA : G a = some (.frz (lsO vs) (.lst (ns.map V.int))) := if_pos rfl
    have gT : ∀ {b}, b ∈ cs.map (·.2) → G b = some (.tbl #[]) := fun {b} m => (if_neg (fun z : b = a => aT (z ▸ m))).trans (if_pos m)
    have gN : ∀ {b}, b ≠ a → b ∉ cs.map (·.2) → G b = none := fun n m => (if_neg n).trans (if_neg m)
    refine law_core (H := G) KX hns hb hbb hlim hg hT nT hC hbm ha hr F hbind hCX (want G (fun q hq => gT (inT q hq)) (.inl (.inr ⟨lsO vs, gA⟩))) (fun q hq => gT (inT q hq)) (fun b => ?_) (fun b u z => ?_) (fun b z => ?_) fun _ => hk
    · by_cases n : b = a
      · exact .inr (.inr ⟨_, _, n ▸ gA⟩)
      · by_cases m : b ∈ cs.map (·.2)
        · exact .inr (.inl m)
        · exact .inl (gN n m)
    · by_cases n : b = a
      · subst n
        rw [gA] at z
        cases z
        exact ⟨ha, by rw [List.length_map]; exact hl, vs, _, rv, ha⟩
      · by_cases m : b ∈ cs.map (·.2)
        · rw [gT m] at z
          cases z
          exact atT b m
        · rw [gN n m] at z
          cases z
    · by_cases n : b = a
      · exact .inl n
      · by_cases m : b ∈ cs.map (·.2)
        · exact .inr m
        · exact absurd (gN n m) z
end
/-- the end of a law -/
theorem walkG {lw : PySem.W.OpenLaw} {k : Nat} {qq : Program} {loose : List Str} {XP : (Str → Option Value) → Heap → Prop} {YP : World → Heap → Prop} {dd : DefRec} {x : Str} (h63 : lw.most = some 63) (hdf : dd.params.defaults = []) (hrm : Room k callerA)
    (F : ∀ (w : World) (mg : Str → Option Value) (fa : Addr) (hh : Heap), YP w hh → hh.Ns mainGlobals mg → mg dd.name = some (.ref fa) → ∃ (K : PySem.W.Frag) (fd : FuncData) (cs : List (Addr × Addr)) (T : Tb), K.In hh ∧ (∀ p ∈ cs, hh.get? p.2 = some emT) ∧ (∀ p ∈ cs, K.lookup p.2 = none) ∧ (∀ p ∈ cs, PySem.W.CodeHd hh p.1 p.2) ∧
        (∀ q ∈ T.tb, ∃ p ∈ cs, p.2 = q.1) ∧ (∀ (s : Shared) (u : Value), BindsTo s fd ⟨[u], []⟩ [(x, u)]) ∧
        ∀ bb : Heap, K.In bb → bb.Ns mainGlobals mg → (∀ p ∈ cs, LamX.TabB bb mg p.1 p.2) → FnG True lw.prog w K mg bb (L2.CX lw.prog w) k fa fd [x] (spLaw K T)) : PySem.W.WalkO qq loose XP YP lw.row.toRowW dd [] (fun f vs => PySem.call f vs) := by
  refine Att.attach_callB h63 hdf fun w s0 s1 mg mb fa o pm cd doc a vs ns G Y ho hd hcd hmg hobj hints hlen hbits hg => ?_
  obtain ⟨K, fd, cs, T, KX, h1, h2, h3, h4, hb, hF⟩ := F w mg fa _ Y G.T.g hmg
  refine law_run KX G.T.g G.T.b G.T.builtins G.T.nolimit hg h1 h2 h3 G.T.bmain hobj hints (Nat.le_trans hlen (by decide)) ⟨hrm, fun _ => rfl⟩ hF hb (fun H hH hS => ⟨a, ns, rfl, hS, hlen, fun q hq => ?_, fun _ => rfl⟩) fun H e s' => cx_no H s1 e s'
  obtain ⟨p, hp, e⟩ := h4 q hq
  exact LamX.TabS.nil (e ▸ hH p hp)
/-! ### more kinds of facts -/
section
variable {oks : List Fct} {fn : List He5.DefA} {K : PySem.W.Frag} {h : Heap} {mg : Str → Option Value} {x y z : Str}
def fInt (x : Str) (i : Int) : Fct := fun K => (He.Fa.int x i).ok K
def fStr (x z : Str) : Fct := fun K => (He.Fa.str x z).ok K
theorem Tx.gint {i : Int} (t : Tx oks fn K mg) (j : Nat) (h : oks[j]? = some (fInt x i) := by rfl) : ∃ u, mg x = some (.int i u) := let ⟨_, X, G⟩ := t.g; He.int_ok X G (t.c.fact j h)
theorem Tx.gstr (t : Tx oks fn K mg) (j : Nat) (h : oks[j]? = some (fStr x z) := by rfl) : ∃ u, mg x = some (.str z u) := let ⟨_, X, G⟩ := t.g; He.str_ok X G (t.c.fact j h)
/-- an exception class of the text over ValueError, with its own __init__ -/
def oexB (K : PySem.W.Frag) (C : Addr) : Bool := (match K.lookup C with
  | some ⟨.type "type", _, .cls cd, sl⟩ => (match cd.mro, sl.toList with
    | .ref C' :: bm, [_, _, _, _, some (.builtin n), _] => (C' == C) && ((n == "ValueError.__new__") && (PySem.HandSPX.refsVE bm && (cd.hasDict && !cd.hasDel)))
    | _, _ => false)
  | _ => false)
def fOex (x : Str) : Fct := fun K => oexB K (He.ga K x) && (He.eqO (PySem.W.findIn K (.ref (He.ga K x)) "__setattr__") (some (some (.builtin "object.__setattr__"))) && (decide (PySem.W.subIn K (.ref (He.ga K x)) (.type "BaseException") = some true) &&
  (decide (PySem.W.typeIn K (.ref (He.ga K x)) = some (.type "type")) && PySem.W.keepIn K (.ref (He.ga K x)))))
theorem oexB_ok {C : Addr} (q : oexB K C = true) : ∃ nm q N bs bm sn sub ab col dd k0 k1 k2 k3 k5, K.lookup C = some (excClassObj nm q C N bs bm true sn sub ab col dd k0 k1 k2 k3 k5 "ValueError.__new__") ∧ PySem.HandSPX.refsVE bm = true := by
  unfold oexB at q
  split at q
  · rename_i dd cd sl ho
    split at q
    · rename_i C' bm k0 k1 k2 k3 n k5 hm hs
      simp only [Bool.and_eq_true, beq_iff_eq, Bool.not_eq_true'] at q
      obtain ⟨rfl, rfl, hv, hdi, hdel⟩ := q
      obtain ⟨nm, bs, mro, nsp, qn, hdd, sn, sub, ab, col, del⟩ := cd
      dsimp only at hm hdel hdi
      subst hm hdel hdi
      obtain ⟨l⟩ := sl
      simp only at hs
      subst hs
      exact ⟨nm, qn, nsp, bs, bm, sn, sub, ab, col, dd, k0, k1, k2, k3, k5, ho, hv⟩
    · cases q
  · cases q
theorem Tx.oex (t : Tx oks fn K mg) (j : Nat) (h : oks[j]? = some (fOex x) := by rfl) : OexC K (He.ga K x) := by
  have q := t.c.fact j h
  obtain ⟨q1, q⟩ := He.ba q
  obtain ⟨q2, q⟩ := He.ba q
  obtain ⟨q3, q⟩ := He.ba q
  obtain ⟨q4, q5⟩ := He.ba q
  exact ⟨oexB_ok q1, He.eqO_ok q2, of_decide_eq_true q3, of_decide_eq_true q4, q5⟩
def fXf (x : Str) : Fct := fun K => xfB K (He.ga K x)
theorem Tx.xf (t : Tx oks fn K mg) (j : Nat) (h : oks[j]? = some (fXf x) := by rfl) : XfC K (He.ga K x) := xfB_ok (t.c.fact j h)
/-- which of the classes cs an except clause that names x takes -/
def fExm (x : Str) (cs : List Str) (bs : List (Option Bool)) : Fct := fun K => (List.zip cs bs).all fun q => match q.2 with
  | some b => decide (PySem.W.exmOne K (.ref (He.ga K q.1)) (.ref (He.ga K x)) = some b)
  | none => true
theorem Tx.exm {cs : List (Str × List Str)} {tf : List Tab_} {bs : List (Option Bool)} (t : Tx oks fn K mg) (j : Nat) (hl : bs.length = cs.length) (h : oks[j]? = some (fExm x (cs.map (·.1)) bs) := by rfl) : ∀ e b, (bs[e]?).join = some b → PySem.W.exmOne K (.ref ((tbOf cs tf K).cls e)) (.ref (He.ga K x)) = some b := fun e b hb => by
  have q := t.c.fact j h
  cases hq : bs[e]? with
  | none => rw [hq] at hb; cases hb
  | some o =>
    rw [hq] at hb
    cases o with
    | none => cases hb
    | some b1 =>
      cases hb
      by_cases hk : e < cs.length
      · have he : (cs.getD e ("", [])) = cs[e] := by rw [List.getD_eq_getElem?_getD, List.getElem?_eq_getElem hk]; rfl
        have hz : (List.zip (cs.map (·.1)) bs)[e]? = some (cs[e].1, some b) := by
          rw [List.getElem?_zip_eq_some]
          exact ⟨by rw [List.getElem?_map, List.getElem?_eq_getElem hk]; rfl, hq⟩
        have := List.all_eq_true.mp q _ (List.mem_of_getElem? hz)
        show PySem.W.exmOne K (.ref (He.ga K (cs.getD e ("", [])).1)) _ = _
        rw [he]
        exact of_decide_eq_true this
      · have := (List.getElem?_eq_some_iff.mp hq).1
        omega
end
end DF

set_option Elab.async false
set_option linter.all false
set_option maxRecDepth 100000
set_option maxHeartbeats 4000000
namespace DF
open PySem PySem.Spec PyProof.Rows L2
/-! ### the Hook, the tables of the defs tf left out -/
abbrev AlY : Type := He.AlD × Bool
def obsYG (n : Nat) (oks : List Fct) (fn : List He5.DefA) (tf : List He.Defn) (g : Addr → Option Obj) : AlY := (obsZ oks fn (He.frT g (He5.asA g n)), He.tabsB g tf (He.frT g (He5.asA g n)))
structure SaysY (oks : List Fct) (fn : List He5.DefA) (tf : List He.Defn) (h : Heap) (K : PySem.W.Frag) : Prop where
  z : SaysZ oks fn K
  hd : ∀ q ∈ tf, PySem.W.codeHdIn K (He.cT K q).1 (He.cT K q).2 = true
  out : ∀ q ∈ tf, K.lookup (He.cT K q).2 = none
  em : ∀ q ∈ tf, h.get? (He.cT K q).2 = some emT
theorem saysY_of {n : Nat} {oks : List Fct} {fn : List He5.DefA} {tf : List He.Defn} {h : Heap} (e : obsYG n oks fn tf h.get? = (He5.valA fn, true)) : SaysY oks fn tf h (He.frT h.get? (He5.asA h.get? n)) := by
  have t : He.tabsB h.get? tf (He.frT h.get? (He5.asA h.get? n)) = true := congrArg (fun z : AlY => z.2) e
  have each : ∀ q ∈ tf, PySem.W.codeHdIn (He.frT h.get? (He5.asA h.get? n)) (He.cT (He.frT h.get? (He5.asA h.get? n)) q).1 (He.cT (He.frT h.get? (He5.asA h.get? n)) q).2 = true ∧ ∃ o, h.get? (He.cT (He.frT h.get? (He5.asA h.get? n)) q).2 = some o ∧ He.emptyTab o = true := fun q hq => by
    obtain ⟨t1, t2⟩ := He.ba (List.all_eq_true.mp t q hq)
    refine ⟨t1, ?_⟩
    cases z : h.get? (He.cT (He.frT h.get? (He5.asA h.get? n)) q).2 with
    | none => rw [z] at t2; cases t2
    | some o => rw [z] at t2; exact ⟨o, rfl, t2⟩
  refine ⟨congrArg (fun z : AlY => z.1) e, fun q hq => (each q hq).1, fun q hq => ?_, fun q hq => ?_⟩
  · obtain ⟨_, o, z1, z2⟩ := each q hq
    exact He.frT_none z1 z2
  · obtain ⟨_, o, z1, z2⟩ := each q hq
    rw [z1, He.emptyTab_eq z2]
def hookY (n : Nat) (oks : List Fct) (fn : List He5.DefA) (tf : List He.Defn) : PySem.W.Hook where
  α := AlY
  obs := fun s => obsYG n oks fn tf s.heap.get?
  val := fun _ => (He5.valA fn, true)
  says := fun _ h => ∃ K : PySem.W.Frag, K.In h ∧ SaysY oks fn tf h K
  of := fun _ _ e => ⟨_, He.frT_in, saysY_of e⟩
  keeps := fun _ _ _ ⟨K, hK, c⟩ k => ⟨K, PySem.W.Frag.In.keeps hK k, ⟨c.z, c.hd, c.out, fun q hq => k _ _ (c.em q hq)⟩⟩
theorem obsYG_eq {n : Nat} {oks : List Fct} {fn : List He5.DefA} {tf : List He.Defn} {g : Addr → Option Obj} {s : Shared} (h : ∀ a, g a = s.heap.get? a) : obsYG n oks fn tf g = (hookY n oks fn tf).obs s := by
  have e : g = s.heap.get? := funext h
  rw [e] <;> rfl
/-- a table by its def -/
def tabQ (p : He.Defn) (q : Str) : Tab_ := fun K => ((He.cT K p).2, q)
theorem code_at {K : PySem.W.Frag} {x qual : Str} {pa : Arguments} {bd : List Stmt} {sc : Scope} {dvs : List V} {kws : List (Str × V)} {p : He.Defn} {fd : FuncData} (F : FunD K x qual pa bd sc dvs kws (He.fAd K p) fd) {cdv : Value} (h : fd.code = cdv) : cdv = .ref (He.cT K p).1 := by
  obtain ⟨oc, od, dV, kV, doc, pm, an, cd1, ct, osl, rfl, lk, hcd, _, _⟩ := F.ex
  obtain ⟨c1, e1⟩ := He.codeIn_ref hcd
  have h1 : cd1 = cdv := h
  have e2 := He.codeOf_eq (p := p) lk (c := c1) e1
  show cdv = .ref (He.codeOf K p)
  rw [e2, ← h1, e1]
end DF

set_option Elab.async false
set_option linter.all false
set_option maxRecDepth 100000
set_option maxHeartbeats 4000000
namespace DF
open PySem PySem.Spec PyProof.Rows L2
abbrev frzS (i : Nat) (g : Slots → M Out) : Slots → M Out := fun ρ => g (frz1 i ρ)
theorem Rm.deeper {gu : Prop} {k : Nat} {A : Around} (r : Rm gu (k + 1) A) (env : Env) : Rm gu k (A.deeper env) := ⟨r.room.deeper env, r.gd⟩
theorem CmpI.less {X : Cx} {T : Tb} {n m : Nat} {C : Addr} (h : CmpI X T m C) (hl : n ≤ m) : CmpI X T n C := ⟨h.1, fun k hk => h.2 k (Nat.lt_of_lt_of_le hk hl)⟩
end DF

set_option Elab.async false
set_option linter.all false
set_option maxRecDepth 100000
set_option maxHeartbeats 4000000
/-! DFS: the further parts worked out by simp. -/
namespace DF
open PySem L2
section
variable {α β : Type} {ρ : Slots} {pt : Pot}
@[simp] theorem e_intOf (i : Int) : intOf (.int i) = some i := rfl
@[simp] theorem e_chI (f1 f2 : Int → Int → Bool) (fa fb fc : Slots → M D) : chI f1 f2 fa fb fc ρ pt = bndR (fa ρ pt) fun x => bnd (fb ρ) fun y => bnd (opt (intOf x)) fun i => bnd (opt (intOf y)) fun j =>
  if f1 i j then bnd (fc ρ) fun z => bnd (opt (intOf z)) fun k => ret (.bl (f2 j k)) else ret (.bl false) := e_bnd _ _
@[simp] theorem e_raiS (ec n : Nat) (fa : Slots → M (List D)) : raiS ec n fa ρ pt = bndR (fa ρ pt) fun ds => if ds.length = n then fun pt => .exc ec ds pt else fail := e_bnd _ _
@[simp] theorem e_setS (i : Nat) (fi f : Slots → M D) : setS i fi f ρ pt = bndR (f ρ pt) fun d => bnd (opt (ownOf ρ[i]?)) fun ds => bnd (fi ρ) fun k => bnd (opt (intOf k)) fun k => bnd (opt (setL ds k d)) fun ds' => ret (.nx (ρ.set i (some (.own ds')))) := e_bnd _ _
@[simp] theorem e_frzS (i : Nat) (g : Slots → M Out) : frzS i g ρ pt = g (frz1 i ρ) pt := rfl
def tryK (n : Nat) (hs : List Ha) : Res Out → Res Out
  | .exc e fs p => catchS n hs e fs p
  | r => r
@[simp] theorem e_tryS (n : Nat) (g : Slots → M Out) (hs : List Ha) : tryS n g hs ρ pt = tryK n hs (g ρ pt) := by
  unfold tryS tryK
  cases g ρ pt <;> rfl
@[simp] theorem e_tryok (n : Nat) (hs : List Ha) (o : Out) : tryK n hs (.ok o pt) = .ok o pt := rfl
@[simp] theorem e_tryex (n : Nat) (hs : List Ha) (e : Nat) (fs : List D) : tryK n hs (.exc e fs pt) = catchS n hs e fs pt := rfl
@[simp] theorem e_xfE (i ec j : Nat) : xfE i ec j ρ pt = opt (exAt ec j ρ[i]?) pt := rfl
@[simp] theorem e_exAt (ec j : Nat) (fs : List D) : exAt ec j (some (some (.exv ec fs))) = fs[j]? := by simp [exAt]
@[simp] theorem e_endr (i : Nat) (d : D) : endH i (.ok (.rt d) pt) = .ok (.rt d) pt := rfl
def okR : Res D → Res D
  | .ok d p => .ok d p
  | _ => .stuck
@[simp] theorem e_okR (d : D) : okR (.ok d pt) = .ok d pt := rfl
@[simp] theorem e_lamc (hm : M D → M D) (fb : Slots → M D) : lamcE hm fb ρ pt = if noOwnA ρ then okR (hm (fb ρ) pt) else .stuck := by
  unfold lamcE
  cases h : noOwnA ρ with
  | true =>
    show (match hm (fb ρ) pt with
      | .ok d p => Res.ok d p
      | _ => .stuck) = okR (hm (fb ρ) pt)
    cases hm (fb ρ) pt <;> rfl
  | false => rfl
theorem e_lamM (n : Nat) (g : M D → Slots → M Out) (m : M D) : lamM n g m pt = bndR (g m (some .lam :: List.replicate n none) pt) finK := by
  unfold lamM bnd bndR
  cases g m (some .lam :: List.replicate n none) pt with
  | ok o q => cases o <;> rfl
  | _ => rfl
@[simp] theorem e_act (m : M D) : actE m ρ pt = if isLam ρ[0]? && noOwnA ρ then m pt else .stuck := by
  unfold actE
  split <;> rfl
@[simp] theorem e_isLam : isLam (some (some .lam)) = true := rfl
@[simp] theorem e_makeK (kc n n0 m : Nat) (fm : List D → M (List D)) (sel : List (Bool × Nat)) (dd : List D) (fa fk : Slots → M (List D)) : makeKE kc n n0 m fm sel dd fa fk ρ pt = bndR (fa ρ pt) fun ds => bnd (fk ρ) fun es =>
  if ds.length = n0 ∧ es.length = m ∧ (ds ++ pick sel dd es).length + 1 = n then bnd (fm (ds ++ pick sel dd es)) fun fs => ret (.obj kc fs) else fail := e_bnd _ _
@[simp] theorem e_binL (g : D → D → M (List D)) (fa fb : Slots → M D) : binL g fa fb ρ pt = bndR (fa ρ pt) fun x => bnd (fb ρ) fun y => g x y := e_bnd _ _
@[simp] theorem e_kD (nC : Nat) (i : List (Key × D)) : knd nC (.dct i) = some (.inl "dict") := rfl
@[simp] theorem e_ixS (x : Str) (i : Int) : ixM (.str x) (.int i) pt = opt (if x.length ≤ 1000000 then (atI x.cps.toList i).map fun n => .str ⟨#[n]⟩ else none) pt := rfl
@[simp] theorem e_itS (x : Str) : itemsOf (.str x) = some (chars x) := rfl
@[simp] theorem e_nonI (i : Int) : isN (.int i) .non = some (.bl false) := rfl
theorem e_lCat (a b : List D) (h : a.length + b.length ≤ 100000) : lCat (.lst a) (.lst b) pt = .ok (a ++ b) pt := by
  show (if a.length + b.length ≤ 100000 then ret (a ++ b) else fail) pt = _
  rw [if_pos h]
  rfl
/-- a comprehension without effects -/
theorem comp_pure {i : Nat} {t : Slots → M Bool} {f : Slots → M D} {p : D → Bool} {F : D → D} (hi : i < ρ.length) : ∀ (items acc : List D), (∀ d ∈ items, t (ρ.set i (some (.val d))) pt = .ok (p d) pt ∧ f (ρ.set i (some (.val d))) pt = .ok (F d) pt) → acc.length + items.length ≤ 100000 →
    compL (tgN i) t f ρ items acc pt = .ok (acc ++ (items.filter p).map F) pt
  | [], acc, _, _ => by simp
  | d :: items, acc, h, hl => by
    obtain ⟨h1, h2⟩ := h d List.mem_cons_self
    have ih := comp_pure (t := t) (f := f) (p := p) (F := F) hi items
    simp only [List.length_cons] at hl
    rw [e_compL]
    simp only [e_tgN, hi, if_true, e_some, e_bndok, e_bnd, e_noX, h1, e_noXok]
    cases hp : p d with
    | true =>
      rw [if_pos rfl]
      simp only [e_bnd, e_noX, h2, e_noXok, e_bndok]
      rw [if_pos (by omega), ih (acc ++ [F d]) (fun e he => h e (List.mem_cons_of_mem _ he)) (by simp; omega)]
      simp [hp]
    | false =>
      rw [if_neg (by simp), ih acc (fun e he => h e (List.mem_cons_of_mem _ he)) (by omega)]
      simp [hp]
end
end DF

set_option Elab.async false
set_option linter.all false
set_option maxRecDepth 100000
set_option maxHeartbeats 4000000
namespace LW
open PySem L2 DF
def top (i : Nat) : Stmt := PySem.Challenge.pw_stitchsizes_k15_kinds_by_their_fields.main.body.getD i (.Pass ⟨0, 0, 0, 0⟩)
def cls_ : List (Str × List Str) := [("Kind", ["name", "takes", "makes", "back", "mirror", "yarn"]), ("InvalidName", ["value"]), ("InvalidNumber", ["value"]), ("InvalidKind", ["value"])]
def tabs_ : List Tab_ := [tabQ ("_law_refusals_right", none) ((PyProof.Rows.envOfC "_law_refusals_right" (defScope (top 27)) 0 0 .none).qual ++ "<lambda>")]
def tfs_ : List He.Defn := [("_law_refusals_right", none)]
def TBs (K : PySem.W.Frag) (mg : Str → Option Value) (base : Heap) : Prop := ∀ (i : Nat) (p : He.Defn), tfs_[i]? = some p → LamX.TabB base mg (He.cT K p).1 (He.cT K p).2
abbrev tdef_0 : He.Defn := ("_law_refusals_right", none)
theorem uni_tab_0 {K : PySem.W.Frag} : ∀ p ∈ (tbOf cls_ tabs_ K).tb, p.1 = (He.cT K tdef_0).2 → p.2 = (PyProof.Rows.envOfC "_law_refusals_right" (defScope (top 27)) 0 0 .none).qual ++ "<lambda>" := fun p hp _ => by
  have e := List.mem_singleton.mp hp
  rw [e]
  rfl
theorem mem_tab_0 {K : PySem.W.Frag} : ((He.cT K tdef_0).2, (PyProof.Rows.envOfC "_law_refusals_right" (defScope (top 27)) 0 0 .none).qual ++ "<lambda>") ∈ (tbOf cls_ tabs_ K).tb := List.mem_of_getElem? (i := 0) rfl
theorem nd_Kind : (["name", "takes", "makes", "back", "mirror", "yarn"] : List Str).Nodup := by decide +kernel
theorem hn1_Kind {K : PySem.W.Frag} : ∀ k, k < 1 → (tbOf cls_ tabs_ K).cls k = He.ga K "Kind"
  | 0, _ => rfl
  | k + 1, h => absurd h (by omega)
abbrev s__law_pot : Stmt := top 16
abbrev s_law : Stmt := top 29
abbrev s__law_draw : Stmt := top 17
abbrev s__law_pick : Stmt := top 18
abbrev s__law_label : Stmt := top 19
abbrev s__law_fields : Stmt := top 20
abbrev s_is_name : Stmt := top 5
abbrev s_InvalidNamezz_initzz : Stmt := inClass (top 8) 0
abbrev s_is_integer : Stmt := top 3
abbrev s_is_within : Stmt := top 4
abbrev s_InvalidNumberzz_initzz : Stmt := inClass (top 9) 0
abbrev s_InvalidKindzz_initzz : Stmt := inClass (top 10) 0
abbrev s_Kindzz_initzz : Stmt := inClass (top 14) 0
abbrev s__law_kind : Stmt := top 21
abbrev s_Kindzz_reprzz : Stmt := inClass (top 14) 2
abbrev s__law_text : Stmt := top 23
abbrev s__law_is_kind : Stmt := top 24
abbrev s_Kindzz_eqzz : Stmt := inClass (top 14) 1
abbrev s__law_others : Stmt := top 25
abbrev s__law_wrong : Stmt := top 26
abbrev s__law_heard : Stmt := top 22
abbrev s__law_refusals_right : Stmt := top 27
abbrev s__law_right : Stmt := top 28
def oks : List Fct := [fFree "divmod",
  fFree "int",
  fGlo "_law_draw",
  fFree "len",
  fGlo "_law_pick",
  fFree "range",
  fGlo "_law_label",
  fGlo "_law_fields",
  fFree "str",
  fIsi (fun _ => .type "str") ["str"] ["Kind", "InvalidName", "InvalidNumber", "InvalidKind"] [false, false, false, false],
  fClsI "Kind",
  fFree "isinstance",
  fInt "MOST_SIGNS" (8),
  fStr "LETTERS" "abcdefghijklmnopqrstuvwxyz",
  fFree "all",
  fGlo "is_name",
  fOex "InvalidName",
  fNoat "InvalidName" "value",
  fMeth "InvalidName" "__init__",
  fGlo "InvalidName",
  fInt "MOST_YARN" (999),
  fInt "MOST_LOOPS" (6),
  fIsi (fun _ => .type "int") ["int", "bool"] ["Kind", "InvalidName", "InvalidNumber", "InvalidKind"] [false, false, false, false],
  fFree "bool",
  fIsi (fun _ => .type "bool") ["bool"] ["Kind", "InvalidName", "InvalidNumber", "InvalidKind"] [false, false, false, false],
  fGlo "is_integer",
  fGlo "is_within",
  fOex "InvalidNumber",
  fNoat "InvalidNumber" "value",
  fMeth "InvalidNumber" "__init__",
  fGlo "InvalidNumber",
  fOex "InvalidKind",
  fNoat "InvalidKind" "value",
  fMeth "InvalidKind" "__init__",
  fGlo "InvalidKind",
  fNoat "Kind" "name",
  fCls "Kind",
  fNoat "Kind" "takes",
  fNoat "Kind" "makes",
  fNoat "Kind" "back",
  fNoat "Kind" "mirror",
  fNoat "Kind" "yarn",
  fGlo "Kind",
  fMk "Kind",
  fGlo "_law_kind",
  fFree "repr",
  fMeth "Kind" "__repr__",
  fGlo "_law_text",
  fIsi (fun K => .ref (He.ga K "Kind")) [] ["Kind", "InvalidName", "InvalidNumber", "InvalidKind"] [true, false, false, false],
  fGlo "_law_is_kind",
  fMeth "Kind" "__eq__",
  fNe "Kind",
  fCmp "Kind" ["Kind", "InvalidName", "InvalidNumber", "InvalidKind"],
  fFree "list",
  fGlo "_law_others",
  fFree "tuple",
  fFree "enumerate",
  fGlo "_law_wrong",
  fExm "InvalidName" ["Kind", "InvalidName", "InvalidNumber", "InvalidKind"] [none, some true, some false, some false],
  fXf "InvalidName",
  fExm "InvalidNumber" ["Kind", "InvalidName", "InvalidNumber", "InvalidKind"] [none, some false, some true, some false],
  fXf "InvalidNumber",
  fExm "InvalidKind" ["Kind", "InvalidName", "InvalidNumber", "InvalidKind"] [none, some false, some false, some true],
  fXf "InvalidKind",
  fGlo "_law_heard",
  fGlo "_law_refusals_right",
  fGlo "_law_pot",
  fGlo "law",
  fFree "max",
  fFree "min",
  fFree "abs",
  fGlo "_law_right"]
def d__law_draw : He5.DefA := ⟨fun K => (He.ga K "_law_draw"), "_law_draw", "_law_draw", defArgs s__law_draw, defBody s__law_draw, defScope s__law_draw, [], []⟩
def d__law_pick : He5.DefA := ⟨fun K => (He.ga K "_law_pick"), "_law_pick", "_law_pick", defArgs s__law_pick, defBody s__law_pick, defScope s__law_pick, [], []⟩
def d__law_label : He5.DefA := ⟨fun K => (He.ga K "_law_label"), "_law_label", "_law_label", defArgs s__law_label, defBody s__law_label, defScope s__law_label, [], []⟩
def d__law_fields : He5.DefA := ⟨fun K => (He.ga K "_law_fields"), "_law_fields", "_law_fields", defArgs s__law_fields, defBody s__law_fields, defScope s__law_fields, [], []⟩
def d_is_name : He5.DefA := ⟨fun K => (He.ga K "is_name"), "is_name", "is_name", defArgs s_is_name, defBody s_is_name, defScope s_is_name, [], []⟩
def d_InvalidNamezz_initzz : He5.DefA := ⟨fun K => (He.ma K (He.ga K "InvalidName") "__init__"), "__init__", "InvalidName.__init__", defArgs s_InvalidNamezz_initzz, defBody s_InvalidNamezz_initzz, defScope s_InvalidNamezz_initzz, [], []⟩
def d_is_integer : He5.DefA := ⟨fun K => (He.ga K "is_integer"), "is_integer", "is_integer", defArgs s_is_integer, defBody s_is_integer, defScope s_is_integer, [], []⟩
def d_is_within : He5.DefA := ⟨fun K => (He.ga K "is_within"), "is_within", "is_within", defArgs s_is_within, defBody s_is_within, defScope s_is_within, [], []⟩
def d_InvalidNumberzz_initzz : He5.DefA := ⟨fun K => (He.ma K (He.ga K "InvalidNumber") "__init__"), "__init__", "InvalidNumber.__init__", defArgs s_InvalidNumberzz_initzz, defBody s_InvalidNumberzz_initzz, defScope s_InvalidNumberzz_initzz, [], []⟩
def d_InvalidKindzz_initzz : He5.DefA := ⟨fun K => (He.ma K (He.ga K "InvalidKind") "__init__"), "__init__", "InvalidKind.__init__", defArgs s_InvalidKindzz_initzz, defBody s_InvalidKindzz_initzz, defScope s_InvalidKindzz_initzz, [], []⟩
def d_Kindzz_initzz : He5.DefA := ⟨fun K => (He.ma K (He.ga K "Kind") "__init__"), "__init__", "Kind.__init__", defArgs s_Kindzz_initzz, defBody s_Kindzz_initzz, defScope s_Kindzz_initzz, [], [("back", .non), ("mirror", .non), ("yarn", .int 1)]⟩
def d__law_kind : He5.DefA := ⟨fun K => (He.ga K "_law_kind"), "_law_kind", "_law_kind", defArgs s__law_kind, defBody s__law_kind, defScope s__law_kind, [], []⟩
def d_Kindzz_reprzz : He5.DefA := ⟨fun K => (He.ma K (He.ga K "Kind") "__repr__"), "__repr__", "Kind.__repr__", defArgs s_Kindzz_reprzz, defBody s_Kindzz_reprzz, defScope s_Kindzz_reprzz, [], []⟩
def d__law_text : He5.DefA := ⟨fun K => (He.ga K "_law_text"), "_law_text", "_law_text", defArgs s__law_text, defBody s__law_text, defScope s__law_text, [], []⟩
def d__law_is_kind : He5.DefA := ⟨fun K => (He.ga K "_law_is_kind"), "_law_is_kind", "_law_is_kind", defArgs s__law_is_kind, defBody s__law_is_kind, defScope s__law_is_kind, [], []⟩
def d_Kindzz_eqzz : He5.DefA := ⟨fun K => (He.ma K (He.ga K "Kind") "__eq__"), "__eq__", "Kind.__eq__", defArgs s_Kindzz_eqzz, defBody s_Kindzz_eqzz, defScope s_Kindzz_eqzz, [], []⟩
def d__law_others : He5.DefA := ⟨fun K => (He.ga K "_law_others"), "_law_others", "_law_others", defArgs s__law_others, defBody s__law_others, defScope s__law_others, [], []⟩
def d__law_wrong : He5.DefA := ⟨fun K => (He.ga K "_law_wrong"), "_law_wrong", "_law_wrong", defArgs s__law_wrong, defBody s__law_wrong, defScope s__law_wrong, [], []⟩
def d__law_heard : He5.DefA := ⟨fun K => (He.ga K "_law_heard"), "_law_heard", "_law_heard", defArgs s__law_heard, defBody s__law_heard, defScope s__law_heard, [], []⟩
def d__law_refusals_right : He5.DefA := ⟨fun K => (He.ga K "_law_refusals_right"), "_law_refusals_right", "_law_refusals_right", defArgs s__law_refusals_right, defBody s__law_refusals_right, defScope s__law_refusals_right, [], []⟩
def d__law_right : He5.DefA := ⟨fun K => (He.ga K "_law_right"), "_law_right", "_law_right", defArgs s__law_right, defBody s__law_right, defScope s__law_right, [], []⟩
def d__law_pot : He5.DefA := ⟨fun K => (He.ga K "_law_pot"), "_law_pot", "_law_pot", defArgs s__law_pot, defBody s__law_pot, defScope s__law_pot, [], []⟩
def d_law : He5.DefA := ⟨fun K => (He.ga K "law"), "law", "law", defArgs s_law, defBody s_law, defScope s_law, [], []⟩
def fns : List He5.DefA := [d__law_draw, d__law_pick, d__law_label, d__law_fields, d_is_name, d_InvalidNamezz_initzz, d_is_integer, d_is_within, d_InvalidNumberzz_initzz, d_InvalidKindzz_initzz, d_Kindzz_initzz, d__law_kind, d_Kindzz_reprzz, d__law_text, d__law_is_kind, d_Kindzz_eqzz, d__law_others, d__law_wrong, d__law_heard, d__law_refusals_right, d__law_right, d__law_pot, d_law]
abbrev TX (K : PySem.W.Frag) (mg : Str → Option Value) : Prop := Tx oks fns K mg
section
variable {P : Program} {w : World} {K : PySem.W.Frag} {mg : Str → Option Value} {base : Heap}
theorem hCs (t : TX K mg) : ∀ k, k < 1 → ClsI K ((tbOf cls_ tabs_ K).cls k)
  | 0, _ => t.clsI (x := "Kind") 10
  | k + 1, h => absurd h (by omega)
theorem u__law_draw (t : TX K mg) : FunD K "_law_draw" "_law_draw" (defArgs s__law_draw) (defBody s__law_draw) (defScope s__law_draw) [] [] (He.ga K "_law_draw") (fdAt K (He.ga K "_law_draw")) := t.c.def_ 0 (d := d__law_draw) rfl
theorem u__law_pick (t : TX K mg) : FunD K "_law_pick" "_law_pick" (defArgs s__law_pick) (defBody s__law_pick) (defScope s__law_pick) [] [] (He.ga K "_law_pick") (fdAt K (He.ga K "_law_pick")) := t.c.def_ 1 (d := d__law_pick) rfl
theorem u__law_label (t : TX K mg) : FunD K "_law_label" "_law_label" (defArgs s__law_label) (defBody s__law_label) (defScope s__law_label) [] [] (He.ga K "_law_label") (fdAt K (He.ga K "_law_label")) := t.c.def_ 2 (d := d__law_label) rfl
theorem u__law_fields (t : TX K mg) : FunD K "_law_fields" "_law_fields" (defArgs s__law_fields) (defBody s__law_fields) (defScope s__law_fields) [] [] (He.ga K "_law_fields") (fdAt K (He.ga K "_law_fields")) := t.c.def_ 3 (d := d__law_fields) rfl
theorem u_is_name (t : TX K mg) : FunD K "is_name" "is_name" (defArgs s_is_name) (defBody s_is_name) (defScope s_is_name) [] [] (He.ga K "is_name") (fdAt K (He.ga K "is_name")) := t.c.def_ 4 (d := d_is_name) rfl
theorem u_InvalidNamezz_initzz (t : TX K mg) : FunD K "__init__" "InvalidName.__init__" (defArgs s_InvalidNamezz_initzz) (defBody s_InvalidNamezz_initzz) (defScope s_InvalidNamezz_initzz) [] [] (He.ma K (He.ga K "InvalidName") "__init__") (fdAt K (He.ma K (He.ga K "InvalidName") "__init__")) := t.c.def_ 5 (d := d_InvalidNamezz_initzz) rfl
theorem u_is_integer (t : TX K mg) : FunD K "is_integer" "is_integer" (defArgs s_is_integer) (defBody s_is_integer) (defScope s_is_integer) [] [] (He.ga K "is_integer") (fdAt K (He.ga K "is_integer")) := t.c.def_ 6 (d := d_is_integer) rfl
theorem u_is_within (t : TX K mg) : FunD K "is_within" "is_within" (defArgs s_is_within) (defBody s_is_within) (defScope s_is_within) [] [] (He.ga K "is_within") (fdAt K (He.ga K "is_within")) := t.c.def_ 7 (d := d_is_within) rfl
theorem u_InvalidNumberzz_initzz (t : TX K mg) : FunD K "__init__" "InvalidNumber.__init__" (defArgs s_InvalidNumberzz_initzz) (defBody s_InvalidNumberzz_initzz) (defScope s_InvalidNumberzz_initzz) [] [] (He.ma K (He.ga K "InvalidNumber") "__init__") (fdAt K (He.ma K (He.ga K "InvalidNumber") "__init__")) := t.c.def_ 8 (d := d_InvalidNumberzz_initzz) rfl
theorem u_InvalidKindzz_initzz (t : TX K mg) : FunD K "__init__" "InvalidKind.__init__" (defArgs s_InvalidKindzz_initzz) (defBody s_InvalidKindzz_initzz) (defScope s_InvalidKindzz_initzz) [] [] (He.ma K (He.ga K "InvalidKind") "__init__") (fdAt K (He.ma K (He.ga K "InvalidKind") "__init__")) := t.c.def_ 9 (d := d_InvalidKindzz_initzz) rfl
theorem u_Kindzz_initzz (t : TX K mg) : FunD K "__init__" "Kind.__init__" (defArgs s_Kindzz_initzz) (defBody s_Kindzz_initzz) (defScope s_Kindzz_initzz) [] [("back", .non), ("mirror", .non), ("yarn", .int 1)] (He.ma K (He.ga K "Kind") "__init__") (fdAt K (He.ma K (He.ga K "Kind") "__init__")) := t.c.def_ 10 (d := d_Kindzz_initzz) rfl
theorem u__law_kind (t : TX K mg) : FunD K "_law_kind" "_law_kind" (defArgs s__law_kind) (defBody s__law_kind) (defScope s__law_kind) [] [] (He.ga K "_law_kind") (fdAt K (He.ga K "_law_kind")) := t.c.def_ 11 (d := d__law_kind) rfl
theorem u_Kindzz_reprzz (t : TX K mg) : FunD K "__repr__" "Kind.__repr__" (defArgs s_Kindzz_reprzz) (defBody s_Kindzz_reprzz) (defScope s_Kindzz_reprzz) [] [] (He.ma K (He.ga K "Kind") "__repr__") (fdAt K (He.ma K (He.ga K "Kind") "__repr__")) := t.c.def_ 12 (d := d_Kindzz_reprzz) rfl
theorem u__law_text (t : TX K mg) : FunD K "_law_text" "_law_text" (defArgs s__law_text) (defBody s__law_text) (defScope s__law_text) [] [] (He.ga K "_law_text") (fdAt K (He.ga K "_law_text")) := t.c.def_ 13 (d := d__law_text) rfl
theorem u__law_is_kind (t : TX K mg) : FunD K "_law_is_kind" "_law_is_kind" (defArgs s__law_is_kind) (defBody s__law_is_kind) (defScope s__law_is_kind) [] [] (He.ga K "_law_is_kind") (fdAt K (He.ga K "_law_is_kind")) := t.c.def_ 14 (d := d__law_is_kind) rfl
theorem u_Kindzz_eqzz (t : TX K mg) : FunD K "__eq__" "Kind.__eq__" (defArgs s_Kindzz_eqzz) (defBody s_Kindzz_eqzz) (defScope s_Kindzz_eqzz) [] [] (He.ma K (He.ga K "Kind") "__eq__") (fdAt K (He.ma K (He.ga K "Kind") "__eq__")) := t.c.def_ 15 (d := d_Kindzz_eqzz) rfl
theorem u__law_others (t : TX K mg) : FunD K "_law_others" "_law_others" (defArgs s__law_others) (defBody s__law_others) (defScope s__law_others) [] [] (He.ga K "_law_others") (fdAt K (He.ga K "_law_others")) := t.c.def_ 16 (d := d__law_others) rfl
theorem u__law_wrong (t : TX K mg) : FunD K "_law_wrong" "_law_wrong" (defArgs s__law_wrong) (defBody s__law_wrong) (defScope s__law_wrong) [] [] (He.ga K "_law_wrong") (fdAt K (He.ga K "_law_wrong")) := t.c.def_ 17 (d := d__law_wrong) rfl
theorem u__law_heard (t : TX K mg) : FunD K "_law_heard" "_law_heard" (defArgs s__law_heard) (defBody s__law_heard) (defScope s__law_heard) [] [] (He.ga K "_law_heard") (fdAt K (He.ga K "_law_heard")) := t.c.def_ 18 (d := d__law_heard) rfl
theorem u__law_refusals_right (t : TX K mg) : FunD K "_law_refusals_right" "_law_refusals_right" (defArgs s__law_refusals_right) (defBody s__law_refusals_right) (defScope s__law_refusals_right) [] [] (He.ga K "_law_refusals_right") (fdAt K (He.ga K "_law_refusals_right")) := t.c.def_ 19 (d := d__law_refusals_right) rfl
theorem u__law_right (t : TX K mg) : FunD K "_law_right" "_law_right" (defArgs s__law_right) (defBody s__law_right) (defScope s__law_right) [] [] (He.ga K "_law_right") (fdAt K (He.ga K "_law_right")) := t.c.def_ 20 (d := d__law_right) rfl
theorem u__law_pot (t : TX K mg) : FunD K "_law_pot" "_law_pot" (defArgs s__law_pot) (defBody s__law_pot) (defScope s__law_pot) [] [] (He.ga K "_law_pot") (fdAt K (He.ga K "_law_pot")) := t.c.def_ 21 (d := d__law_pot) rfl
theorem u_law (t : TX K mg) : FunD K "law" "law" (defArgs s_law) (defBody s_law) (defScope s_law) [] [] (He.ga K "law") (fdAt K (He.ga K "law")) := t.c.def_ 22 (d := d_law) rfl
theorem b__law_draw (t : TX K mg) : Binds K (fdAt K (He.ga K "_law_draw")) ["_law_pot_here", "_law_many"] [] := FunD.bindsN (u__law_draw t) fun _ _ _ _ _ _ us hl => match us, hl with | [_, _], _ => rfl
theorem sc__law_draw : FnScope ["_law_pot_here", "_law_many", "_law_digit"] ["_law_pot_here", "_law_many"] (defScope s__law_draw) := ⟨rfl, rfl, rfl, by decide +kernel, rfl, by decide +kernel, by decide +kernel⟩
def g__law_draw : Slots → M Out := (seqS (ifS (testE (binE (pu iGt) (binE ixM (bvarE 0) (cE (.int 0))) (cE (.int 0)))) (seqS (potS2 0 2 (bltE dmF (consA (binE ixM (bvarE 0) (cE (.int 0))) (consA (bvarE 1) nilA))))
  (retS (varE 2))) nilS)
  (seqS (potS 0 (binE (pu iMod) (bltE (pu1 intF) (consA (binE addU (binE (pu iMul) (binE ixM (bvarE 0) (cE (.int 1))) (cE (.int 44203))) (cE (.int 15511))) nilA)) (cE (.int 2147483587))))
  (retS (binE (pu iMod) (bltE (pu1 intF) (consA (binE (pu iDiv) (binE (pu iMod) (bltE (pu1 intF) (consA (binE (pu iMul) (binE ixM (bvarE 0) (cE (.int 1))) (binE ixM (bvarE 0) (cE (.int 1)))) nilA)) (cE (.int 2147483549))) (cE (.int 11))) nilA)) (bvarE 1)))))
def m__law_draw : List D → M D := fnM 3 g__law_draw
theorem ok__law_draw (t : TX K mg) : FnG False P w K mg base (L2.CX P w) 1 (He.ga K "_law_draw") (fdAt K (He.ga K "_law_draw")) ["_law_pot_here", "_law_many"] (spF K (tbOf cls_ tabs_ K) 2 m__law_draw) :=
  fnD (st := s__law_draw) (N := ["_law_pot_here", "_law_many", "_law_digit"]) (ps := ["_law_pot_here", "_law_many"]) (k := 0) (g := g__law_draw) (u__law_draw t) sc__law_draw (by decide) fun cdv hcv A outer s H E p S hr =>
  (dss_cons (ds_if (dt_cmp od_iGt (db_of (de_ix (db_var 0) (db_of de_int))) (db_of de_int)) (dss_cons (ds_pot2 (i := 0) (j := 2) rfl sc__law_draw.nd (de_blt cd_divmod (t.free 0) bo_divmod (dab_cons (db_of (de_ix (db_var 0) (db_of de_int))) (dab_cons (db_var 1) dab_nil))))
  (dss_one (ds_ret (de_var 2)))) dss_nil)
  (dss_cons (ds_pot (i := 0) (de_op od_iMod (db_of (de_blt_ty cd_int (t.free 1) bo_int (dab_cons (db_of (de_op od_addU (db_of (de_op od_iMul (db_of (de_ix (db_var 0) (db_of de_int))) (db_of de_int))) (db_of de_int))) dab_nil))) (db_of de_int)))
  (dss_one (ds_ret (de_op od_iMod (db_of (de_blt_ty cd_int (t.free 1) bo_int (dab_cons (db_of (de_op od_iDiv (db_of (de_op od_iMod (db_of (de_blt_ty cd_int (t.free 1) bo_int (dab_cons (db_of (de_op od_iMul (db_of (de_ix (db_var 0) (db_of de_int))) (db_of (de_ix (db_var 0) (db_of de_int))))) dab_nil))) (db_of de_int))) (db_of de_int))) dab_nil))) (db_var 1))))))
theorem b__law_pick (t : TX K mg) : Binds K (fdAt K (He.ga K "_law_pick")) ["_law_pot_here", "_law_some"] [] := FunD.bindsN (u__law_pick t) fun _ _ _ _ _ _ us hl => match us, hl with | [_, _], _ => rfl
theorem sc__law_pick : FnScope ["_law_pot_here", "_law_some"] ["_law_pot_here", "_law_some"] (defScope s__law_pick) := ⟨rfl, rfl, rfl, by decide +kernel, rfl, by decide +kernel, by decide +kernel⟩
def g__law_pick : Slots → M Out := (retS (binE ixM (bvarE 1) (callE 2 m__law_draw [] (consA (varE 0) (consA (bltE (pu1 lenF) (consA (bvarE 1) nilA)) nilA)))))
def m__law_pick : List D → M D := fnM 2 g__law_pick
theorem ok__law_pick (t : TX K mg) : FnG False P w K mg base (L2.CX P w) 2 (He.ga K "_law_pick") (fdAt K (He.ga K "_law_pick")) ["_law_pot_here", "_law_some"] (spF K (tbOf cls_ tabs_ K) 2 m__law_pick) :=
  fnD (st := s__law_pick) (N := ["_law_pot_here", "_law_some"]) (ps := ["_law_pot_here", "_law_some"]) (k := 1) (g := g__law_pick) (u__law_pick t) sc__law_pick (by decide) fun cdv hcv A outer s H E p S hr =>
  (dss_one (ds_ret (de_ix (db_var 1) (db_of (de_call (ok__law_draw t) (hr.mono (by decide)) (takes_of rfl rfl rfl rfl) (t.glo 2) (u__law_draw t).kp (b__law_draw t) .nil cst_nil (da_cons (de_var 0) (da_cons (de_blt cd_len (t.free 3) bo_len (dab_cons (db_var 1) dab_nil)) da_nil)))))))
theorem b__law_label (t : TX K mg) : Binds K (fdAt K (He.ga K "_law_label")) ["_law_pot_here"] [] := FunD.bindsN (u__law_label t) fun _ _ _ _ _ _ us hl => match us, hl with | [_], _ => rfl
theorem sc__law_label : FnScope ["_law_pot_here", "_law_size", "_law_turn"] ["_law_pot_here"] (defScope s__law_label) := ⟨rfl, rfl, rfl, by decide +kernel, rfl, by decide +kernel, by decide +kernel⟩
def g__law_label : Slots → M Out := (seqS (asgS 1 (callE 2 m__law_pick [] (consA (varE 0) (consA (boxE (lenA (consA (cE (.int 1)) (consA (cE (.int 1)) (consA (cE (.int 2)) (consA (cE (.int 4)) (consA (cE (.int 8)) nilA))))))) nilA))))
  (retS (joinE (cE (.str "")) (boxE (compE (itA rng1 (consA (bvarE 1) nilA)) [2] (tgN 2) yesT (callE 2 m__law_pick [] (consA (varE 0) (consA (cE (.str "abcdefghijklmnopqrstuvwxyz")) nilA))))))))
def m__law_label : List D → M D := fnM 3 g__law_label
theorem ok__law_label (t : TX K mg) : FnG False P w K mg base (L2.CX P w) 3 (He.ga K "_law_label") (fdAt K (He.ga K "_law_label")) ["_law_pot_here"] (spF K (tbOf cls_ tabs_ K) 1 m__law_label) :=
  fnD (st := s__law_label) (N := ["_law_pot_here", "_law_size", "_law_turn"]) (ps := ["_law_pot_here"]) (k := 2) (g := g__law_label) (u__law_label t) sc__law_label (by decide) fun cdv hcv A outer s H E p S hr =>
  (dss_cons (ds_asg (i := 1) sc__law_label.nd (de_call (ok__law_pick t) (hr.mono (by decide)) (takes_of rfl rfl rfl rfl) (t.glo 4) (u__law_pick t).kp (b__law_pick t) .nil cst_nil (da_cons (de_var 0) (da_cons (de_box (dl_lst (da_cons de_int (da_cons de_int (da_cons de_int (da_cons de_int (da_cons de_int da_nil))))))) da_nil))))
  (dss_one (ds_ret (de_join (db_of de_str) (db_of (de_box (dl_lc rfl sc__law_label.nd (own := [(("_law_turn" : Str), 2)]) (di_range1 (dab_cons (db_var 1) dab_nil) (t.free 5)) (blkOk_by (by kernel_rfl)) (fun l s H C cl fp => (dg_name (vs := [2]) sc__law_label.nd (by decide))) (fun l s H C cl fp => dts_nil) (fun l s H C cl fp => (de_call (ok__law_pick t) (hr.mono (by decide)) takes0 (t.glo 4) (u__law_pick t).kp (b__law_pick t) .nil cst_nil (da_cons (de_var 0) (da_cons de_str da_nil)))))))))))
theorem b__law_fields (t : TX K mg) : Binds K (fdAt K (He.ga K "_law_fields")) ["_law_pot_here"] [] := FunD.bindsN (u__law_fields t) fun _ _ _ _ _ _ us hl => match us, hl with | [_], _ => rfl
theorem sc__law_fields : FnScope ["_law_pot_here", "_law_row"] ["_law_pot_here"] (defScope s__law_fields) := ⟨rfl, rfl, rfl, by decide +kernel, rfl, by decide +kernel, by decide +kernel⟩
def g__law_fields : Slots → M Out := (seqS (asgL 1 (lenA (consA (callE 1 m__law_label [] (consA (varE 0) nilA)) (consA (callE 2 m__law_draw [] (consA (varE 0) (consA (cE (.int 7)) nilA))) (consA (callE 2 m__law_draw [] (consA (varE 0) (consA (cE (.int 7)) nilA))) nilA)))))
  (seqS (asgL 1 (binL lCat (bvarE 1) (boxE (lenA (consA (callE 2 m__law_pick [] (consA (varE 0) (consA (boxE (lenA (consA (cE .non) (consA (binE ixM (bvarE 1) (cE (.int 0))) (consA (callE 1 m__law_label [] (consA (varE 0) nilA)) nilA))))) nilA))) (consA (callE 2 m__law_pick [] (consA (varE 0) (consA (boxE (lenA (consA (cE .non) (consA (binE ixM (bvarE 1) (cE (.int 0))) (consA (callE 1 m__law_label [] (consA (varE 0) nilA)) nilA))))) nilA))) nilA))))))
  (seqS (appS 1 (callE 2 m__law_pick [] (consA (varE 0) (consA (boxE (lenA (consA (cE (.int 0)) (consA (cE (.int 1)) (consA (cE (.int 1)) (consA (cE (.int 2)) (consA (cE (.int 10)) (consA (cE (.int 999)) nilA)))))))) nilA))))
  (seqS (ifS (andT (testE (binE (pu dEq) (binE ixM (bvarE 1) (cE (.int 1))) (cE (.int 0)))) (testE (binE (pu dEq) (binE ixM (bvarE 1) (cE (.int 2))) (cE (.int 0))))) (setS 1 (binE addU (cE (.int 1)) (callE 2 m__law_draw [] (consA (varE 0) (consA (cE (.int 2)) nilA)))) (binE addU (cE (.int 1)) (callE 2 m__law_draw [] (consA (varE 0) (consA (cE (.int 6)) nilA))))) nilS)
  (frzS 1 (retS (varE 1)))))))
def m__law_fields : List D → M D := fnM 2 g__law_fields
theorem ok__law_fields (t : TX K mg) : FnG False P w K mg base (L2.CX P w) 4 (He.ga K "_law_fields") (fdAt K (He.ga K "_law_fields")) ["_law_pot_here"] (spF K (tbOf cls_ tabs_ K) 1 m__law_fields) :=
  fnD (st := s__law_fields) (N := ["_law_pot_here", "_law_row"]) (ps := ["_law_pot_here"]) (k := 3) (g := g__law_fields) (u__law_fields t) sc__law_fields (by decide) fun cdv hcv A outer s H E p S hr =>
  (dss_cons (ds_asgL (i := 1) sc__law_fields.nd (dl_lst (da_cons (de_call (ok__law_label t) (hr.mono (by decide)) (takes_of rfl rfl rfl rfl) (t.glo 6) (u__law_label t).kp (b__law_label t) .nil cst_nil (da_cons (de_var 0) da_nil)) (da_cons (de_call (ok__law_draw t) (hr.mono (by decide)) (takes_of rfl rfl rfl rfl) (t.glo 2) (u__law_draw t).kp (b__law_draw t) .nil cst_nil (da_cons (de_var 0) (da_cons de_int da_nil))) (da_cons (de_call (ok__law_draw t) (hr.mono (by decide)) (takes_of rfl rfl rfl rfl) (t.glo 2) (u__law_draw t).kp (b__law_draw t) .nil cst_nil (da_cons (de_var 0) (da_cons de_int da_nil))) da_nil)))))
  (dss_cons (ds_asgL (i := 1) sc__law_fields.nd (dl_op od_lCat (db_var 1) (db_of (de_box (dl_lst (da_cons (de_call (ok__law_pick t) (hr.mono (by decide)) (takes_of rfl rfl rfl rfl) (t.glo 4) (u__law_pick t).kp (b__law_pick t) .nil cst_nil (da_cons (de_var 0) (da_cons (de_box (dl_lst (da_cons de_non (da_cons (de_ix (db_var 1) (db_of de_int)) (da_cons (de_call (ok__law_label t) (hr.mono (by decide)) (takes_of rfl rfl rfl rfl) (t.glo 6) (u__law_label t).kp (b__law_label t) .nil cst_nil (da_cons (de_var 0) da_nil)) da_nil))))) da_nil))) (da_cons (de_call (ok__law_pick t) (hr.mono (by decide)) (takes_of rfl rfl rfl rfl) (t.glo 4) (u__law_pick t).kp (b__law_pick t) .nil cst_nil (da_cons (de_var 0) (da_cons (de_box (dl_lst (da_cons de_non (da_cons (de_ix (db_var 1) (db_of de_int)) (da_cons (de_call (ok__law_label t) (hr.mono (by decide)) (takes_of rfl rfl rfl rfl) (t.glo 6) (u__law_label t).kp (b__law_label t) .nil cst_nil (da_cons (de_var 0) da_nil)) da_nil))))) da_nil))) da_nil)))))))
  (dss_cons (ds_app (i := 1) (de_call (ok__law_pick t) (hr.mono (by decide)) (takes_of rfl rfl rfl rfl) (t.glo 4) (u__law_pick t).kp (b__law_pick t) .nil cst_nil (da_cons (de_var 0) (da_cons (de_box (dl_lst (da_cons de_int (da_cons de_int (da_cons de_int (da_cons de_int (da_cons de_int (da_cons de_int da_nil)))))))) da_nil))))
  (dss_cons (ds_if ((dw_and (dt_cmp (od_dEq hr.room) (db_of (de_ix (db_var 1) (db_of de_int))) (db_of de_int)) (dw_and1 (dt_cmp (od_dEq hr.room) (db_of (de_ix (db_var 1) (db_of de_int))) (db_of de_int))))).pt (dss_one (ds_set (i := 1) (de_op od_addU (db_of de_int) (db_of (de_call (ok__law_draw t) (hr.mono (by decide)) (takes_of rfl rfl rfl rfl) (t.glo 2) (u__law_draw t).kp (b__law_draw t) .nil cst_nil (da_cons (de_var 0) (da_cons de_int da_nil))))) (de_op od_addU (db_of de_int) (db_of (de_call (ok__law_draw t) (hr.mono (by decide)) (takes_of rfl rfl rfl rfl) (t.glo 2) (u__law_draw t).kp (b__law_draw t) .nil cst_nil (da_cons (de_var 0) (da_cons de_int da_nil))))))) dss_nil)
  (dss_one (ds_frz 1 (ds_ret (de_var 1))))))))
theorem b_is_name (t : TX K mg) : Binds K (fdAt K (He.ga K "is_name")) ["value"] [] := FunD.bindsN (u_is_name t) fun _ _ _ _ _ _ us hl => match us, hl with | [_], _ => rfl
theorem sc_is_name : FnScope ["value", "sign"] ["value"] (defScope s_is_name) := ⟨rfl, rfl, rfl, by decide +kernel, rfl, by decide +kernel, by decide +kernel⟩
def g_is_name : Slots → M Out := (retS (andE (isiE 1 (ansOf ["str"] [false, false, false, false]) (bvarE 0)) (andE (chI (fun i j => decide (i ≤ j)) (fun i j => decide (i ≤ j)) (cE (.int 1)) (bltE (pu1 lenF) (consA (bvarE 0) nilA)) (cE (.int 8))) (bltE (pu1 allF) (consA (boxE (compE (itE (varE 0)) [1] (tgN 1) yesT (binE (pu inD) (bvarE 1) (cE (.str "abcdefghijklmnopqrstuvwxyz"))))) nilA)))))
def m_is_name : List D → M D := fnM 2 g_is_name
theorem ok_is_name (t : TX K mg) : FnG False P w K mg base (L2.CX P w) 1 (He.ga K "is_name") (fdAt K (He.ga K "is_name")) ["value"] (spF K (tbOf cls_ tabs_ K) 1 m_is_name) :=
  fnD (st := s_is_name) (N := ["value", "sign"]) (ps := ["value"]) (k := 0) (g := g_is_name) (u_is_name t) sc_is_name (by decide) fun cdv hcv A outer s H E p S hr =>
  (dss_one (ds_ret (de_and (de_isi (hCs t) (db_var 0) (pe_bty (t.free 8) bo_str) (.ty _) (t.isi (cs := cls_) (tf := tabs_) (u := fun _ => .type "str") 9 rfl) (t.free 11) bo_isinstance) (de_and (de_ch op_le op_le de_int (de_blt cd_len (t.free 3) bo_len (dab_cons (db_var 0) dab_nil)) (de_gint (t.gint 12))) (de_one (de_blt (cd_all rfl) (t.free 14) bo_all (dab_cons (db_of (de_box (dl_lc rfl sc_is_name.nd (own := [(("sign" : Str), 1)]) (di_val (de_var 0)) (blkOk_by (by kernel_rfl)) (fun l s H C cl fp => (dg_name (vs := [1]) sc_is_name.nd (by decide))) (fun l s H C cl fp => dts_nil) (fun l s H C cl fp => (de_cmp od_in (db_var 1) (db_of (de_gstr (t.gstr 13)))))))) dab_nil)))))))
theorem b_InvalidNamezz_initzz (t : TX K mg) : Binds K (fdAt K (He.ma K (He.ga K "InvalidName") "__init__")) ["self", "value"] [] := FunD.bindsN (u_InvalidNamezz_initzz t) fun _ _ _ _ _ _ us hl => match us, hl with | [_, _], _ => rfl
theorem sc_InvalidNamezz_initzz : FnScope ["self", "value"] ["self", "value"] (defScope s_InvalidNamezz_initzz) := ⟨rfl, rfl, rfl, by decide +kernel, rfl, by decide +kernel, by decide +kernel⟩
theorem ok_InvalidNamezz_initzz (t : TX K mg) : FnOk P w K mg base (L2.CX P w) 1 (He.ma K (He.ga K "InvalidName") "__init__") (fdAt K (He.ma K (He.ga K "InvalidName") "__init__")) ["self", "value"] (spX (tbOf cls_ tabs_ K) 1) :=
  fnX1 (T := tbOf cls_ tabs_ K) (ec := 1) (u_InvalidNamezz_initzz t) sc_InvalidNamezz_initzz (t.oex 16) rfl (t.noat 17) fun cdv A outer s H E => pss_one (ps_ost (pv 0) (pv 1))
theorem b_is_integer (t : TX K mg) : Binds K (fdAt K (He.ga K "is_integer")) ["value"] [] := FunD.bindsN (u_is_integer t) fun _ _ _ _ _ _ us hl => match us, hl with | [_], _ => rfl
theorem sc_is_integer : FnScope ["value"] ["value"] (defScope s_is_integer) := ⟨rfl, rfl, rfl, by decide +kernel, rfl, by decide +kernel, by decide +kernel⟩
def g_is_integer : Slots → M Out := (retS (andE (isiE 1 (ansOf ["int", "bool"] [false, false, false, false]) (bvarE 0)) (notE (isiE 1 (ansOf ["bool"] [false, false, false, false]) (bvarE 0)))))
def m_is_integer : List D → M D := fnM 1 g_is_integer
theorem ok_is_integer (t : TX K mg) : FnG False P w K mg base (L2.CX P w) 1 (He.ga K "is_integer") (fdAt K (He.ga K "is_integer")) ["value"] (spF K (tbOf cls_ tabs_ K) 1 m_is_integer) :=
  fnD (st := s_is_integer) (N := ["value"]) (ps := ["value"]) (k := 0) (g := g_is_integer) (u_is_integer t) sc_is_integer (by decide) fun cdv hcv A outer s H E p S hr =>
  (dss_one (ds_ret (de_and (de_isi (hCs t) (db_var 0) (pe_bty (t.free 1) bo_int) (.ty _) (t.isi (cs := cls_) (tf := tabs_) (u := fun _ => .type "int") 22 rfl) (t.free 11) bo_isinstance) (de_one (de_not (de_isi (hCs t) (db_var 0) (pe_bty (t.free 23) bo_bool) (.ty _) (t.isi (cs := cls_) (tf := tabs_) (u := fun _ => .type "bool") 24 rfl) (t.free 11) bo_isinstance))))))
theorem b_is_within (t : TX K mg) : Binds K (fdAt K (He.ga K "is_within")) ["value", "low", "high"] [] := FunD.bindsN (u_is_within t) fun _ _ _ _ _ _ us hl => match us, hl with | [_, _, _], _ => rfl
theorem sc_is_within : FnScope ["value", "low", "high"] ["value", "low", "high"] (defScope s_is_within) := ⟨rfl, rfl, rfl, by decide +kernel, rfl, by decide +kernel, by decide +kernel⟩
def g_is_within : Slots → M Out := (retS (andE (callE 1 m_is_integer [] (consA (varE 0) nilA)) (chI (fun i j => decide (i ≤ j)) (fun i j => decide (i ≤ j)) (varE 1) (varE 0) (varE 2))))
def m_is_within : List D → M D := fnM 3 g_is_within
theorem ok_is_within (t : TX K mg) : FnG False P w K mg base (L2.CX P w) 2 (He.ga K "is_within") (fdAt K (He.ga K "is_within")) ["value", "low", "high"] (spF K (tbOf cls_ tabs_ K) 3 m_is_within) :=
  fnD (st := s_is_within) (N := ["value", "low", "high"]) (ps := ["value", "low", "high"]) (k := 1) (g := g_is_within) (u_is_within t) sc_is_within (by decide) fun cdv hcv A outer s H E p S hr =>
  (dss_one (ds_ret (de_and (de_call (ok_is_integer t) (hr.mono (by decide)) (takes_of rfl rfl rfl rfl) (t.glo 25) (u_is_integer t).kp (b_is_integer t) .nil cst_nil (da_cons (de_var 0) da_nil)) (de_one (de_ch op_le op_le (de_var 1) (de_var 0) (de_var 2))))))
theorem b_InvalidNumberzz_initzz (t : TX K mg) : Binds K (fdAt K (He.ma K (He.ga K "InvalidNumber") "__init__")) ["self", "value"] [] := FunD.bindsN (u_InvalidNumberzz_initzz t) fun _ _ _ _ _ _ us hl => match us, hl with | [_, _], _ => rfl
theorem sc_InvalidNumberzz_initzz : FnScope ["self", "value"] ["self", "value"] (defScope s_InvalidNumberzz_initzz) := ⟨rfl, rfl, rfl, by decide +kernel, rfl, by decide +kernel, by decide +kernel⟩
theorem ok_InvalidNumberzz_initzz (t : TX K mg) : FnOk P w K mg base (L2.CX P w) 1 (He.ma K (He.ga K "InvalidNumber") "__init__") (fdAt K (He.ma K (He.ga K "InvalidNumber") "__init__")) ["self", "value"] (spX (tbOf cls_ tabs_ K) 2) :=
  fnX1 (T := tbOf cls_ tabs_ K) (ec := 2) (u_InvalidNumberzz_initzz t) sc_InvalidNumberzz_initzz (t.oex 27) rfl (t.noat 28) fun cdv A outer s H E => pss_one (ps_ost (pv 0) (pv 1))
theorem b_InvalidKindzz_initzz (t : TX K mg) : Binds K (fdAt K (He.ma K (He.ga K "InvalidKind") "__init__")) ["self", "value"] [] := FunD.bindsN (u_InvalidKindzz_initzz t) fun _ _ _ _ _ _ us hl => match us, hl with | [_, _], _ => rfl
theorem sc_InvalidKindzz_initzz : FnScope ["self", "value"] ["self", "value"] (defScope s_InvalidKindzz_initzz) := ⟨rfl, rfl, rfl, by decide +kernel, rfl, by decide +kernel, by decide +kernel⟩
theorem ok_InvalidKindzz_initzz (t : TX K mg) : FnOk P w K mg base (L2.CX P w) 1 (He.ma K (He.ga K "InvalidKind") "__init__") (fdAt K (He.ma K (He.ga K "InvalidKind") "__init__")) ["self", "value"] (spX (tbOf cls_ tabs_ K) 3) :=
  fnX1 (T := tbOf cls_ tabs_ K) (ec := 3) (u_InvalidKindzz_initzz t) sc_InvalidKindzz_initzz (t.oex 31) rfl (t.noat 32) fun cdv A outer s H E => pss_one (ps_ost (pv 0) (pv 1))
theorem b_Kindzz_initzz_4 (t : TX K mg) : ∃ ds, Vals [.non, .non, .int 1] ds ∧ Binds K (fdAt K (He.ma K (He.ga K "Kind") "__init__")) ["self", "name", "takes", "makes", "back", "mirror", "yarn"] ds := FunD.binds0 (u_Kindzz_initzz t) 4 (by intro e; cases e) rfl fun D doc pm an cdv ct us its h1 h2 => match us, its, h1, h2 with | [_, _, _, _], [_, _, _], _, _ => ⟨_, _, _, _, _, _, rfl, rfl, ⟨_, _, _, _, _, _, rfl, rfl, ⟨_, _, _, _, _, _, rfl, rfl, rfl⟩⟩⟩
theorem kb_Kindzz_initzz_1_yarn_mirror_back_makes_takes_name (t : TX K mg) : ∃ mv : List Value, KBn K (fdAt K (He.ma K (He.ga K "Kind") "__init__")) ["self", "name", "takes", "makes", "back", "mirror", "yarn"] 1 ["yarn", "mirror", "back", "makes", "takes", "name"] (fun us ws => us ++ pick [(true, 5), (true, 4), (true, 3), (true, 2), (true, 1), (true, 0)] mv ws) (fun vs zs => vs ++ pick [(true, 5), (true, 4), (true, 3), (true, 2), (true, 1), (true, 0)] [] zs) := FunD.kbinds0 (u_Kindzz_initzz t) 1 ["yarn", "mirror", "back", "makes", "takes", "name"] [] (fun us mv ws => us ++ pick [(true, 5), (true, 4), (true, 3), (true, 2), (true, 1), (true, 0)] mv ws) (by intro e; cases e) (by intro q hq; simp at hq; try (rcases hq with rfl | hq <;> simp_all)) (fun r1 r2 r3 => r1.append (vals_pick r2 r3 _)) fun D doc pm an cdv ct us mv ws h1 h2 h3 => match us, mv, ws, h1, h2, h3 with | [_], [], [_, _, _, _, _, _], _, _, _ => rfl
theorem kb_Kindzz_initzz_4_back_mirror_yarn (t : TX K mg) : ∃ mv : List Value, KBn K (fdAt K (He.ma K (He.ga K "Kind") "__init__")) ["self", "name", "takes", "makes", "back", "mirror", "yarn"] 4 ["back", "mirror", "yarn"] (fun us ws => us ++ pick [(true, 0), (true, 1), (true, 2)] mv ws) (fun vs zs => vs ++ pick [(true, 0), (true, 1), (true, 2)] [] zs) := FunD.kbinds0 (u_Kindzz_initzz t) 4 ["back", "mirror", "yarn"] [] (fun us mv ws => us ++ pick [(true, 0), (true, 1), (true, 2)] mv ws) (by intro e; cases e) (by intro q hq; simp at hq; try (rcases hq with rfl | hq <;> simp_all)) (fun r1 r2 r3 => r1.append (vals_pick r2 r3 _)) fun D doc pm an cdv ct us mv ws h1 h2 h3 => match us, mv, ws, h1, h2, h3 with | [_, _, _, _], [], [_, _, _], _, _, _ => rfl
theorem sc_Kindzz_initzz : FnScope ["self", "name", "takes", "makes", "back", "mirror", "yarn", "value", "most"] ["self", "name", "takes", "makes", "back", "mirror", "yarn"] (defScope s_Kindzz_initzz) := ⟨rfl, rfl, rfl, by decide +kernel, rfl, by decide +kernel, by decide +kernel⟩
def g_Kindzz_initzz_b1 : Slots → M Out := (ifS (andT (testE (binE (pu notN) (bvarE 7) (cE .non))) (notT (testE (callE 1 m_is_name [] (consA (varE 7) nilA))))) (raiS 1 1 (consA (varE 7) nilA)) nilS)
def g_Kindzz_initzz_b2 : Slots → M Out := (ifS (notT (testE (callE 3 m_is_within [] (consA (varE 7) (consA (cE (.int 0)) (consA (varE 8) nilA)))))) (raiS 2 1 (consA (varE 7) nilA)) nilS)
def g_Kindzz_initzz : Slots → M Out := (seqS (ifS (notT (testE (callE 1 m_is_name [] (consA (varE 1) nilA)))) (raiS 1 1 (consA (varE 1) nilA)) nilS)
  (seqS (forS (itE (tupE (consA (varE 4) (consA (varE 5) nilA)))) (tgN 7) g_Kindzz_initzz_b1)
  (seqS (forS (itE (tupE (consA (tupE (consA (varE 2) (consA (cE (.int 6)) nilA))) (consA (tupE (consA (varE 3) (consA (cE (.int 6)) nilA))) (consA (tupE (consA (varE 6) (consA (cE (.int 999)) nilA))) nilA))))) (tgT [(tgN 7), (tgN 8)]) g_Kindzz_initzz_b2)
  (seqS (ifS (andT (testE (binE (pu dEq) (bvarE 2) (cE (.int 0)))) (testE (binE (pu dEq) (bvarE 3) (cE (.int 0))))) (raiS 3 1 (consA (varE 1) nilA)) nilS)
  (seqS (fldS 0 0 0 (varE 1))
  (seqS (fldS 0 0 1 (varE 2))
  (seqS (fldS 0 0 2 (varE 3))
  (seqS (fldS 0 0 3 (varE 4))
  (seqS (fldS 0 0 4 (varE 5))
  (fldS 0 0 5 (varE 6)))))))))))
def m_Kindzz_initzz : List D → M (List D) := iniM 0 6 8 g_Kindzz_initzz
theorem ok_Kindzz_initzz (t : TX K mg) : FnG False P w K mg base (L2.CX P w) 3 (He.ma K (He.ga K "Kind") "__init__") (fdAt K (He.ma K (He.ga K "Kind") "__init__")) ["self", "name", "takes", "makes", "back", "mirror", "yarn"] (spI K (tbOf cls_ tabs_ K) 0 7 m_Kindzz_initzz) :=
  fnI (st := s_Kindzz_initzz) (y := "self") (N := ["name", "takes", "makes", "back", "mirror", "yarn", "value", "most"]) (ps := ["name", "takes", "makes", "back", "mirror", "yarn"]) (k := 2) (kc := 0) (g := g_Kindzz_initzz) (u_Kindzz_initzz t) sc_Kindzz_initzz (by decide) (fun cdv hcv A outer s H H0 E p me S hr =>
  (dss_cons (ds_if (dt_not (dt_val (de_call (ok_is_name t) (hr.mono (by decide)) (takes_of rfl rfl rfl rfl) (t.glo 15) (u_is_name t).kp (b_is_name t) .nil cst_nil (da_cons (de_var 1) da_nil)))) (dss_one (ds_raise (ec := 1) (takes_of rfl rfl rfl rfl) (t.oex 16) (t.meth 18) (ok_InvalidNamezz_initzz t) (hr.room.mono (by decide)) (b_InvalidNamezz_initzz t) (t.glo 19) rfl (da_cons (de_var 1) da_nil))) dss_nil)
  (dss_cons (ds_for (passes_of rfl) rfl (di_val (de_tup (da_cons (de_var 4) (da_cons (de_var 5) da_nil)))) (dg_name (vs := [7]) sc_Kindzz_initzz.nd (by decide)) (dss_one (ds_if ((dw_and (dt_cmp od_notN (db_var 7) (db_of de_non)) (dw_and1 (dt_not (dt_val (de_call (ok_is_name t) (hr.mono (by decide)) (takes_of rfl rfl rfl rfl) (t.glo 15) (u_is_name t).kp (b_is_name t) .nil cst_nil (da_cons (de_var 7) da_nil))))))).pt (dss_one (ds_raise (ec := 1) (takes_of rfl rfl rfl rfl) (t.oex 16) (t.meth 18) (ok_InvalidNamezz_initzz t) (hr.room.mono (by decide)) (b_InvalidNamezz_initzz t) (t.glo 19) rfl (da_cons (de_var 7) da_nil))) dss_nil)))
  (dss_cons (ds_for (passes_of rfl) rfl (di_val (de_tup (da_cons (de_tup (da_cons (de_var 2) (da_cons (de_gint (t.gint 21)) da_nil))) (da_cons (de_tup (da_cons (de_var 3) (da_cons (de_gint (t.gint 21)) da_nil))) (da_cons (de_tup (da_cons (de_var 6) (da_cons (de_gint (t.gint 20)) da_nil))) da_nil))))) (dg_tup rfl (dgs_cons (dg_name (vs := [7, 8]) sc_Kindzz_initzz.nd (by decide)) (dgs_cons (dg_name (vs := [7, 8]) sc_Kindzz_initzz.nd (by decide)) dgs_nil))) (dss_one (ds_if (dt_not (dt_val (de_call (ok_is_within t) (hr.mono (by decide)) (takes_of rfl rfl rfl rfl) (t.glo 26) (u_is_within t).kp (b_is_within t) .nil cst_nil (da_cons (de_var 7) (da_cons de_int (da_cons (de_var 8) da_nil)))))) (dss_one (ds_raise (ec := 2) (takes_of rfl rfl rfl rfl) (t.oex 27) (t.meth 29) (ok_InvalidNumberzz_initzz t) (hr.room.mono (by decide)) (b_InvalidNumberzz_initzz t) (t.glo 30) rfl (da_cons (de_var 7) da_nil))) dss_nil)))
  (dss_cons (ds_if ((dw_and (dt_cmp (od_dEq hr.room) (db_var 2) (db_of de_int)) (dw_and1 (dt_cmp (od_dEq hr.room) (db_var 3) (db_of de_int))))).pt (dss_one (ds_raise (ec := 3) (takes_of rfl rfl rfl rfl) (t.oex 31) (t.meth 33) (ok_InvalidKindzz_initzz t) (hr.room.mono (by decide)) (b_InvalidKindzz_initzz t) (t.glo 34) rfl (da_cons (de_var 1) da_nil))) dss_nil)
  (dss_cons (ds_fld (i := 0) (kc := 0) (ix := 0) (de_var 1) rfl (t.cls 36) (t.noat 35) nd_Kind rfl (show 6 < 1000 by decide))
  (dss_cons (ds_fld (i := 0) (kc := 0) (ix := 1) (de_var 2) rfl (t.cls 36) (t.noat 37) nd_Kind rfl (show 6 < 1000 by decide))
  (dss_cons (ds_fld (i := 0) (kc := 0) (ix := 2) (de_var 3) rfl (t.cls 36) (t.noat 38) nd_Kind rfl (show 6 < 1000 by decide))
  (dss_cons (ds_fld (i := 0) (kc := 0) (ix := 3) (de_var 4) rfl (t.cls 36) (t.noat 39) nd_Kind rfl (show 6 < 1000 by decide))
  (dss_cons (ds_fld (i := 0) (kc := 0) (ix := 4) (de_var 5) rfl (t.cls 36) (t.noat 40) nd_Kind rfl (show 6 < 1000 by decide))
  (dss_one (ds_fld (i := 0) (kc := 0) (ix := 5) (de_var 6) rfl (t.cls 36) (t.noat 41) nd_Kind rfl (show 6 < 1000 by decide))))))))))))) rfl
theorem b__law_kind (t : TX K mg) : Binds K (fdAt K (He.ga K "_law_kind")) ["_law_row"] [] := FunD.bindsN (u__law_kind t) fun _ _ _ _ _ _ us hl => match us, hl with | [_], _ => rfl
theorem sc__law_kind : FnScope ["_law_row"] ["_law_row"] (defScope s__law_kind) := ⟨rfl, rfl, rfl, by decide +kernel, rfl, by decide +kernel, by decide +kernel⟩
def g__law_kind : Slots → M Out := (retS (makeKE 0 7 3 3 m_Kindzz_initzz [(true, 0), (true, 1), (true, 2)] [] (consA (binE ixM (bvarE 0) (cE (.int 0))) (consA (binE ixM (bvarE 0) (cE (.int 1))) (consA (binE ixM (bvarE 0) (cE (.int 2))) nilA))) (consA (binE ixM (bvarE 0) (cE (.int 3))) (consA (binE ixM (bvarE 0) (cE (.int 4))) (consA (binE ixM (bvarE 0) (cE (.int 5))) nilA)))))
def m__law_kind : List D → M D := fnM 1 g__law_kind
theorem ok__law_kind (t : TX K mg) : FnG False P w K mg base (L2.CX P w) 5 (He.ga K "_law_kind") (fdAt K (He.ga K "_law_kind")) ["_law_row"] (spF K (tbOf cls_ tabs_ K) 1 m__law_kind) := by
  obtain ⟨mv_Kindzz_initzz_4_back_mirror_yarn, hk_Kindzz_initzz_4_back_mirror_yarn⟩ := kb_Kindzz_initzz_4_back_mirror_yarn t
  exact fnD (st := s__law_kind) (N := ["_law_row"]) (ps := ["_law_row"]) (k := 4) (g := g__law_kind) (u__law_kind t) sc__law_kind (by decide) fun cdv hcv A outer s H E p S hr =>
  (dss_one (ds_ret (de_makeK (n0 := 3) (t.mk_ 43) (ok_Kindzz_initzz t) (hr.mono (by decide)) (takes_of rfl rfl rfl rfl) (t.glo 42) rfl hk_Kindzz_initzz_4_back_mirror_yarn cst_nil (da_cons (de_ix (db_var 0) (db_of de_int)) (da_cons (de_ix (db_var 0) (db_of de_int)) (da_cons (de_ix (db_var 0) (db_of de_int)) da_nil))) (dk_cons (de_ix (db_var 0) (db_of de_int)) (dk_cons (de_ix (db_var 0) (db_of de_int)) (dk_cons (de_ix (db_var 0) (db_of de_int)) dk_nil))))))
theorem b_Kindzz_reprzz (t : TX K mg) : Binds K (fdAt K (He.ma K (He.ga K "Kind") "__repr__")) ["self"] [] := FunD.bindsN (u_Kindzz_reprzz t) fun _ _ _ _ _ _ us hl => match us, hl with | [_], _ => rfl
theorem sc_Kindzz_reprzz : FnScope ["self", "told"] ["self"] (defScope s_Kindzz_reprzz) := ⟨rfl, rfl, rfl, by decide +kernel, rfl, by decide +kernel, by decide +kernel⟩
def g_Kindzz_reprzz : Slots → M Out := (seqS (asgL 1 (lenA (consA (bltE (pu1 reprF) (consA (getE 0 0 (varE 0)) nilA)) (consA (bltE (pu1 strF) (consA (getE 0 1 (varE 0)) nilA)) (consA (bltE (pu1 strF) (consA (getE 0 2 (varE 0)) nilA)) nilA)))))
  (seqS (ifS (testE (binE (pu notN) (getE 0 3 (varE 0)) (cE .non))) (appS 1 (joinedE [(cE (.str "back=")), (oneE fmtRF (getE 0 3 (varE 0)))])) nilS)
  (seqS (ifS (testE (binE (pu notN) (getE 0 4 (varE 0)) (cE .non))) (appS 1 (joinedE [(cE (.str "mirror=")), (oneE fmtRF (getE 0 4 (varE 0)))])) nilS)
  (seqS (ifS (testE (binE (pu dNe) (getE 0 5 (varE 0)) (cE (.int 1)))) (appS 1 (joinedE [(cE (.str "yarn=")), (oneE fmtF (getE 0 5 (varE 0)))])) nilS)
  (retS (joinedE [(cE (.str "Kind(")), (oneE fmtF (joinE (cE (.str ", ")) (bvarE 1))), (cE (.str ")"))]))))))
def m_Kindzz_reprzz : List D → M D := fnM 2 g_Kindzz_reprzz
theorem ok_Kindzz_reprzz (t : TX K mg) : FnG False P w K mg base (L2.CX P w) 1 (He.ma K (He.ga K "Kind") "__repr__") (fdAt K (He.ma K (He.ga K "Kind") "__repr__")) ["self"] (spF K (tbOf cls_ tabs_ K) 1 m_Kindzz_reprzz) :=
  fnD (st := s_Kindzz_reprzz) (N := ["self", "told"]) (ps := ["self"]) (k := 0) (g := g_Kindzz_reprzz) (u_Kindzz_reprzz t) sc_Kindzz_reprzz (by decide) fun cdv hcv A outer s H E p S hr =>
  (dss_cons (ds_asgL (i := 1) sc_Kindzz_reprzz.nd (dl_lst (da_cons (de_blt cd_repr (t.free 45) bo_repr (dab_cons (db_of (de_get (de_var 0) rfl (t.cls 36) (t.noat 35) nd_Kind rfl)) dab_nil)) (da_cons (de_blt_ty cd_strI (t.free 8) bo_str (dab_cons (db_of (de_get (de_var 0) rfl (t.cls 36) (t.noat 37) nd_Kind rfl)) dab_nil)) (da_cons (de_blt_ty cd_strI (t.free 8) bo_str (dab_cons (db_of (de_get (de_var 0) rfl (t.cls 36) (t.noat 38) nd_Kind rfl)) dab_nil)) da_nil)))))
  (dss_cons (ds_if (dt_cmp od_notN (db_of (de_get (de_var 0) rfl (t.cls 36) (t.noat 39) nd_Kind rfl)) (db_of de_non)) (dss_one (ds_app (i := 1) (de_joined (fs := [(cE (.str "back=")), (oneE fmtRF (getE 0 3 (varE 0)))]) (.cons de_str (.cons (de_fmtR (de_get (de_var 0) rfl (t.cls 36) (t.noat 39) nd_Kind rfl)) PJ.nil))))) dss_nil)
  (dss_cons (ds_if (dt_cmp od_notN (db_of (de_get (de_var 0) rfl (t.cls 36) (t.noat 40) nd_Kind rfl)) (db_of de_non)) (dss_one (ds_app (i := 1) (de_joined (fs := [(cE (.str "mirror=")), (oneE fmtRF (getE 0 4 (varE 0)))]) (.cons de_str (.cons (de_fmtR (de_get (de_var 0) rfl (t.cls 36) (t.noat 40) nd_Kind rfl)) PJ.nil))))) dss_nil)
  (dss_cons (ds_if (dt_cmp (od_dNe hr.room) (db_of (de_get (de_var 0) rfl (t.cls 36) (t.noat 41) nd_Kind rfl)) (db_of de_int)) (dss_one (ds_app (i := 1) (de_joined (fs := [(cE (.str "yarn=")), (oneE fmtF (getE 0 5 (varE 0)))]) (.cons de_str (.cons (de_fmt (de_get (de_var 0) rfl (t.cls 36) (t.noat 41) nd_Kind rfl)) PJ.nil))))) dss_nil)
  (dss_one (ds_ret (de_joined (fs := [(cE (.str "Kind(")), (oneE fmtF (joinE (cE (.str ", ")) (bvarE 1))), (cE (.str ")"))]) (.cons de_str (.cons (de_fmt (de_join (db_of de_str) (db_var 1))) (.cons de_str PJ.nil))))))))))
theorem b__law_text (t : TX K mg) : Binds K (fdAt K (He.ga K "_law_text")) ["_law_row"] [] := FunD.bindsN (u__law_text t) fun _ _ _ _ _ _ us hl => match us, hl with | [_], _ => rfl
theorem sc__law_text : FnScope ["_law_row", "_law_told", "_law_word", "_law_place", "_law_usual"] ["_law_row"] (defScope s__law_text) := ⟨rfl, rfl, rfl, by decide +kernel, rfl, by decide +kernel, by decide +kernel⟩
def g__law_text_b1 : Slots → M Out := (ifS (testE (binE (pu dNe) (binE ixM (bvarE 0) (bvarE 3)) (bvarE 4))) (appS 1 (binE addU (bvarE 2) (bltE (pu1 reprF) (consA (binE ixM (bvarE 0) (bvarE 3)) nilA)))) nilS)
def g__law_text : Slots → M Out := (seqS (asgL 1 (lenA (consA (bltE (pu1 reprF) (consA (binE ixM (bvarE 0) (cE (.int 0))) nilA)) (consA (bltE (pu1 strF) (consA (binE ixM (bvarE 0) (cE (.int 1))) nilA)) (consA (bltE (pu1 strF) (consA (binE ixM (bvarE 0) (cE (.int 2))) nilA)) nilA)))))
  (seqS (forS (itE (boxE (lenA (consA (tupE (consA (cE (.str "back=")) (consA (cE (.int 3)) (consA (cE .non) nilA)))) (consA (tupE (consA (cE (.str "mirror=")) (consA (cE (.int 4)) (consA (cE .non) nilA)))) (consA (tupE (consA (cE (.str "yarn=")) (consA (cE (.int 5)) (consA (cE (.int 1)) nilA)))) nilA)))))) (tgT [(tgN 2), (tgN 3), (tgN 4)]) g__law_text_b1)
  (retS (binE addU (binE addU (cE (.str "Kind(")) (joinE (cE (.str ", ")) (bvarE 1))) (cE (.str ")"))))))
def m__law_text : List D → M D := fnM 5 g__law_text
theorem ok__law_text (t : TX K mg) : FnG False P w K mg base (L2.CX P w) 1 (He.ga K "_law_text") (fdAt K (He.ga K "_law_text")) ["_law_row"] (spF K (tbOf cls_ tabs_ K) 1 m__law_text) :=
  fnD (st := s__law_text) (N := ["_law_row", "_law_told", "_law_word", "_law_place", "_law_usual"]) (ps := ["_law_row"]) (k := 0) (g := g__law_text) (u__law_text t) sc__law_text (by decide) fun cdv hcv A outer s H E p S hr =>
  (dss_cons (ds_asgL (i := 1) sc__law_text.nd (dl_lst (da_cons (de_blt cd_repr (t.free 45) bo_repr (dab_cons (db_of (de_ix (db_var 0) (db_of de_int))) dab_nil)) (da_cons (de_blt_ty cd_strI (t.free 8) bo_str (dab_cons (db_of (de_ix (db_var 0) (db_of de_int))) dab_nil)) (da_cons (de_blt_ty cd_strI (t.free 8) bo_str (dab_cons (db_of (de_ix (db_var 0) (db_of de_int))) dab_nil)) da_nil)))))
  (dss_cons (ds_for (passes_of rfl) rfl (di_val (de_box (dl_lst (da_cons (de_tup (da_cons de_str (da_cons de_int (da_cons de_non da_nil)))) (da_cons (de_tup (da_cons de_str (da_cons de_int (da_cons de_non da_nil)))) (da_cons (de_tup (da_cons de_str (da_cons de_int (da_cons de_int da_nil)))) da_nil)))))) (dg_tup rfl (dgs_cons (dg_name (vs := [2, 3, 4]) sc__law_text.nd (by decide)) (dgs_cons (dg_name (vs := [2, 3, 4]) sc__law_text.nd (by decide)) (dgs_cons (dg_name (vs := [2, 3, 4]) sc__law_text.nd (by decide)) dgs_nil)))) (dss_one (ds_if (dt_cmp (od_dNe hr.room) (db_of (de_ix (db_var 0) (db_var 3))) (db_var 4)) (dss_one (ds_app (i := 1) (de_op od_addU (db_var 2) (db_of (de_blt cd_repr (t.free 45) bo_repr (dab_cons (db_of (de_ix (db_var 0) (db_var 3))) dab_nil)))))) dss_nil)))
  (dss_one (ds_ret (de_op od_addU (db_of (de_op od_addU (db_of de_str) (db_of (de_join (db_of de_str) (db_var 1))))) (db_of de_str))))))
theorem b__law_is_kind (t : TX K mg) : Binds K (fdAt K (He.ga K "_law_is_kind")) ["_law_one", "_law_row"] [] := FunD.bindsN (u__law_is_kind t) fun _ _ _ _ _ _ us hl => match us, hl with | [_, _], _ => rfl
theorem sc__law_is_kind : FnScope ["_law_one", "_law_row", "_law_told"] ["_law_one", "_law_row"] (defScope s__law_is_kind) := ⟨rfl, rfl, rfl, by decide +kernel, rfl, by decide +kernel, by decide +kernel⟩
def g__law_is_kind : Slots → M Out := (seqS (asgS 2 (boxE (lenA (consA (getE 0 0 (varE 0)) (consA (getE 0 1 (varE 0)) (consA (getE 0 2 (varE 0)) (consA (getE 0 3 (varE 0)) (consA (getE 0 4 (varE 0)) (consA (getE 0 5 (varE 0)) nilA)))))))))
  (retS (andE (binE (pu dEq) (bltE (pu1 reprG) (consA (bvarE 2) nilA)) (bltE (pu1 reprG) (consA (bvarE 1) nilA))) (andE (binE (pu dEq) (bltE (txM 0 m_Kindzz_reprzz) (consA (bvarE 0) nilA)) (callE 1 m__law_text [] (consA (varE 1) nilA))) (isiE 1 (ansOf [] [true, false, false, false]) (bvarE 0))))))
def m__law_is_kind : List D → M D := fnM 3 g__law_is_kind
theorem ok__law_is_kind (t : TX K mg) : FnG True P w K mg base (L2.CX P w) 3 (He.ga K "_law_is_kind") (fdAt K (He.ga K "_law_is_kind")) ["_law_one", "_law_row"] (spF K (tbOf cls_ tabs_ K) 2 m__law_is_kind) :=
  fnD (st := s__law_is_kind) (N := ["_law_one", "_law_row", "_law_told"]) (ps := ["_law_one", "_law_row"]) (k := 2) (g := g__law_is_kind) (u__law_is_kind t) sc__law_is_kind (by decide) fun cdv hcv A outer s H E p S hr =>
  (dss_cons (ds_asg (i := 2) sc__law_is_kind.nd (de_box (dl_lst (da_cons (de_get (de_var 0) rfl (t.cls 36) (t.noat 35) nd_Kind rfl) (da_cons (de_get (de_var 0) rfl (t.cls 36) (t.noat 37) nd_Kind rfl) (da_cons (de_get (de_var 0) rfl (t.cls 36) (t.noat 38) nd_Kind rfl) (da_cons (de_get (de_var 0) rfl (t.cls 36) (t.noat 39) nd_Kind rfl) (da_cons (de_get (de_var 0) rfl (t.cls 36) (t.noat 40) nd_Kind rfl) (da_cons (de_get (de_var 0) rfl (t.cls 36) (t.noat 41) nd_Kind rfl) da_nil)))))))))
  (dss_one (ds_ret (de_and (de_cmp (od_dEq hr.room) (db_of (de_blt (cd_reprG hr) (t.free 45) bo_repr (dab_cons (db_var 2) dab_nil))) (db_of (de_blt (cd_reprG hr) (t.free 45) bo_repr (dab_cons (db_var 1) dab_nil)))) (de_and (de_cmp (od_dEq hr.room) (db_of (de_blt (cd_reprO rfl (t.meth 46).at_ (t.meth 46).fn (ok_Kindzz_reprzz t) (hr.lo (by decide)) (b_Kindzz_reprzz t) (takes_of rfl rfl rfl rfl)) (t.free 45) bo_repr (dab_cons (db_var 0) dab_nil))) (db_of (de_call (ok__law_text t) (hr.lo (by decide)) (takes_of rfl rfl rfl rfl) (t.glo 47) (u__law_text t).kp (b__law_text t) .nil cst_nil (da_cons (de_var 1) da_nil)))) (de_one (de_isi (hCs t) (db_var 0) (pe_gcl (t.glo 42)) (.own _) (t.isi (cs := cls_) (tf := tabs_) (u := fun K => .ref (He.ga K "Kind")) 48 rfl) (t.free 11) bo_isinstance)))))))
theorem b_Kindzz_eqzz (t : TX K mg) : Binds K (fdAt K (He.ma K (He.ga K "Kind") "__eq__")) ["self", "other"] [] := FunD.bindsN (u_Kindzz_eqzz t) fun _ _ _ _ _ _ us hl => match us, hl with | [_, _], _ => rfl
theorem sc_Kindzz_eqzz : FnScope ["self", "other"] ["self", "other"] (defScope s_Kindzz_eqzz) := ⟨rfl, rfl, rfl, by decide +kernel, rfl, by decide +kernel, by decide +kernel⟩
def g_Kindzz_eqzz : Slots → M Out := (seqS (ifS (orT (notT (testE (isiE 1 (ansOf [] [true, false, false, false]) (bvarE 1)))) (testE (binE (pu dNe) (getE 0 0 (varE 0)) (getE 0 0 (varE 1))))) (retS (cE (.bl false))) nilS)
  (seqS (ifS (testE (binE (pu dNe) (tupE (consA (getE 0 1 (varE 0)) (consA (getE 0 2 (varE 0)) (consA (getE 0 5 (varE 0)) nilA)))) (tupE (consA (getE 0 1 (varE 1)) (consA (getE 0 2 (varE 1)) (consA (getE 0 5 (varE 1)) nilA)))))) (retS (cE (.bl false))) nilS)
  (retS (andE (binE (pu dEq) (getE 0 3 (varE 0)) (getE 0 3 (varE 1))) (binE (pu dEq) (getE 0 4 (varE 0)) (getE 0 4 (varE 1)))))))
def m_Kindzz_eqzz : List D → M D := fnM 2 g_Kindzz_eqzz
theorem ok_Kindzz_eqzz (t : TX K mg) : FnG False P w K mg base (L2.CX P w) 1 (He.ma K (He.ga K "Kind") "__eq__") (fdAt K (He.ma K (He.ga K "Kind") "__eq__")) ["self", "other"] (spF K (tbOf cls_ tabs_ K) 2 m_Kindzz_eqzz) :=
  fnD (st := s_Kindzz_eqzz) (N := ["self", "other"]) (ps := ["self", "other"]) (k := 0) (g := g_Kindzz_eqzz) (u_Kindzz_eqzz t) sc_Kindzz_eqzz (by decide) fun cdv hcv A outer s H E p S hr =>
  (dss_cons (ds_if ((dw_or (dt_not (dt_val (de_isi (hCs t) (db_var 1) (pe_gcl (t.glo 42)) (.own _) (t.isi (cs := cls_) (tf := tabs_) (u := fun K => .ref (He.ga K "Kind")) 48 rfl) (t.free 11) bo_isinstance))) (dw_or1 (dt_cmp (od_dNe hr.room) (db_of (de_get (de_var 0) rfl (t.cls 36) (t.noat 35) nd_Kind rfl)) (db_of (de_get (de_var 1) rfl (t.cls 36) (t.noat 35) nd_Kind rfl)))))).pt (dss_one (ds_ret de_bl)) dss_nil)
  (dss_cons (ds_if (dt_cmp (od_dNe hr.room) (db_of (de_tup (da_cons (de_get (de_var 0) rfl (t.cls 36) (t.noat 37) nd_Kind rfl) (da_cons (de_get (de_var 0) rfl (t.cls 36) (t.noat 38) nd_Kind rfl) (da_cons (de_get (de_var 0) rfl (t.cls 36) (t.noat 41) nd_Kind rfl) da_nil))))) (db_of (de_tup (da_cons (de_get (de_var 1) rfl (t.cls 36) (t.noat 37) nd_Kind rfl) (da_cons (de_get (de_var 1) rfl (t.cls 36) (t.noat 38) nd_Kind rfl) (da_cons (de_get (de_var 1) rfl (t.cls 36) (t.noat 41) nd_Kind rfl) da_nil)))))) (dss_one (ds_ret de_bl)) dss_nil)
  (dss_one (ds_ret (de_and (de_cmp (od_dEq hr.room) (db_of (de_get (de_var 0) rfl (t.cls 36) (t.noat 39) nd_Kind rfl)) (db_of (de_get (de_var 1) rfl (t.cls 36) (t.noat 39) nd_Kind rfl))) (de_one (de_cmp (od_dEq hr.room) (db_of (de_get (de_var 0) rfl (t.cls 36) (t.noat 40) nd_Kind rfl)) (db_of (de_get (de_var 1) rfl (t.cls 36) (t.noat 40) nd_Kind rfl)))))))))
theorem b__law_others (t : TX K mg) : Binds K (fdAt K (He.ga K "_law_others")) ["_law_pot_here", "_law_row"] [] := FunD.bindsN (u__law_others t) fun _ _ _ _ _ _ us hl => match us, hl with | [_, _], _ => rfl
theorem sc__law_others : FnScope ["_law_pot_here", "_law_row", "_law_found", "_law_place", "_law_other", "_law_k", "_law_word"] ["_law_pot_here", "_law_row"] (defScope s__law_others) := ⟨rfl, rfl, rfl, by decide +kernel, rfl, by decide +kernel, by decide +kernel⟩
def g__law_others_b1 : Slots → M Out := (seqS (asgL 4 (bltE listF (consA (bvarE 1) nilA)))
  (seqS (ifS (testE (binE (pu inD) (bvarE 3) (boxE (lenA (consA (cE (.int 1)) (consA (cE (.int 2)) nilA)))))) (setS 4 (varE 3) (callE 2 m__law_pick [] (consA (varE 0) (consA (boxE (compE (itA rng2 (consA (cE (.int 1)) (consA (cE (.int 7)) nilA))) [5] (tgN 5) (testE (binE (pu dNe) (bvarE 5) (binE ixM (bvarE 1) (bvarE 3)))) (varE 5))) nilA)))) (ifS (testE (binE (pu dEq) (bvarE 3) (cE (.int 5)))) (setS 4 (varE 3) (callE 2 m__law_pick [] (consA (varE 0) (consA (boxE (compE (itE (boxE (lenA (consA (cE (.int 0)) (consA (cE (.int 1)) (consA (cE (.int 2)) (consA (cE (.int 999)) nilA))))))) [5] (tgN 5) (testE (binE (pu dNe) (bvarE 5) (binE ixM (bvarE 1) (bvarE 3)))) (varE 5))) nilA)))) (ifS (testE (binE (pu dEq) (bvarE 3) (cE (.int 0)))) (setS 4 (varE 3) (ifE (testE (binE (pu dNe) (binE ixM (bvarE 1) (bvarE 3)) (cE (.str "q")))) (cE (.str "q")) (cE (.str "qq")))) (setS 4 (varE 3) (callE 2 m__law_pick [] (consA (varE 0) (consA (boxE (compE (itE (boxE (lenA (consA (cE .non) (consA (cE (.str "q")) (consA (binE ixM (bvarE 1) (cE (.int 0))) nilA)))))) [6] (tgN 6) (testE (binE (pu dNe) (bvarE 6) (binE ixM (bvarE 1) (bvarE 3)))) (varE 6))) nilA)))))))
  (frzS 4 (appS 2 (varE 4)))))
def g__law_others : Slots → M Out := (seqS (asgL 2 (lenA nilA))
  (seqS (forS (itA rng1 (consA (cE (.int 6)) nilA)) (tgN 3) g__law_others_b1)
  (frzS 2 (retS (varE 2)))))
def m__law_others : List D → M D := fnM 7 g__law_others
theorem ok__law_others (t : TX K mg) : FnG False P w K mg base (L2.CX P w) 3 (He.ga K "_law_others") (fdAt K (He.ga K "_law_others")) ["_law_pot_here", "_law_row"] (spF K (tbOf cls_ tabs_ K) 2 m__law_others) :=
  fnD (st := s__law_others) (N := ["_law_pot_here", "_law_row", "_law_found", "_law_place", "_law_other", "_law_k", "_law_word"]) (ps := ["_law_pot_here", "_law_row"]) (k := 2) (g := g__law_others) (u__law_others t) sc__law_others (by decide) fun cdv hcv A outer s H E p S hr =>
  (dss_cons (ds_asgL (i := 2) sc__law_others.nd (dl_lst da_nil))
  (dss_cons (ds_for (passes_of rfl) rfl (di_range1 (dab_cons (db_of de_int) dab_nil) (t.free 5)) (dg_name (vs := [3]) sc__law_others.nd (by decide)) (dss_cons (ds_asgL (i := 4) sc__law_others.nd (dl_blt_ty cn_list (t.free 53) bo_list (dab_cons (db_var 1) dab_nil)))
  (dss_cons (ds_if (dt_cmp od_in (db_var 3) (db_of (de_box (dl_lst (da_cons de_int (da_cons de_int da_nil)))))) (dss_one (ds_set (i := 4) (de_call (ok__law_pick t) (hr.mono (by decide)) (takes_of rfl rfl rfl rfl) (t.glo 4) (u__law_pick t).kp (b__law_pick t) .nil cst_nil (da_cons (de_var 0) (da_cons (de_box (dl_lc rfl sc__law_others.nd (own := [(("_law_k" : Str), 5)]) (di_range2 (dab_cons (db_of de_int) (dab_cons (db_of de_int) dab_nil)) (t.free 5)) (blkOk_by (by kernel_rfl)) (fun l s H C cl fp => (dg_name (vs := [5]) sc__law_others.nd (by decide))) (fun l s H C cl fp => (dts_one (dt_cmp (od_dNe hr.room) (db_var 5) (db_of (de_ix (db_var 1) (db_var 3)))))) (fun l s H C cl fp => (de_var 5)))) da_nil))) (de_var 3))) (dss_one (ds_if (dt_cmp (od_dEq hr.room) (db_var 3) (db_of de_int)) (dss_one (ds_set (i := 4) (de_call (ok__law_pick t) (hr.mono (by decide)) (takes_of rfl rfl rfl rfl) (t.glo 4) (u__law_pick t).kp (b__law_pick t) .nil cst_nil (da_cons (de_var 0) (da_cons (de_box (dl_lc rfl sc__law_others.nd (own := [(("_law_k" : Str), 5)]) (di_val (de_box (dl_lst (da_cons de_int (da_cons de_int (da_cons de_int (da_cons de_int da_nil))))))) (blkOk_by (by kernel_rfl)) (fun l s H C cl fp => (dg_name (vs := [5]) sc__law_others.nd (by decide))) (fun l s H C cl fp => (dts_one (dt_cmp (od_dNe hr.room) (db_var 5) (db_of (de_ix (db_var 1) (db_var 3)))))) (fun l s H C cl fp => (de_var 5)))) da_nil))) (de_var 3))) (dss_one (ds_if (dt_cmp (od_dEq hr.room) (db_var 3) (db_of de_int)) (dss_one (ds_set (i := 4) (de_if (dt_cmp (od_dNe hr.room) (db_of (de_ix (db_var 1) (db_var 3))) (db_of de_str)) de_str de_str) (de_var 3))) (dss_one (ds_set (i := 4) (de_call (ok__law_pick t) (hr.mono (by decide)) (takes_of rfl rfl rfl rfl) (t.glo 4) (u__law_pick t).kp (b__law_pick t) .nil cst_nil (da_cons (de_var 0) (da_cons (de_box (dl_lc rfl sc__law_others.nd (own := [(("_law_word" : Str), 6)]) (di_val (de_box (dl_lst (da_cons de_non (da_cons de_str (da_cons (de_ix (db_var 1) (db_of de_int)) da_nil)))))) (blkOk_by (by kernel_rfl)) (fun l s H C cl fp => (dg_name (vs := [6]) sc__law_others.nd (by decide))) (fun l s H C cl fp => (dts_one (dt_cmp (od_dNe hr.room) (db_var 6) (db_of (de_ix (db_var 1) (db_var 3)))))) (fun l s H C cl fp => (de_var 6)))) da_nil))) (de_var 3))))))))
  (dss_one (ds_frz 4 (ds_app (i := 2) (de_var 4)))))))
  (dss_one (ds_frz 2 (ds_ret (de_var 2))))))
theorem b__law_wrong (t : TX K mg) : Binds K (fdAt K (He.ga K "_law_wrong")) ["_law_pot_here", "_law_place"] [] := FunD.bindsN (u__law_wrong t) fun _ _ _ _ _ _ us hl => match us, hl with | [_, _], _ => rfl
theorem sc__law_wrong : FnScope ["_law_pot_here", "_law_place", "_law_some"] ["_law_pot_here", "_law_place"] (defScope s__law_wrong) := ⟨rfl, rfl, rfl, by decide +kernel, rfl, by decide +kernel, by decide +kernel⟩
def g__law_wrong : Slots → M Out := (seqS (ifS (testE (binE (pu inD) (bvarE 1) (boxE (lenA (consA (cE (.int 0)) (consA (cE (.int 3)) (consA (cE (.int 4)) nilA))))))) (seqS (asgS 2 (boxE (lenA (consA (cE (.str "")) (consA (cE (.str "abcdefghi")) (consA (cE (.str "A")) (consA (cE (.str "k2")) (consA (cE (.str "k p")) (consA (cE (.str "k-")) (consA (cE (.int 0)) (consA (cE (.bl true)) (consA (boxE (lenA nilA)) (consA (tupE (consA (cE (.str "k")) nilA)) (consA (cE (.dct [])) (consA (cE (.str "kP")) nilA)))))))))))))))
  (retS (callE 2 m__law_pick [] (consA (varE 0) (consA (ifE (testE (binE (pu dEq) (bvarE 1) (cE (.int 0)))) (binE addU (bvarE 2) (boxE (lenA (consA (cE .non) nilA)))) (varE 2)) nilA))))) nilS)
  (retS (callE 2 m__law_pick [] (consA (varE 0) (consA (boxE (lenA (consA (cE .non) (consA (cE (.bl true)) (consA (cE (.bl false)) (consA (negE (cE (.int 1))) (consA (cE (.str "1")) (consA (boxE (lenA nilA)) (consA (tupE (consA (cE (.int 1)) nilA)) (consA (cE (.dct [])) (consA (binE (pu iPow) (cE (.int 10)) (cE (.int 20))) (consA (ifE (testE (binE (pu dEq) (bvarE 1) (cE (.int 5)))) (cE (.int 1000)) (cE (.int 7))) nilA)))))))))))) nilA)))))
def m__law_wrong : List D → M D := fnM 3 g__law_wrong
theorem ok__law_wrong (t : TX K mg) : FnG False P w K mg base (L2.CX P w) 3 (He.ga K "_law_wrong") (fdAt K (He.ga K "_law_wrong")) ["_law_pot_here", "_law_place"] (spF K (tbOf cls_ tabs_ K) 2 m__law_wrong) :=
  fnD (st := s__law_wrong) (N := ["_law_pot_here", "_law_place", "_law_some"]) (ps := ["_law_pot_here", "_law_place"]) (k := 2) (g := g__law_wrong) (u__law_wrong t) sc__law_wrong (by decide) fun cdv hcv A outer s H E p S hr =>
  (dss_cons (ds_if (dt_cmp od_in (db_var 1) (db_of (de_box (dl_lst (da_cons de_int (da_cons de_int (da_cons de_int da_nil))))))) (dss_cons (ds_asg (i := 2) sc__law_wrong.nd (de_box (dl_lst (da_cons de_str (da_cons de_str (da_cons de_str (da_cons de_str (da_cons de_str (da_cons de_str (da_cons de_int (da_cons de_bl (da_cons (de_box (dl_lst da_nil)) (da_cons (de_tup (da_cons de_str da_nil)) (da_cons de_dct0 (da_cons de_str da_nil)))))))))))))))
  (dss_one (ds_ret (de_call (ok__law_pick t) (hr.mono (by decide)) (takes_of rfl rfl rfl rfl) (t.glo 4) (u__law_pick t).kp (b__law_pick t) .nil cst_nil (da_cons (de_var 0) (da_cons (de_if (dt_cmp (od_dEq hr.room) (db_var 1) (db_of de_int)) (de_op od_addU (db_var 2) (db_of (de_box (dl_lst (da_cons de_non da_nil))))) (de_var 2)) da_nil)))))) dss_nil)
  (dss_one (ds_ret (de_call (ok__law_pick t) (hr.mono (by decide)) (takes_of rfl rfl rfl rfl) (t.glo 4) (u__law_pick t).kp (b__law_pick t) .nil cst_nil (da_cons (de_var 0) (da_cons (de_box (dl_lst (da_cons de_non (da_cons de_bl (da_cons de_bl (da_cons (de_neg de_int) (da_cons de_str (da_cons (de_box (dl_lst da_nil)) (da_cons (de_tup (da_cons de_int da_nil)) (da_cons de_dct0 (da_cons (de_op od_iPow (db_of de_int) (db_of de_int)) (da_cons (de_if (dt_cmp (od_dEq hr.room) (db_var 1) (db_of de_int)) de_int de_int) da_nil)))))))))))) da_nil))))))
theorem b__law_heard (t : TX K mg) : Binds K (fdAt K (He.ga K "_law_heard")) ["_law_call"] [] := FunD.bindsN (u__law_heard t) fun _ _ _ _ _ _ us hl => match us, hl with | [_], _ => rfl
theorem sc__law_heard : FnScope ["_law_call", "e"] ["_law_call"] (defScope s__law_heard) := ⟨rfl, rfl, rfl, by decide +kernel, rfl, by decide +kernel, by decide +kernel⟩
def g__law_heard (m : M D) : Slots → M Out := (tryS 2 (retS (tupE (consA (cE (.str "told")) (consA (bltE (txM 0 m_Kindzz_reprzz) (consA (actE m) nilA)) nilA)))) [⟨fun e => (([none, some true, some false, some false] : List (Option Bool))[e]?).join, 1, (retS (tupE (consA (cE (.str "name")) (consA (xfE 1 1 0) nilA))))⟩, ⟨fun e => (([none, some false, some true, some false] : List (Option Bool))[e]?).join, 1, (retS (tupE (consA (cE (.str "number")) (consA (xfE 1 2 0) nilA))))⟩, ⟨fun e => (([none, some false, some false, some true] : List (Option Bool))[e]?).join, 1, (retS (tupE (consA (cE (.str "kind")) (consA (xfE 1 3 0) nilA))))⟩])
def hm__law_heard : M D → M D := lamM 1 g__law_heard
theorem gv__law_heard {X : Cx} (t : TX X.K X.mg) (hr0 : Rm False (2 + 1) X.A) (cdv : Value) {q : Str} : LamX.GivesTo X ["_law_call", "e"] "_law_heard" (defScope s__law_heard) (He.ga X.K "_law_heard") cdv (defBody s__law_heard) "_law_call" q (TTd X.K (tbOf cls_ tabs_ X.K) hm__law_heard) := by
  have hr : ∀ env, Rm False 2 (X.A.deeper env) := fun env => hr0.deeper env
  exact gives_of (n := 1) (N := ["_law_call", "e"]) (g := g__law_heard) rfl (fun f c2 s H p S m act =>
  (dss_one (ds_try rfl sc__law_heard.nd takes0 (fun E1 pn xe tk1 po => (dss_one (ds_ret (de_tup (da_cons de_str (da_cons (de_blt (cd_reprO rfl (t.meth 46).at_ (t.meth 46).fn (ok_Kindzz_reprzz t) ((hr _).mono (by decide)) (b_Kindzz_reprzz t) tk1) (t.free 45) bo_repr (dab_cons (db_of (act E1 pn xe _ _ tk1)) dab_nil)) da_nil)))))) (.cons ⟨rfl, by decide, .inl (t.glo 19)⟩ rfl rfl (t.exm (cs := cls_) (tf := tabs_) (bs := [none, some true, some false, some false]) 58 rfl) (fun a oe cls d pn hz hf => (dss_one (ds_ret (de_tup (da_cons de_str (da_cons (de_xf (i := 1) (ec := 1) (j := 0) (t.xf 59) (t.noat 17) rfl hz hf) da_nil)))))) (.cons ⟨rfl, by decide, .inl (t.glo 30)⟩ rfl rfl (t.exm (cs := cls_) (tf := tabs_) (bs := [none, some false, some true, some false]) 60 rfl) (fun a oe cls d pn hz hf => (dss_one (ds_ret (de_tup (da_cons de_str (da_cons (de_xf (i := 1) (ec := 2) (j := 0) (t.xf 61) (t.noat 28) rfl hz hf) da_nil)))))) (.cons ⟨rfl, by decide, .inl (t.glo 34)⟩ rfl rfl (t.exm (cs := cls_) (tf := tabs_) (bs := [none, some false, some false, some true]) 62 rfl) (fun a oe cls d pn hz hf => (dss_one (ds_ret (de_tup (da_cons de_str (da_cons (de_xf (i := 1) (ec := 3) (j := 0) (t.xf 63) (t.noat 32) rfl hz hf) da_nil)))))) .nil))))))
theorem b__law_refusals_right (t : TX K mg) : Binds K (fdAt K (He.ga K "_law_refusals_right")) ["_law_pot_here", "_law_row"] [] := FunD.bindsN (u__law_refusals_right t) fun _ _ _ _ _ _ us hl => match us, hl with | [_, _], _ => rfl
theorem sc__law_refusals_right : FnScope ["_law_pot_here", "_law_row", "_law_order", "_law_at", "_law_place", "_law_bad", "_law_later", "_law_due", "_law_empty"] ["_law_pot_here", "_law_row"] (defScope s__law_refusals_right) := ⟨rfl, rfl, rfl, by decide +kernel, rfl, by decide +kernel, by decide +kernel⟩
def g__law_refusals_right_b1 : Slots → M Out := (ifS (testE (binE (pu dEq) (callE 2 m__law_draw [] (consA (varE 0) (consA (cE (.int 3)) nilA))) (cE (.int 0)))) (setS 5 (varE 6) (callE 2 m__law_wrong [] (consA (varE 0) (consA (varE 6) nilA)))) nilS)
def g__law_refusals_right_b2 : Slots → M Out := (seqS (asgL 5 (bltE listF (consA (bvarE 1) nilA)))
  (seqS (setS 5 (varE 4) (callE 2 m__law_wrong [] (consA (varE 0) (consA (varE 4) nilA))))
  (seqS (forS (itE (slE (bvarE 2) (soO (binE addU (bvarE 3) (cE (.int 1)))) noO)) (tgN 6) g__law_refusals_right_b1)
  (seqS (asgS 7 (tupE (consA (ifE (testE (binE (pu inD) (bvarE 4) (boxE (lenA (consA (cE (.int 0)) (consA (cE (.int 3)) (consA (cE (.int 4)) nilA))))))) (cE (.str "name")) (cE (.str "number"))) (consA (binE ixM (bvarE 5) (bvarE 4)) nilA))))
  (frzS 5 (ifS (testE (binE (pu dNe) (bltE (pu1 reprG) (consA (lamcE hm__law_heard (callE 1 m__law_kind [] (consA (varE 5) nilA))) nilA)) (bltE (pu1 reprG) (consA (bvarE 7) nilA)))) (retS (cE (.bl false))) nilS))))))
def g__law_refusals_right : Slots → M Out := (seqS (asgS 2 (boxE (lenA (consA (cE (.int 0)) (consA (cE (.int 3)) (consA (cE (.int 4)) (consA (cE (.int 1)) (consA (cE (.int 2)) (consA (cE (.int 5)) nilA)))))))))
  (seqS (forS (itA enumA (consA (varE 2) nilA)) (tgT [(tgN 3), (tgN 4)]) g__law_refusals_right_b2)
  (seqS (asgL 8 (bltE listF (consA (bvarE 1) nilA)))
  (seqS (set2S 8 1 2 (consA (cE (.int 0)) (consA (cE (.int 0)) nilA)))
  (frzS 8 (retS (binE (pu dEq) (bltE (pu1 reprG) (consA (lamcE hm__law_heard (callE 1 m__law_kind [] (consA (varE 8) nilA))) nilA)) (bltE (pu1 reprG) (consA (tupE (consA (cE (.str "kind")) (consA (binE ixM (bvarE 1) (cE (.int 0))) nilA))) nilA)))))))))
def m__law_refusals_right : List D → M D := fnM 9 g__law_refusals_right
theorem ok__law_refusals_right (t : TX K mg) (tB : TBs K mg base) : FnG True P w K mg base (L2.CX P w) 8 (He.ga K "_law_refusals_right") (fdAt K (He.ga K "_law_refusals_right")) ["_law_pot_here", "_law_row"] (spF K (tbOf cls_ tabs_ K) 2 m__law_refusals_right) :=
  fnD (st := s__law_refusals_right) (N := ["_law_pot_here", "_law_row", "_law_order", "_law_at", "_law_place", "_law_bad", "_law_later", "_law_due", "_law_empty"]) (ps := ["_law_pot_here", "_law_row"]) (k := 7) (g := g__law_refusals_right) (u__law_refusals_right t) sc__law_refusals_right (by decide) fun cdv hcv A outer s H E p S hr =>
  (dss_cons (ds_asg (i := 2) sc__law_refusals_right.nd (de_box (dl_lst (da_cons de_int (da_cons de_int (da_cons de_int (da_cons de_int (da_cons de_int (da_cons de_int da_nil)))))))))
  (dss_cons (ds_for (passes_of rfl) rfl (di_enum (da_cons (de_var 2) da_nil) (t.free 56)) (dg_tup rfl (dgs_cons (dg_name (vs := [3, 4]) sc__law_refusals_right.nd (by decide)) (dgs_cons (dg_name (vs := [3, 4]) sc__law_refusals_right.nd (by decide)) dgs_nil))) (dss_cons (ds_asgL (i := 5) sc__law_refusals_right.nd (dl_blt_ty cn_list (t.free 53) bo_list (dab_cons (db_var 1) dab_nil)))
  (dss_cons (ds_set (i := 5) (de_call (ok__law_wrong t) (hr.lo (by decide)) (takes_of rfl rfl rfl rfl) (t.glo 57) (u__law_wrong t).kp (b__law_wrong t) .nil cst_nil (da_cons (de_var 0) (da_cons (de_var 4) da_nil))) (de_var 4))
  (dss_cons (ds_for (passes_of rfl) rfl (di_val (de_slice (db_var 2) (do_some (db_of (de_op od_addU (db_var 3) (db_of de_int)))) do_none)) (dg_name (vs := [6]) sc__law_refusals_right.nd (by decide)) (dss_one (ds_if (dt_cmp (od_dEq hr.room) (db_of (de_call (ok__law_draw t) (hr.lo (by decide)) (takes_of rfl rfl rfl rfl) (t.glo 2) (u__law_draw t).kp (b__law_draw t) .nil cst_nil (da_cons (de_var 0) (da_cons de_int da_nil)))) (db_of de_int)) (dss_one (ds_set (i := 5) (de_call (ok__law_wrong t) (hr.lo (by decide)) (takes_of rfl rfl rfl rfl) (t.glo 57) (u__law_wrong t).kp (b__law_wrong t) .nil cst_nil (da_cons (de_var 0) (da_cons (de_var 6) da_nil))) (de_var 6))) dss_nil)))
  (dss_cons (ds_asg (i := 7) sc__law_refusals_right.nd (de_tup (da_cons (de_if (dt_cmp od_in (db_var 4) (db_of (de_box (dl_lst (da_cons de_int (da_cons de_int (da_cons de_int da_nil))))))) de_str de_str) (da_cons (de_ix (db_var 5) (db_var 4)) da_nil))))
  (dss_one (ds_frz 5 (ds_if (dt_cmp (od_dNe hr.room) (db_of (de_blt (cd_reprG hr) (t.free 45) bo_repr (dab_cons (db_of (de_lam (k := 5) rfl (t.glo 64) (u__law_heard t) (b__law_heard t) sc__law_heard (fun cdv2 => gv__law_heard t (hr.lo (by decide)) cdv2) (tB 0 _ rfl) (code_at (p := tdef_0) (u__law_refusals_right t) hcv) (mem_tab_0 (K := K)) (uni_tab_0 (K := K)) (hr.room.mono (by decide)) (fun _ _ _ _ _ => rfl) (fun A2 outer2 s2 H2 E2 f2 c2 hrl => (de_call (ok__law_kind t) ((Rm.of hrl).mono (by decide)) (takes_of rfl rfl rfl rfl) (t.glo 44) (u__law_kind t).kp (b__law_kind t) .nil cst_nil (da_cons (de_var 5) da_nil))))) dab_nil))) (db_of (de_blt (cd_reprG hr) (t.free 45) bo_repr (dab_cons (db_var 7) dab_nil)))) (dss_one (ds_ret de_bl)) dss_nil))))))))
  (dss_cons (ds_asgL (i := 8) sc__law_refusals_right.nd (dl_blt_ty cn_list (t.free 53) bo_list (dab_cons (db_var 1) dab_nil)))
  (dss_cons (ds_set2 (i := 8) rfl (da_cons de_int (da_cons de_int da_nil)))
  (dss_one (ds_frz 8 (ds_ret (de_cmp (od_dEq hr.room) (db_of (de_blt (cd_reprG hr) (t.free 45) bo_repr (dab_cons (db_of (de_lam (k := 5) rfl (t.glo 64) (u__law_heard t) (b__law_heard t) sc__law_heard (fun cdv2 => gv__law_heard t (hr.lo (by decide)) cdv2) (tB 0 _ rfl) (code_at (p := tdef_0) (u__law_refusals_right t) hcv) (mem_tab_0 (K := K)) (uni_tab_0 (K := K)) (hr.room.mono (by decide)) (fun _ _ _ _ _ => rfl) (fun A2 outer2 s2 H2 E2 f2 c2 hrl => (de_call (ok__law_kind t) ((Rm.of hrl).mono (by decide)) (takes_of rfl rfl rfl rfl) (t.glo 44) (u__law_kind t).kp (b__law_kind t) .nil cst_nil (da_cons (de_var 8) da_nil))))) dab_nil))) (db_of (de_blt (cd_reprG hr) (t.free 45) bo_repr (dab_cons (db_of (de_tup (da_cons de_str (da_cons (de_ix (db_var 1) (db_of de_int)) da_nil)))) dab_nil)))))))))))
theorem b__law_right (t : TX K mg) : Binds K (fdAt K (He.ga K "_law_right")) ["_law_pot_here"] [] := FunD.bindsN (u__law_right t) fun _ _ _ _ _ _ us hl => match us, hl with | [_], _ => rfl
theorem sc__law_right : FnScope ["_law_pot_here", "_law_row", "_law_one", "_law_twin", "_law_bare", "_law_other"] ["_law_pot_here"] (defScope s__law_right) := ⟨rfl, rfl, rfl, by decide +kernel, rfl, by decide +kernel, by decide +kernel⟩
def g__law_right_b1 : Slots → M Out := (ifS (orT (testE (binE (ownM 1 0 m_Kindzz_eqzz) (varE 2) (callE 1 m__law_kind [] (consA (varE 5) nilA)))) (notT (testE (binE (neM 1 0 m_Kindzz_eqzz) (varE 2) (callE 1 m__law_kind [] (consA (varE 5) nilA)))))) (retS (cE (.bl false))) nilS)
def g__law_right_b2 : Slots → M Out := (ifS (orT (testE (binE (ownM 1 0 m_Kindzz_eqzz) (varE 2) (varE 5))) (notT (testE (binE (neM 1 0 m_Kindzz_eqzz) (varE 2) (varE 5))))) (retS (cE (.bl false))) nilS)
def g__law_right : Slots → M Out := (seqS (asgS 1 (callE 1 m__law_fields [] (consA (varE 0) nilA)))
  (seqS (parS 2 3 (consA (callE 1 m__law_kind [] (consA (varE 1) nilA)) (consA (makeKE 0 7 0 6 m_Kindzz_initzz [(true, 5), (true, 4), (true, 3), (true, 2), (true, 1), (true, 0)] [] nilA (consA (binE ixM (bvarE 1) (cE (.int 5))) (consA (binE ixM (bvarE 1) (cE (.int 4))) (consA (binE ixM (bvarE 1) (cE (.int 3))) (consA (binE ixM (bvarE 1) (cE (.int 2))) (consA (binE ixM (bvarE 1) (cE (.int 1))) (consA (binE ixM (bvarE 1) (cE (.int 0))) nilA))))))) nilA)))
  (seqS (ifS (orT (notT (testE (callE 2 m__law_is_kind [] (consA (varE 2) (consA (varE 1) nilA))))) (orT (notT (testE (callE 2 m__law_is_kind [] (consA (varE 3) (consA (varE 1) nilA))))) (orT (testE (binE (neM 1 0 m_Kindzz_eqzz) (varE 2) (varE 3))) (notT (testE (binE (ownM 1 0 m_Kindzz_eqzz) (varE 2) (varE 3))))))) (retS (cE (.bl false))) nilS)
  (seqS (asgS 4 (boxE (lenA (consA (binE ixM (bvarE 1) (cE (.int 0))) (consA (binE ixM (bvarE 1) (cE (.int 1))) (consA (binE ixM (bvarE 1) (cE (.int 2))) (consA (cE .non) (consA (cE .non) (consA (cE (.int 1)) nilA)))))))))
  (seqS (ifS (orT (notT (testE (callE 2 m__law_is_kind [] (consA (makeE 0 7 m_Kindzz_initzz [.non, .non, .int 1] (consA (binE ixM (bvarE 1) (cE (.int 0))) (consA (binE ixM (bvarE 1) (cE (.int 1))) (consA (binE ixM (bvarE 1) (cE (.int 2))) nilA)))) (consA (varE 4) nilA))))) (testE (binE (neM 1 0 m_Kindzz_eqzz) (makeE 0 7 m_Kindzz_initzz [.non, .non, .int 1] (consA (binE ixM (bvarE 1) (cE (.int 0))) (consA (binE ixM (bvarE 1) (cE (.int 1))) (consA (binE ixM (bvarE 1) (cE (.int 2))) nilA)))) (callE 1 m__law_kind [] (consA (varE 4) nilA))))) (retS (cE (.bl false))) nilS)
  (seqS (forS (itE (callE 2 m__law_others [] (consA (varE 0) (consA (varE 1) nilA)))) (tgN 5) g__law_right_b1)
  (seqS (forS (itE (boxE (lenA (consA (cE .non) (consA (binE ixM (bvarE 1) (cE (.int 0))) (consA (bltE tupF (consA (bvarE 1) nilA)) (consA (varE 1) (consA (cE (.int 1)) (consA (bltE (txM 0 m_Kindzz_reprzz) (consA (bvarE 2) nilA)) nilA))))))))) (tgN 5) g__law_right_b2)
  (retS (andE (callE 2 m__law_refusals_right [] (consA (varE 0) (consA (varE 1) nilA))) (callE 2 m__law_is_kind [] (consA (varE 2) (consA (varE 1) nilA))))))))))))
def m__law_right : List D → M D := fnM 6 g__law_right
theorem ok__law_right (t : TX K mg) (tB : TBs K mg base) : FnG True P w K mg base (L2.CX P w) 9 (He.ga K "_law_right") (fdAt K (He.ga K "_law_right")) ["_law_pot_here"] (spF K (tbOf cls_ tabs_ K) 1 m__law_right) := by
  obtain ⟨mv_Kindzz_initzz_1_yarn_mirror_back_makes_takes_name, hk_Kindzz_initzz_1_yarn_mirror_back_makes_takes_name⟩ := kb_Kindzz_initzz_1_yarn_mirror_back_makes_takes_name t
  obtain ⟨ds_Kindzz_initzz_4, hd_Kindzz_initzz_4, hb_Kindzz_initzz_4⟩ := b_Kindzz_initzz_4 t
  exact fnD (st := s__law_right) (N := ["_law_pot_here", "_law_row", "_law_one", "_law_twin", "_law_bare", "_law_other"]) (ps := ["_law_pot_here"]) (k := 8) (g := g__law_right) (u__law_right t) sc__law_right (by decide) fun cdv hcv A outer s H E p S hr =>
  (dss_cons (ds_asg (i := 1) sc__law_right.nd (de_call (ok__law_fields t) (hr.lo (by decide)) (takes_of rfl rfl rfl rfl) (t.glo 7) (u__law_fields t).kp (b__law_fields t) .nil cst_nil (da_cons (de_var 0) da_nil)))
  (dss_cons (ds_par (i := 2) (j := 3) rfl sc__law_right.nd (da_cons (de_call (ok__law_kind t) (hr.lo (by decide)) (takes_of rfl rfl rfl rfl) (t.glo 44) (u__law_kind t).kp (b__law_kind t) .nil cst_nil (da_cons (de_var 1) da_nil)) (da_cons (de_makeK0 (t.mk_ 43) (ok_Kindzz_initzz t) (hr.lo (by decide)) (takes_of rfl rfl rfl rfl) (t.glo 42) rfl hk_Kindzz_initzz_1_yarn_mirror_back_makes_takes_name cst_nil (dk_cons (de_ix (db_var 1) (db_of de_int)) (dk_cons (de_ix (db_var 1) (db_of de_int)) (dk_cons (de_ix (db_var 1) (db_of de_int)) (dk_cons (de_ix (db_var 1) (db_of de_int)) (dk_cons (de_ix (db_var 1) (db_of de_int)) (dk_cons (de_ix (db_var 1) (db_of de_int)) dk_nil))))))) da_nil)))
  (dss_cons (ds_if ((dw_or (dt_not (dt_val (de_call (ok__law_is_kind t) (hr.mono (by decide)) (takes_of rfl rfl rfl rfl) (t.glo 49) (u__law_is_kind t).kp (b__law_is_kind t) .nil cst_nil (da_cons (de_var 2) (da_cons (de_var 1) da_nil))))) (dw_or (dt_not (dt_val (de_call (ok__law_is_kind t) (hr.mono (by decide)) (takes_of rfl rfl rfl rfl) (t.glo 49) (u__law_is_kind t).kp (b__law_is_kind t) .nil cst_nil (da_cons (de_var 3) (da_cons (de_var 1) da_nil))))) (dw_or (dt_cmpV (ov_ne (hCs t) rfl rfl ((t.cmpI (cs := cls_) (tf := tabs_) 52).less (by decide)) (t.ne 51).1 (t.ne 51).2 (t.meth 50).at_ (t.meth 50).fn (ok_Kindzz_eqzz t) (hr.lo (by decide)) (b_Kindzz_eqzz t) (takes_of rfl rfl rfl rfl)) (de_var 2) (de_var 3)) (dw_or1 (dt_not (dt_cmpV (ov_eq (hCs t) rfl rfl ((t.cmpI (cs := cls_) (tf := tabs_) 52).less (by decide)) (t.meth 50).at_ (t.meth 50).fn (ok_Kindzz_eqzz t) (hr.lo (by decide)) (b_Kindzz_eqzz t) (takes_of rfl rfl rfl rfl)) (de_var 2) (de_var 3)))))))).pt (dss_one (ds_ret de_bl)) dss_nil)
  (dss_cons (ds_asg (i := 4) sc__law_right.nd (de_box (dl_lst (da_cons (de_ix (db_var 1) (db_of de_int)) (da_cons (de_ix (db_var 1) (db_of de_int)) (da_cons (de_ix (db_var 1) (db_of de_int)) (da_cons de_non (da_cons de_non (da_cons de_int da_nil)))))))))
  (dss_cons (ds_if ((dw_or (dt_not (dt_val (de_call (ok__law_is_kind t) (hr.mono (by decide)) (takes_of rfl rfl rfl rfl) (t.glo 49) (u__law_is_kind t).kp (b__law_is_kind t) .nil cst_nil (da_cons (de_make (t.mk_ 43) (ok_Kindzz_initzz t) (hr.lo (by decide)) (takes_of rfl rfl rfl rfl) (t.glo 42) rfl hb_Kindzz_initzz_4 hd_Kindzz_initzz_4 (cst_non (cst_non (cst_int cst_nil))) (da_cons (de_ix (db_var 1) (db_of de_int)) (da_cons (de_ix (db_var 1) (db_of de_int)) (da_cons (de_ix (db_var 1) (db_of de_int)) da_nil)))) (da_cons (de_var 4) da_nil))))) (dw_or1 (dt_cmpV (ov_ne (hCs t) rfl rfl ((t.cmpI (cs := cls_) (tf := tabs_) 52).less (by decide)) (t.ne 51).1 (t.ne 51).2 (t.meth 50).at_ (t.meth 50).fn (ok_Kindzz_eqzz t) (hr.lo (by decide)) (b_Kindzz_eqzz t) (takes_of rfl rfl rfl rfl)) (de_make (t.mk_ 43) (ok_Kindzz_initzz t) (hr.lo (by decide)) (takes_of rfl rfl rfl rfl) (t.glo 42) rfl hb_Kindzz_initzz_4 hd_Kindzz_initzz_4 (cst_non (cst_non (cst_int cst_nil))) (da_cons (de_ix (db_var 1) (db_of de_int)) (da_cons (de_ix (db_var 1) (db_of de_int)) (da_cons (de_ix (db_var 1) (db_of de_int)) da_nil)))) (de_call (ok__law_kind t) (hr.lo (by decide)) (takes_of rfl rfl rfl rfl) (t.glo 44) (u__law_kind t).kp (b__law_kind t) .nil cst_nil (da_cons (de_var 4) da_nil)))))).pt (dss_one (ds_ret de_bl)) dss_nil)
  (dss_cons (ds_for (passes_of rfl) rfl (di_val (de_call (ok__law_others t) (hr.lo (by decide)) (takes_of rfl rfl rfl rfl) (t.glo 54) (u__law_others t).kp (b__law_others t) .nil cst_nil (da_cons (de_var 0) (da_cons (de_var 1) da_nil)))) (dg_name (vs := [5]) sc__law_right.nd (by decide)) (dss_one (ds_if ((dw_or (dt_cmpV (ov_eq (hCs t) rfl rfl ((t.cmpI (cs := cls_) (tf := tabs_) 52).less (by decide)) (t.meth 50).at_ (t.meth 50).fn (ok_Kindzz_eqzz t) (hr.lo (by decide)) (b_Kindzz_eqzz t) (takes_of rfl rfl rfl rfl)) (de_var 2) (de_call (ok__law_kind t) (hr.lo (by decide)) (takes_of rfl rfl rfl rfl) (t.glo 44) (u__law_kind t).kp (b__law_kind t) .nil cst_nil (da_cons (de_var 5) da_nil))) (dw_or1 (dt_not (dt_cmpV (ov_ne (hCs t) rfl rfl ((t.cmpI (cs := cls_) (tf := tabs_) 52).less (by decide)) (t.ne 51).1 (t.ne 51).2 (t.meth 50).at_ (t.meth 50).fn (ok_Kindzz_eqzz t) (hr.lo (by decide)) (b_Kindzz_eqzz t) (takes_of rfl rfl rfl rfl)) (de_var 2) (de_call (ok__law_kind t) (hr.lo (by decide)) (takes_of rfl rfl rfl rfl) (t.glo 44) (u__law_kind t).kp (b__law_kind t) .nil cst_nil (da_cons (de_var 5) da_nil))))))).pt (dss_one (ds_ret de_bl)) dss_nil)))
  (dss_cons (ds_for (passes_of rfl) rfl (di_val (de_box (dl_lst (da_cons de_non (da_cons (de_ix (db_var 1) (db_of de_int)) (da_cons (de_blt_ty cd_tuple (t.free 55) bo_tuple (dab_cons (db_var 1) dab_nil)) (da_cons (de_var 1) (da_cons de_int (da_cons (de_blt (cd_reprO rfl (t.meth 46).at_ (t.meth 46).fn (ok_Kindzz_reprzz t) (hr.lo (by decide)) (b_Kindzz_reprzz t) (takes_of rfl rfl rfl rfl)) (t.free 45) bo_repr (dab_cons (db_var 2) dab_nil)) da_nil))))))))) (dg_name (vs := [5]) sc__law_right.nd (by decide)) (dss_one (ds_if ((dw_or (dt_cmpV (ov_eq (hCs t) rfl rfl ((t.cmpI (cs := cls_) (tf := tabs_) 52).less (by decide)) (t.meth 50).at_ (t.meth 50).fn (ok_Kindzz_eqzz t) (hr.lo (by decide)) (b_Kindzz_eqzz t) (takes_of rfl rfl rfl rfl)) (de_var 2) (de_var 5)) (dw_or1 (dt_not (dt_cmpV (ov_ne (hCs t) rfl rfl ((t.cmpI (cs := cls_) (tf := tabs_) 52).less (by decide)) (t.ne 51).1 (t.ne 51).2 (t.meth 50).at_ (t.meth 50).fn (ok_Kindzz_eqzz t) (hr.lo (by decide)) (b_Kindzz_eqzz t) (takes_of rfl rfl rfl rfl)) (de_var 2) (de_var 5)))))).pt (dss_one (ds_ret de_bl)) dss_nil)))
  (dss_one (ds_ret (de_and (de_call (ok__law_refusals_right t tB) (hr.mono (by decide)) (takes_of rfl rfl rfl rfl) (t.glo 65) (u__law_refusals_right t).kp (b__law_refusals_right t) .nil cst_nil (da_cons (de_var 0) (da_cons (de_var 1) da_nil))) (de_one (de_call (ok__law_is_kind t) (hr.mono (by decide)) (takes_of rfl rfl rfl rfl) (t.glo 49) (u__law_is_kind t).kp (b__law_is_kind t) .nil cst_nil (da_cons (de_var 2) (da_cons (de_var 1) da_nil))))))))))))))
end
end LW

set_option Elab.async false
set_option linter.all false
set_option maxRecDepth 100000
set_option maxHeartbeats 4000000
namespace LW
open PySem L2 DF
section
variable {P : Program} {w : World} {K : PySem.W.Frag} {mg : Str → Option Value} {base : Heap}
theorem sc__law_pot : FnScope ["_law_script", "_law_k", "_law_cell"] ["_law_script", "_law_k"] (defScope s__law_pot) := ⟨rfl, rfl, rfl, by decide +kernel, rfl, by decide +kernel, by decide +kernel⟩
theorem b__law_pot (t : TX K mg) : Binds K (fdAt K (He.ga K "_law_pot")) ["_law_script", "_law_k"] [] := FunD.bindsN (u__law_pot t) fun _ _ _ _ _ _ us hl => match us, hl with | [_, _], _ => rfl
theorem ok__law_pot (t : TX K mg) (fL : mg "len" = none) (fM : mg "max" = none) (fA : mg "abs" = none) (fI : mg "int" = none) : FnOk P w K mg base (L2.CX P w) 1 (He.ga K "_law_pot") (fdAt K (He.ga K "_law_pot")) ["_law_script", "_law_k"] (spPot K) := by
  refine (u__law_pot t).ok (k := 0) sc__law_pot (fun vs H Q E h => ?_) (fun cdv A outer s H vs Q E hr h => ?_)
  · obtain ⟨a, ns, k, rfl, _⟩ := h
    rfl
  · obtain ⟨a, ns, k, rfl, hS, h0, h1, q⟩ := h
    refine ⟨_, pss_cons (ps_set (i := 2) sc__law_pot.nd rfl (Or.inl rfl) (pe_ifExp (pt_cmpR op_lt (pv 1) (pe_callB call_len rfl fL bo_len (pa_cons (pv 0) pa_nil)) (nomark _)) (pe_ix ix_list (pv 0) (pv 1) (by intro _ _; rfl)) (pe_op op_mulW pe_int (pv 1))))
      (pss_one (ps_ret (pe_lst (pa_cons (pe_callB (call_max2 rfl) rfl fM bo_max (pa_cons pe_int (pa_cons (pe_op op_sub (pe_callB call_abs rfl fA bo_abs (pa_cons (pv 2) pa_nil)) (pe_op op_pow pe_int pe_int)) pa_nil)))
        (pa_cons (pe_op op_add (pe_op op_mod (pe_cty call_int1 fI bo_int (pa_cons (pe_op op_add (pe_op op_add (pe_op op_mulW (pe_op op_mod (pe_cty call_int1 fI bo_int (pa_cons (pe_callB call_abs rfl fA bo_abs (pa_cons (pv 2) pa_nil)) pa_nil)) pe_int) pe_int) (pe_op op_mulW pe_int (pv 1))) pe_int) pa_nil)) pe_int) pe_int) pa_nil))))), ?_⟩
    refine cell_read hS h0 h1 rfl rfl fun c => ?_
    have p1 : (0 : Int) ≤ absI c % 2147483563 := Int.emod_nonneg _ (by decide)
    have p2 : absI c % 2147483563 < 2147483563 := Int.emod_lt_of_pos _ (by decide)
    refine ⟨_, rfl, c, rfl, 10, 18, rfl, rfl, ⟨by decide, by decide, by decide⟩, _, _, rfl, rfl, 0, _, rfl, ?_⟩
    refine ⟨_, rfl, c, rfl, .inl ⟨_, rfl, _, _, rfl, rfl, (show (0 : Int) < 2147483563 by decide), _, _, rfl, rfl, small_mul p1 (by decide) (by omega) (by decide), _, rfl, _, _, rfl, rfl, small_mul (by decide) h0 (by decide) (by omega), _, _, rfl, rfl, _, _, rfl, rfl, .inl ⟨_, rfl, _, _, rfl, rfl, (show (0 : Int) < 2147483629 by decide), _, _, rfl, rfl, ?_⟩⟩⟩
    exact ⟨(show 2 ≤ sizeLine by decide), fun l hl => q _ (pot_ok c k h0 h1) l hl⟩
theorem sc_law : FnScope ["_law_script", "_law_k", "_law_pot_here", "_law_turn"] ["_law_script"] (defScope s_law) := ⟨rfl, rfl, rfl, by decide +kernel, rfl, by decide +kernel, by decide +kernel⟩
def g_law : Slots → M Out := forS (itA rng1 (consA (cE (.int 4)) nilA)) (tgN 3) (ifS (notT (testE (callE 1 m__law_right [] (consA (varE 2) nilA)))) (retS (cE (.bl false))) nilS)
/-- a def that tells True of every pot, and leaves a pot -/
def Good (m : List D → M D) : Prop := ∀ pt, Pt pt → ∃ pt', m [.pot] pt = .ok (.bl true) pt' ∧ Pt pt'
theorem g_law_ok (hm : Good m__law_right) (v : V) {pt : Pot} (hp : Pt pt) (x : Option SV) : ∃ ρ' pt', g_law [some (.raw v), x, some (.val .pot), none] pt = .ok (.nx (some (.raw v) :: ρ')) pt' ∧ ρ'.length = 3 := by
  obtain ⟨p1, e1, h1⟩ := hm pt hp
  obtain ⟨p2, e2, h2⟩ := hm p1 h1
  obtain ⟨p3, e3, h3⟩ := hm p2 h2
  obtain ⟨p4, e4, h4⟩ := hm p3 h3
  refine ⟨[x, some (.val .pot), some (.val (.int 3))], p4, ?_, rfl⟩
  have items : rng1 [.int 4] = some [.int 0, .int 1, .int 2, .int 3] := by rfl
  unfold g_law
  simp [items, e1, e2, e3, e4]
theorem ps_ex {ι : Type} {X : Cx} {st : Stmt} {t : ι → TS} (h : ∀ i, PS X st (t i)) : PS X st (fun E σ H => ∃ i, t i E σ H) := ⟨fun pins s σ H Q I ⟨i, q⟩ => (h i).run pins s σ H Q I q⟩
theorem ok_law (hm : Good m__law_right) (t : TX K mg) (tB : TBs K mg base) (fL : mg "len" = none) (fM : mg "max" = none) (fN : mg "min" = none) (fA : mg "abs" = none) (fI : mg "int" = none) (fR : mg "range" = none) (gP : mg "_law_pot" = some (.ref (He.ga K "_law_pot"))) (gR : mg "_law_right" = some (.ref (He.ga K "_law_right"))) :
    FnG True P w K mg base (L2.CX P w) 11 (He.ga K "law") (fdAt K (He.ga K "law")) ["_law_script"] (spLaw K (tbOf cls_ tabs_ K)) := by
  refine fn_okG (k := 10) (u_law t) sc_law (fun vs H Q E h => ?_) (fun cdv hcv A outer s H vs Q E hr h => ?_)
  · obtain ⟨a, ns, rfl, _⟩ := h
    rfl
  · obtain ⟨a, ns, rfl, hS, hlen, hT, q⟩ := h
    refine ⟨_, pss_cons (ps_for (passes_of rfl) rfl (pi_range1 rfl fR (pa_cons (pe_callB (call_max2 rfl) rfl fM bo_max (pa_cons pe_int (pa_cons (pe_callB (call_min2 rfl) rfl fN bo_min (pa_cons pe_int (pa_cons (pe_callB call_len rfl fL bo_len (pa_cons (pv 0) pa_nil)) pa_nil))) pa_nil))) pa_nil)) (pg_name (i := 1) sc_law.nd rfl (Or.inl rfl) (.inr rfl))
      (pss_cons (ps_set (i := 2) sc_law.nd rfl (Or.inl rfl) (pe_callA (E := WE W0) (fnOk_g (gu := True) (ok__law_pot t fL fM fA fI)) (hr.mono (by decide)) rfl gP (u__law_pot t).kp (b__law_pot t) .nil (passAt takes0) (pa_cons (pv 0) (pa_cons (pv 1) pa_nil)))) (pss_one (ps_ex (ι := Addr × Hp) (t := fun i => dS ⟨K, tbOf cls_ tabs_ K, i.1, [i.1], i.2, 0, x0⟩ W0 g_law) fun i =>
        ds_for (passes_of rfl) rfl (di_range1 (dab_cons (db_of de_int) dab_nil) fR) (dg_name (vs := [3]) sc_law.nd (by decide)) (dss_one (ds_if (dt_not (dt_val (de_call (ok__law_right t tB) (hr.mono (by decide)) takes0 gR (u__law_right t).kp (b__law_right t) .nil cst_nil (da_cons (de_var 2) da_nil)))) (dss_one (ds_ret de_bl)) dss_nil)))))) (pss_one (ps_ret pe_bl)), ?_⟩
    have cap := cap_ok (m := if ((ns.map V.int).length : Int) < 6 then ((ns.map V.int).length : Int) else 6) (by split <;> omega)
    refine ⟨_, rfl, _, _, rfl, .inl ⟨_, hS, rfl⟩, _, _, rfl, 1, _, rfl, _, rfl, cap.1, cap.2.1, ?_⟩
    refine for_range (lo := 0) (Pv := fun i σ' H' => σ'.length = 4 ∧ σ'[0]? = some (some (.ref a)) ∧ (∀ b o, H b = some o → nt o = true → H' b = some o) ∧ LamX.Tabs (tbOf cls_ tabs_ K).tb H') ⟨rfl, rfl, fun b o e _ => e, hT⟩ (fun i σ' H' hi ⟨l4, e0, g, gT⟩ => ?_) fun σ' H' _ => q H'
    obtain ⟨y0, y1, y2, y3, rfl⟩ : ∃ y0 y1 y2 y3, σ' = [y0, y1, y2, y3] := match σ', l4 with | [y0, y1, y2, y3], _ => ⟨y0, y1, y2, y3, rfl⟩
    simp only [List.getElem?_cons_zero, Option.some.injEq] at e0
    subst e0
    have i100 : i < 100 := Nat.lt_trans hi cap.2.2
    refine ⟨.ref a, rfl, .int (0 + (i : Int)), rfl, a, ns, 0 + (i : Int), rfl, sql_nt g hS, by omega, by omega, fun pt hp l hl => ?_⟩
    have gl : ∀ b o, H' b = some o → upd H' l (potO pt) b = some o := fun b o e => by rw [upd_ne (ne_of_none e hl)]; exact e
    obtain ⟨ρ', pt', eg, lg⟩ := g_law_ok hm (.ref a) hp.pt none
    have rs : RS ⟨K, tbOf cls_ tabs_ K, l, [l], upd H' l (potO pt), 0, x0⟩ [] [some (.raw (.ref a)), none, some (.val .pot), none] [some (.ref a), some (.int (0 + (i : Int))), some (.ref l), y3] (upd H' l (potO pt)) pt := by
      refine ⟨⟨upd_same, gT.ext gl⟩, fun _ _ _ e _ => e, List.mem_singleton.mpr rfl, fun b hb => ⟨potO pt, by rw [List.mem_singleton.mp hb]; exact upd_same, rfl⟩, fun _ z => (nomatch z), .nil, .nil, rfl, fun _ z => (nomatch z), fun j s hj => ?_⟩
      match j, hj with
      | 0, hj => cases hj; rfl
      | 1, hj => cases hj
      | 2, hj => cases hj; exact ⟨_, rfl, by simp [Cy.R, R]⟩
      | 3, hj => cases hj
      | j + 4, hj => simp at hj
    refine ⟨(l, upd H' l (potO pt)), [], [some (.raw (.ref a)), none, some (.val .pot), none], pt, rs, ?_⟩
    rw [eg]
    intro O' σ2 H2 rs2 _
    refine ⟨by rw [← rs2.len, List.length_cons, lg], rs2.sl 0 _ rfl, fun b o e n => ?_, rs2.pot.tab⟩
    have bl : b ≠ l := ne_of_none (g b o e n) hl
    exact rs2.ext b o bl (gl b o (g b o e n)) n
end
end LW

set_option Elab.async false
set_option linter.all false
set_option maxRecDepth 100000
set_option maxHeartbeats 4000000
namespace LW
open PySem L2 DF
theorem draw1 {pt : Pot} {n : Int} (h : Pt pt) (h0 : 0 < n) (h1 : n < 1073741824) : ∃ z q, m__law_draw [.pot, .int n] pt = .ok (.int z) q ∧ 0 ≤ z ∧ z < n ∧ Pt q := by
  obtain ⟨a, b, c⟩ := h
  unfold m__law_draw g__law_draw
  rw [e_fnM]
  by_cases hp : 0 < pt.1
  · refine ⟨pt.1 % n, (pt.1 / n, pt.2), ?_, Int.emod_nonneg _ (by omega), Int.emod_lt_of_pos _ h0, Int.ediv_nonneg a (Int.le_of_lt h0), b, c⟩
    simp [ini, hp, dmF, h0, h1, potS2, two, isPot, setP]
  · have hq0 : 0 ≤ (pt.2 * 44203 + 15511) % 2147483587 := Int.emod_nonneg _ (by decide)
    have hq1 : (pt.2 * 44203 + 15511) % 2147483587 < 2147483587 := Int.emod_lt_of_pos _ (by decide)
    have b1 : Bd 32 pt.2 := by unfold Bd; omega
    have b2 : Bd 16 44203 := by unfold Bd; decide
    have b3 : Bd 32 ((pt.2 * 44203 + 15511) % 2147483587) := by unfold Bd; omega
    have k1 := b1.ok b2 (by decide) (by decide) (by decide)
    have k2 := b3.ok b3 (by decide) (by decide) (by decide)
    refine ⟨((pt.2 * 44203 + 15511) % 2147483587 * ((pt.2 * 44203 + 15511) % 2147483587) % 2147483549 / 11) % n, (pt.1, (pt.2 * 44203 + 15511) % 2147483587), ?_, Int.emod_nonneg _ (by omega), Int.emod_lt_of_pos _ h0, a, hq0, by show _ < (4294967296 : Int); omega⟩
    generalize hq : (pt.2 * 44203 + 15511) % 2147483587 = q at *
    simp [ini, hp, potS, isPot, setP, intOf, intF, k1, k2, h0, hq]
theorem at_in {α : Type} {ds : List α} {z : Int} (h0 : 0 ≤ z) (h1 : z < ds.length) : ∃ d, atI ds z = some d ∧ d ∈ ds := by
  have hn : z.toNat < ds.length := by omega
  refine ⟨ds[z.toNat], ?_, List.getElem_mem hn⟩
  unfold atI ixN
  rw [if_pos h0, if_pos h1, Option.bind_some, List.getElem?_eq_getElem hn]
theorem pick1 {pt : Pot} (h : Pt pt) (ds : List D) (h0 : 0 < ds.length) (h1 : ds.length < 1000000) : ∃ d q, m__law_pick [.pot, .lst ds] pt = .ok d q ∧ d ∈ ds ∧ Pt q := by
  obtain ⟨z, q, e, z0, z1, hq⟩ := draw1 (n := (ds.length : Int)) h (by omega) (by omega)
  obtain ⟨d, ed, hd⟩ := at_in z0 z1
  refine ⟨d, q, ?_, hd, hq⟩
  unfold m__law_pick g__law_pick
  rw [e_fnM]
  simp [ini, lenF, e, ed]
abbrev abc : Str := "abcdefghijklmnopqrstuvwxyz"
theorem abc_cps : abc.cps.toList = [97, 98, 99, 100, 101, 102, 103, 104, 105, 106, 107, 108, 109, 110, 111, 112, 113, 114, 115, 116, 117, 118, 119, 120, 121, 122] := by decide +kernel
theorem abc_len : abc.length = 26 := by decide +kernel
theorem pickS {pt : Pot} (h : Pt pt) : ∃ n q, m__law_pick [.pot, .str "abcdefghijklmnopqrstuvwxyz"] pt = .ok (.str ⟨#[n]⟩) q ∧ (97 ≤ n ∧ n ≤ 122) ∧ Pt q := by
  obtain ⟨z, q, e, z0, z1, hq⟩ := draw1 (n := 26) h (by decide) (by decide)
  obtain ⟨d, ed, hd⟩ := at_in (ds := abc.cps.toList) z0 (by rw [abc_cps]; exact z1)
  refine ⟨d, q, ?_, ?_, hq⟩
  · unfold m__law_pick g__law_pick
    rw [e_fnM]
    simp [ini, lenF, abc_len, e, ed]
  · rw [abc_cps] at hd
    simp at hd
    omega
/-- a label -/
structure Lab (y : Str) : Prop where
  lo : 1 ≤ y.length
  hi : y.length ≤ 8
  ch : ∀ c ∈ y.cps.toList, 97 ≤ c ∧ c ≤ 122
end LW

set_option Elab.async false
set_option linter.all false
set_option maxRecDepth 100000
set_option maxHeartbeats 4000000
namespace LW
open PySem L2 DF
theorem lab_comp (x : Option SV) : ∀ (L acc : List D) (pt : Pot), Pt pt → acc.length + L.length ≤ 1000 → ∃ (ns : List Nat) (q : Pot), ns.length = L.length ∧ (∀ n ∈ ns, 97 ≤ n ∧ n ≤ 122) ∧ Pt q ∧
    compL (tgN 2) yesT (callE 2 m__law_pick [] (consA (varE 0) (consA (cE (.str "abcdefghijklmnopqrstuvwxyz")) nilA))) [some (.val .pot), x, none] L acc pt = .ok (acc ++ ns.map fun n => .str ⟨#[n]⟩) q
  | [], acc, pt, h, _ => ⟨[], pt, rfl, by simp, h, by simp⟩
  | d :: L, acc, pt, h, hl => by
    obtain ⟨n, p1, e1, hn, h1⟩ := pickS h
    simp only [List.length_cons] at hl
    obtain ⟨ns, q, l1, hns, hq, e2⟩ := lab_comp x L (acc ++ [.str ⟨#[n]⟩]) p1 h1 (by simp; omega)
    refine ⟨n :: ns, q, by simp [l1], ?_, hq, ?_⟩
    · intro m hm
      rcases List.mem_cons.mp hm with rfl | hm
      · exact hn
      · exact hns m hm
    · have hlt : acc.length < 100000 := by omega
      rw [e_compL]
      simp [e1, hlt, e2]
theorem join1 : ∀ ns : List Nat, TL.joinL [] (ns.map fun n => [n]) = ns
  | [] => rfl
  | [n] => rfl
  | n :: m :: ns => by
    have ih := join1 (m :: ns)
    show [n] ++ ([] ++ TL.joinL [] ((m :: ns).map fun n => [n])) = _
    rw [ih]
    rfl
theorem join_nil (ns : List Nat) : Txt.join "" (ns.map fun n => (⟨#[n]⟩ : Str)) = ⟨ns.toArray⟩ := by
  have h := SX.join_S [] (ns.map fun n => [n])
  rw [join1] at h
  have e1 : (SX.S [] : Str) = "" := by decide +kernel
  rw [e1] at h
  have e2 : (ns.map fun n => [n]).map SX.S = ns.map fun n => (⟨#[n]⟩ : Str) := by
    rw [List.map_map]
    rfl
  rw [e2] at h
  exact h
theorem strs_of (ns : List Nat) : strsOf (ns.map fun n => D.str ⟨#[n]⟩) = some (ns.map fun n => (⟨#[n]⟩ : Str)) := by
  induction ns with
  | nil => rfl
  | cons n ns ih => simp [strsOf, ih]
theorem sum_one : ∀ ns : List Nat, ((ns.map fun n => (⟨#[n]⟩ : Str)).map (·.length)).sum = ns.length
  | [] => rfl
  | n :: ns => by
    have := sum_one ns
    simp only [List.map_cons, List.sum_cons, this, List.length_cons]
    have e : (⟨#[n]⟩ : Str).length = 1 := rfl
    omega
theorem join_chars (ns : List Nat) (h : ns.length ≤ 1000) : joinF "" (.lst (ns.map fun n => D.str ⟨#[n]⟩)) = some (.str ⟨ns.toArray⟩) := by
  have e0 : (("" : String) : Str).length = 0 := by decide +kernel
  have e1 : seqOf [.lst (ns.map fun n => D.str ⟨#[n]⟩)] = some (ns.map fun n => D.str ⟨#[n]⟩) := rfl
  unfold joinF
  rw [e1, Option.bind_some, strs_of, Option.bind_some, sum_one, join_nil, e0, if_pos (by omega)]
theorem rng_nat (k : Nat) (h : k < 1000) : rng1 [.int (k : Int)] = some ((List.range k).map fun (j : Nat) => .int (0 + (j : Int))) := by
  unfold rng1
  dsimp only
  rw [if_pos (by constructor <;> omega), Int.toNat_natCast]
theorem it_rng {p1 : Pot} {k : Nat} {L : List D} (eL : rng1 [.int (k : Int)] = some L) : itA rng1 (consA (bvarE 1) nilA) [some (.val .pot), some (.val (.int k)), none] p1 = .ok L p1 := by
  have e : consA (bvarE 1) nilA [some (.val .pot), some (.val (.int k)), none] p1 = .ok [.int k] p1 := by simp
  rw [e_itA, e, e_bndok, eL, e_some]
theorem lab_end {p1 q : Pot} {ns : List Nat} {f : Slots → M (List D)} {ρ : Slots} (e : f ρ p1 = .ok (ns.map fun n => .str ⟨#[n]⟩) q) (hj : joinF "" (.lst (ns.map fun n => D.str ⟨#[n]⟩)) = some (.str ⟨ns.toArray⟩)) : retS (joinE (cE (.str "")) (boxE f)) ρ p1 = .ok (.rt (.str ⟨ns.toArray⟩)) q := by
  simp [e, hj]
theorem lab_own {k : Nat} : noOwn [some (.val .pot), some (.val (.int k)), none] [2] = true := by
  simp [noOwn]
theorem label1 {pt : Pot} (h : Pt pt) : ∃ y q, m__law_label [.pot] pt = .ok (.str y) q ∧ Lab y ∧ Pt q := by
  obtain ⟨d, p1, e1, hd, h1⟩ := pick1 h [.int 1, .int 1, .int 2, .int 4, .int 8] (by decide) (by decide)
  have hz : ∃ k : Nat, d = .int k ∧ 1 ≤ k ∧ k ≤ 8 := by
    simp at hd
    rcases hd with rfl | rfl | rfl | rfl
    · exact ⟨1, rfl, by decide, by decide⟩
    · exact ⟨2, rfl, by decide, by decide⟩
    · exact ⟨4, rfl, by decide, by decide⟩
    · exact ⟨8, rfl, by decide, by decide⟩
  obtain ⟨k, rfl, k1, k8⟩ := hz
  have hr : ∃ L, rng1 [.int (k : Int)] = some L ∧ L.length = k := ⟨_, rng_nat k (by omega), by simp⟩
  obtain ⟨L, eL, lL⟩ := hr
  obtain ⟨ns, q, l1, hns, hq, e2⟩ := lab_comp (some (.val (.int k))) L [] p1 h1 (by simp; omega)
  refine ⟨⟨ns.toArray⟩, q, ?_, ⟨?_, ?_, ?_⟩, hq⟩
  · have hj := join_chars ns (by omega)
    have s1 : asgS 1 (callE 2 m__law_pick [] (consA (varE 0) (consA (boxE (lenA (consA (cE (.int 1)) (consA (cE (.int 1)) (consA (cE (.int 2)) (consA (cE (.int 4)) (consA (cE (.int 8)) nilA))))))) nilA))) [some (.val .pot), none, none] pt = .ok (.nx [some (.val .pot), some (.val (.int k)), none]) p1 := by
      simp [e1]
    have s2 : retS (joinE (cE (.str "")) (boxE (compE (itA rng1 (consA (bvarE 1) nilA)) [2] (tgN 2) yesT (callE 2 m__law_pick [] (consA (varE 0) (consA (cE (.str "abcdefghijklmnopqrstuvwxyz")) nilA)))))) [some (.val .pot), some (.val (.int k)), none] p1 = .ok (.rt (.str ⟨ns.toArray⟩)) q := by
      refine lab_end ?_ hj
      rw [e_comp, it_rng eL, e_bndok, if_pos lab_own]
      exact e2
    unfold m__law_label g__law_label
    rw [e_fnM]
    show bndR (seqS _ _ [some (.val .pot), none, none] pt) finK = _
    rw [e_seqS, s1, e_bndok, e_seqK, s2, e_bndok, e_finr]
  · show 1 ≤ ns.toArray.size
    simp; omega
  · show ns.toArray.size ≤ 8
    simp; omega
  · intro c hc
    exact hns c (by simpa using hc)
end LW

set_option Elab.async false
set_option linter.all false
set_option maxRecDepth 100000
set_option maxHeartbeats 4000000
namespace LW
open PySem L2 DF
def Opt (d : D) : Prop := d = .non ∨ ∃ y, d = .str y ∧ Lab y
structure Row (nm : Str) (tk mk : Int) (bk mi : D) (yn : Int) : Prop where
  nm_ : Lab nm
  tk_ : 0 ≤ tk ∧ tk ≤ 6
  mk_ : 0 ≤ mk ∧ mk ≤ 6
  nz : ¬ (tk = 0 ∧ mk = 0)
  bk_ : Opt bk
  mi_ : Opt mi
  yn_ : 0 ≤ yn ∧ yn ≤ 999
abbrev rowD (nm : Str) (tk mk : Int) (bk mi : D) (yn : Int) : List D := [.str nm, .int tk, .int mk, bk, mi, .int yn]
theorem pickO {pt : Pot} (h : Pt pt) {a b : Str} (ha : Lab a) (hb : Lab b) : ∃ d q, m__law_pick [.pot, .lst [.non, .str a, .str b]] pt = .ok d q ∧ Opt d ∧ Pt q := by
  obtain ⟨d, q, e, hd, hq⟩ := pick1 h [.non, .str a, .str b] (by simp) (by simp)
  refine ⟨d, q, e, ?_, hq⟩
  simp at hd
  rcases hd with rfl | rfl | rfl
  · exact .inl rfl
  · exact .inr ⟨a, rfl, ha⟩
  · exact .inr ⟨b, rfl, hb⟩
theorem fields1 {pt : Pot} (h : Pt pt) : ∃ nm tk mk bk mi yn q, m__law_fields [.pot] pt = .ok (.lst (rowD nm tk mk bk mi yn)) q ∧ Row nm tk mk bk mi yn ∧ Pt q := by
  obtain ⟨nm, p1, e1, ln, h1⟩ := label1 h
  obtain ⟨a, p2, e2, a0, a1, h2⟩ := draw1 (n := 7) h1 (by decide) (by decide)
  obtain ⟨b, p3, e3, b0, b1, h3⟩ := draw1 (n := 7) h2 (by decide) (by decide)
  obtain ⟨y1, p4, e4, l4, h4⟩ := label1 h3
  obtain ⟨bk, p5, e5, o5, h5⟩ := pickO h4 ln l4
  obtain ⟨y2, p6, e6, l6, h6⟩ := label1 h5
  obtain ⟨mi, p7, e7, o7, h7⟩ := pickO h6 ln l6
  obtain ⟨yd, p8, e8, hy, h8⟩ := pick1 h7 [.int 0, .int 1, .int 1, .int 2, .int 10, .int 999] (by simp) (by simp)
  obtain ⟨yn, rfl, y0, y1'⟩ : ∃ yn : Int, yd = .int yn ∧ 0 ≤ yn ∧ yn ≤ 999 := by
    simp at hy
    rcases hy with rfl | rfl | rfl | rfl | rfl
    · exact ⟨0, rfl, by decide, by decide⟩
    · exact ⟨1, rfl, by decide, by decide⟩
    · exact ⟨2, rfl, by decide, by decide⟩
    · exact ⟨10, rfl, by decide, by decide⟩
    · exact ⟨999, rfl, by decide, by decide⟩
  by_cases hz : a = 0 ∧ b = 0
  · obtain ⟨rfl, rfl⟩ := hz
    obtain ⟨v, p9, e9, v0, v1, h9⟩ := draw1 (n := 6) h8 (by decide) (by decide)
    obtain ⟨i, p10, e10, i0, i1, h10⟩ := draw1 (n := 2) h9 (by decide) (by decide)
    have hi : i = 0 ∨ i = 1 := by omega
    rcases hi with rfl | rfl
    · refine ⟨nm, 1 + v, 0, bk, mi, yn, p10, ?_, ⟨ln, ⟨by omega, by omega⟩, ⟨by omega, by omega⟩, by omega, o5, o7, ⟨y0, y1'⟩⟩, h10⟩
      unfold m__law_fields g__law_fields
      rw [e_fnM]
      simp [ini, e1, e2, e3, e4, e5, e6, e7, e8, e9, e10, e_lCat, setL, ixN, frz1]
    · refine ⟨nm, 0, 1 + v, bk, mi, yn, p10, ?_, ⟨ln, ⟨by omega, by omega⟩, ⟨by omega, by omega⟩, by omega, o5, o7, ⟨y0, y1'⟩⟩, h10⟩
      unfold m__law_fields g__law_fields
      rw [e_fnM]
      simp [ini, e1, e2, e3, e4, e5, e6, e7, e8, e9, e10, e_lCat, setL, ixN, frz1]
  · refine ⟨nm, a, b, bk, mi, yn, p8, ?_, ⟨ln, ⟨by omega, by omega⟩, ⟨by omega, by omega⟩, hz, o5, o7, ⟨y0, y1'⟩⟩, h8⟩
    unfold m__law_fields g__law_fields
    rw [e_fnM]
    by_cases ha : a = 0
    · have hb : ¬ b = 0 := fun e => hz ⟨ha, e⟩
      simp [ini, e1, e2, e3, e4, e5, e6, e7, e8, e_lCat, ha, hb, frz1]
    · simp [ini, e1, e2, e3, e4, e5, e6, e7, e8, e_lCat, ha, frz1]
end LW

set_option Elab.async false
set_option linter.all false
set_option maxRecDepth 100000
set_option maxHeartbeats 4000000
namespace LW
open PySem L2 DF
def pl : D → Bool
  | .str y => decide (y.length ≤ 1000000)
  | .non | .bl _ | .int _ | .tup _ | .lst _ | .dct _ => true
  | _ => false
def letB (n : Nat) : Bool := decide (n ∈ abc.cps.toList)
def nmB (y : Str) : Bool := decide (1 ≤ (y.length : Int)) && (decide ((y.length : Int) ≤ 8) && y.cps.toList.all letB)
def isNm : D → Bool
  | .str y => nmB y
  | _ => false
theorem bls_map (l : List Nat) (p : Nat → Bool) : blsOf (l.map fun n => D.bl (p n)) = some (l.map p) := by
  induction l with
  | nil => rfl
  | cons n l ih => simp [blsOf, ih]
theorem all_chars (y : Str) : allF [.lst ((chars y).map fun d => (inD d (.str "abcdefghijklmnopqrstuvwxyz")).getD .non)] = some (.bl (y.cps.toList.all letB)) := by
  have e : (chars y).map (fun d => (inD d (.str "abcdefghijklmnopqrstuvwxyz")).getD .non) = y.cps.toList.map fun n => D.bl (letB n) := by
    unfold chars
    rw [List.map_map]
    rfl
  rw [e]
  unfold allF
  show (blsOf (y.cps.toList.map fun n => D.bl (letB n))).map _ = _
  rw [bls_map]
  simp
theorem comp_name {pt : Pot} (y : Str) (h : y.length ≤ 8) : compL (tgN 1) yesT (binE (pu inD) (bvarE 1) (cE (.str "abcdefghijklmnopqrstuvwxyz"))) [some (.val (.str y)), none] (chars y) [] pt = .ok ((chars y).map fun d => (inD d (.str "abcdefghijklmnopqrstuvwxyz")).getD .non) pt := by
  have hl : (chars y).length = y.length := by
    unfold chars
    rw [List.length_map]
    rfl
  have := comp_pure (pt := pt) (ρ := [some (.val (.str y)), none]) (i := 1) (t := yesT) (f := binE (pu inD) (bvarE 1) (cE (.str "abcdefghijklmnopqrstuvwxyz"))) (p := fun _ => true) (F := fun d => (inD d (.str "abcdefghijklmnopqrstuvwxyz")).getD .non) (show 1 < 2 by decide) (chars y) [] (fun d hd => ?_) (by simp [hl]; omega)
  · rw [this]
    have hf : (chars y).filter (fun _ => true) = chars y := List.filter_eq_self.mpr fun _ _ => rfl
    rw [hf]
    rfl
  · refine ⟨rfl, ?_⟩
    unfold chars at hd
    obtain ⟨n, hn, rfl⟩ := List.mem_map.mp hd
    rfl
theorem v_name {pt : Pot} (d : D) (h : pl d = true) : m_is_name [d] pt = .ok (.bl (isNm d)) pt := by
  cases d with
  | str y =>
    have hy : y.length ≤ 1000000 := of_decide_eq_true h
    unfold m_is_name g_is_name
    rw [e_fnM]
    by_cases h1 : 1 ≤ (y.length : Int)
    · by_cases h8 : (y.length : Int) ≤ 8
      · have hc := comp_name (pt := pt) y (by omega)
        have ha := all_chars y
        have hb : isNm (.str y) = y.cps.toList.all letB := by
          show (decide _ && (decide _ && _)) = _
          rw [decide_eq_true h1, decide_eq_true h8]
          rfl
        rw [hb]
        simp [ini, lenF, hy, h1, h8, noOwn, hc, ha]
      · have hb : isNm (.str y) = false := by
          show (decide _ && (decide _ && _)) = _
          rw [decide_eq_false h8]
          simp
        rw [hb]
        simp [ini, lenF, hy, h1, h8]
    · have hb : isNm (.str y) = false := by
        show (decide _ && (decide _ && _)) = _
        rw [decide_eq_false h1]
        rfl
      rw [hb]
      simp [ini, lenF, hy, h1]
  | non => unfold m_is_name g_is_name; rw [e_fnM]; simp [ini, isNm]
  | bl b => unfold m_is_name g_is_name; rw [e_fnM]; simp [ini, isNm]
  | int b => unfold m_is_name g_is_name; rw [e_fnM]; simp [ini, isNm]
  | tup b => unfold m_is_name g_is_name; rw [e_fnM]; simp [ini, isNm]
  | lst b => unfold m_is_name g_is_name; rw [e_fnM]; simp [ini, isNm]
  | dct b => unfold m_is_name g_is_name; rw [e_fnM]; simp [ini, isNm]
  | _ => cases h
def isW (d : D) (hi : Int) : Bool := match d with
  | .int i => decide (0 ≤ i) && decide (i ≤ hi)
  | _ => false
theorem v_within {pt : Pot} (d : D) (hi : Int) (h : pl d = true) : m_is_within [d, .int 0, .int hi] pt = .ok (.bl (isW d hi)) pt := by
  cases d with
  | int i =>
    unfold m_is_within g_is_within m_is_integer g_is_integer
    rw [e_fnM]
    by_cases h0 : 0 ≤ i <;> simp [ini, isW, e_fnM, h0]
  | non => unfold m_is_within g_is_within m_is_integer g_is_integer; rw [e_fnM]; simp [ini, isW, e_fnM]
  | bl b => unfold m_is_within g_is_within m_is_integer g_is_integer; rw [e_fnM]; simp [ini, isW, e_fnM]
  | str b => unfold m_is_within g_is_within m_is_integer g_is_integer; rw [e_fnM]; simp [ini, isW, e_fnM]
  | tup b => unfold m_is_within g_is_within m_is_integer g_is_integer; rw [e_fnM]; simp [ini, isW, e_fnM]
  | lst b => unfold m_is_within g_is_within m_is_integer g_is_integer; rw [e_fnM]; simp [ini, isW, e_fnM]
  | dct b => unfold m_is_within g_is_within m_is_integer g_is_integer; rw [e_fnM]; simp [ini, isW, e_fnM]
  | _ => cases h
end LW

set_option Elab.async false
set_option linter.all false
set_option maxRecDepth 100000
set_option maxHeartbeats 4000000
namespace LW
open PySem L2 DF
theorem notN_non (d : D) : notN d .non = some (.bl (!isNon d)) := by cases d <;> rfl
def oB (d : D) : Bool := !isNon d && !isNm d
def isZ : D → Bool
  | .int i => decide (i = 0)
  | _ => false
def kR (nm tk mk bk mi yn : D) (pt : Pot) : Res (List D) :=
  if isNm nm = false then .exc 1 [nm] pt else if oB bk = true then .exc 1 [bk] pt else if oB mi = true then .exc 1 [mi] pt else
  if isW tk 6 = false then .exc 2 [tk] pt else if isW mk 6 = false then .exc 2 [mk] pt else if isW yn 999 = false then .exc 2 [yn] pt else
  if (isZ tk && isZ mk) = true then .exc 3 [nm] pt else .ok [nm, tk, mk, bk, mi, yn] pt
theorem b1_ok {pt : Pot} {ρ : Slots} {d : D} (hd : pl d = true) (h : ρ[7]? = some (some (.val d))) : g_Kindzz_initzz_b1 ρ pt = if oB d = true then .exc 1 [d] pt else .ok (.nx ρ) pt := by
  unfold g_Kindzz_initzz_b1 oB
  cases h1 : isNon d <;> cases h2 : isNm d <;> simp [h, notN_non, h1, h2, v_name d hd]
theorem b2_ok {pt : Pot} {ρ : Slots} {d : D} {hi : Int} (hd : pl d = true) (h : ρ[7]? = some (some (.val d))) (h8 : ρ[8]? = some (some (.val (.int hi)))) : g_Kindzz_initzz_b2 ρ pt = if isW d hi = false then .exc 2 [d] pt else .ok (.nx ρ) pt := by
  unfold g_Kindzz_initzz_b2
  cases h2 : isW d hi <;> simp [h, h8, h2, v_within d hi hd]
theorem w_int {d : D} {hi : Int} (h : isW d hi = true) : ∃ i, d = .int i ∧ 0 ≤ i ∧ i ≤ hi := by
  unfold isW at h
  split at h
  · rename_i i
    rw [Bool.and_eq_true] at h
    exact ⟨i, rfl, of_decide_eq_true h.1, of_decide_eq_true h.2⟩
  · cases h
section
variable {pt : Pot} {nm tk mk bk mi yn : D} {s : SV}
theorem s2_ok (hb : pl bk = true) (hm : pl mi = true) (x8 : Option SV) : forS (itE (tupE (consA (varE 4) (consA (varE 5) nilA)))) (tgN 7) g_Kindzz_initzz_b1 [some s, some (.val nm), some (.val tk), some (.val mk), some (.val bk), some (.val mi), some (.val yn), none, x8] pt =
    if oB bk = true then .exc 1 [bk] pt else if oB mi = true then .exc 1 [mi] pt else .ok (.nx [some s, some (.val nm), some (.val tk), some (.val mk), some (.val bk), some (.val mi), some (.val yn), some (.val mi), x8]) pt := by
  have k1 := fun (ρ : Slots) (h : ρ[7]? = some (some (.val bk))) => b1_ok (pt := pt) hb h
  have k2 := fun (ρ : Slots) (h : ρ[7]? = some (some (.val mi))) => b1_ok (pt := pt) hm h
  by_cases h1 : oB bk = true
  · simp [k1, h1]
  · by_cases h2 : oB mi = true
    · simp [k1, k2, h1, h2]
    · simp [k1, k2, h1, h2]
theorem s3_ok (ht : pl tk = true) (hm : pl mk = true) (hy : pl yn = true) (x7 : Option SV) : forS (itE (tupE (consA (tupE (consA (varE 2) (consA (cE (.int 6)) nilA))) (consA (tupE (consA (varE 3) (consA (cE (.int 6)) nilA))) (consA (tupE (consA (varE 6) (consA (cE (.int 999)) nilA))) nilA))))) (tgT [(tgN 7), (tgN 8)]) g_Kindzz_initzz_b2 [some s, some (.val nm), some (.val tk), some (.val mk), some (.val bk), some (.val mi), some (.val yn), x7, none] pt =
    if isW tk 6 = false then .exc 2 [tk] pt else if isW mk 6 = false then .exc 2 [mk] pt else if isW yn 999 = false then .exc 2 [yn] pt else .ok (.nx [some s, some (.val nm), some (.val tk), some (.val mk), some (.val bk), some (.val mi), some (.val yn), some (.val yn), some (.val (.int 999))]) pt := by
  have k1 := fun (ρ : Slots) (h : ρ[7]? = some (some (.val tk))) (h8 : ρ[8]? = some (some (.val (.int 6)))) => b2_ok (pt := pt) ht h h8
  have k2 := fun (ρ : Slots) (h : ρ[7]? = some (some (.val mk))) (h8 : ρ[8]? = some (some (.val (.int 6)))) => b2_ok (pt := pt) hm h h8
  have k3 := fun (ρ : Slots) (h : ρ[7]? = some (some (.val yn))) (h8 : ρ[8]? = some (some (.val (.int 999)))) => b2_ok (pt := pt) hy h h8
  by_cases h1 : isW tk 6 = false
  · simp [k1, h1]
  · by_cases h2 : isW mk 6 = false
    · simp [k1, k2, h1, h2]
    · by_cases h3 : isW yn 999 = false
      · simp [k1, k2, k3, h1, h2, h3]
      · simp [k1, k2, k3, h1, h2, h3]
theorem v_init (hn : pl nm = true) (ht : pl tk = true) (hm : pl mk = true) (hb : pl bk = true) (hi : pl mi = true) (hy : pl yn = true) : m_Kindzz_initzz [nm, tk, mk, bk, mi, yn] pt = kR nm tk mk bk mi yn pt := by
  unfold m_Kindzz_initzz g_Kindzz_initzz kR
  rw [e_iniM]
  by_cases h1 : isNm nm = false
  · simp [ini, v_name nm hn, h1]
  · have e2 := s2_ok (pt := pt) (nm := nm) (tk := tk) (mk := mk) (yn := yn) (s := .slf 0 []) hb hi none
    by_cases h2 : oB bk = true
    · rw [if_pos h2] at e2
      simp only [ini] at *
      simp [v_name nm hn, h1, h2, e2, -e_forS]
    · by_cases h3 : oB mi = true
      · rw [if_neg h2, if_pos h3] at e2
        simp [ini, v_name nm hn, h1, h2, h3, e2, -e_forS]
      · rw [if_neg h2, if_neg h3] at e2
        have e3 := s3_ok (pt := pt) (nm := nm) (bk := bk) (mi := mi) (s := .slf 0 []) ht hm hy (some (.val mi))
        by_cases h4 : isW tk 6 = false
        · rw [if_pos h4] at e3
          simp [ini, v_name nm hn, h1, h2, h3, h4, e2, e3, -e_forS]
        · by_cases h5 : isW mk 6 = false
          · rw [if_neg h4, if_pos h5] at e3
            simp [ini, v_name nm hn, h1, h2, h3, h4, h5, e2, e3, -e_forS]
          · by_cases h6 : isW yn 999 = false
            · rw [if_neg h4, if_neg h5, if_pos h6] at e3
              simp [ini, v_name nm hn, h1, h2, h3, h4, h5, h6, e2, e3, -e_forS]
            · rw [if_neg h4, if_neg h5, if_neg h6] at e3
              obtain ⟨t, rfl, _⟩ := w_int (by simpa using h4)
              obtain ⟨m, rfl, _⟩ := w_int (by simpa using h5)
              by_cases z1 : t = 0
              · subst z1
                by_cases z2 : m = 0
                · subst z2
                  simp [ini, v_name nm hn, h1, h2, h3, h4, h5, h6, e2, e3, -e_forS, isZ]
                · simp [ini, v_name nm hn, h1, h2, h3, h4, h5, h6, e2, e3, -e_forS, isZ, z2]
              · simp [ini, v_name nm hn, h1, h2, h3, h4, h5, h6, e2, e3, -e_forS, isZ, z1]
end
end LW

set_option Elab.async false
set_option linter.all false
set_option maxRecDepth 100000
set_option maxHeartbeats 4000000
namespace LW
open PySem L2 DF
@[simp] theorem e_at3 (a b c d : D) (ds : List D) : atI (a :: b :: c :: d :: ds) 3 = some d := by
  unfold atI ixN
  rw [if_pos (by decide), if_pos (by simp only [List.length_cons]; omega)]
  rfl
@[simp] theorem e_at4 (a b c d e : D) (ds : List D) : atI (a :: b :: c :: d :: e :: ds) 4 = some e := by
  unfold atI ixN
  rw [if_pos (by decide), if_pos (by simp only [List.length_cons]; omega)]
  rfl
@[simp] theorem e_at5 (a b c d e f : D) (ds : List D) : atI (a :: b :: c :: d :: e :: f :: ds) 5 = some f := by
  unfold atI ixN
  rw [if_pos (by decide), if_pos (by simp only [List.length_cons]; omega)]
  rfl
theorem lab_nm {y : Str} (h : Lab y) : nmB y = true := by
  unfold nmB
  rw [decide_eq_true (by have := h.lo; omega), decide_eq_true (by have := h.hi; omega)]
  simp only [Bool.true_and]
  rw [List.all_eq_true]
  intro c hc
  refine decide_eq_true ?_
  have := h.ch c hc
  rw [abc_cps]
  simp
  omega
theorem lab_pl {y : Str} (h : Lab y) : pl (.str y) = true := decide_eq_true (by have := h.hi; omega)
theorem opt_pl {d : D} (h : Opt d) : pl d = true := by
  rcases h with rfl | ⟨y, rfl, h⟩
  · rfl
  · exact lab_pl h
theorem opt_ok {d : D} (h : Opt d) : oB d = false := by
  rcases h with rfl | ⟨y, rfl, h⟩
  · rfl
  · show (!false && !nmB y) = false
    rw [lab_nm h]
    rfl
section
variable {pt : Pot} {nm : Str} {tk mk yn : Int} {bk mi : D}
theorem row_kR (r : Row nm tk mk bk mi yn) : kR (.str nm) (.int tk) (.int mk) bk mi (.int yn) pt = .ok (rowD nm tk mk bk mi yn) pt := by
  unfold kR
  have h1 : isNm (.str nm) = true := lab_nm r.nm_
  have h4 : isW (.int tk) 6 = true := by unfold isW; simp [r.tk_.1, r.tk_.2]
  have h5 : isW (.int mk) 6 = true := by unfold isW; simp [r.mk_.1, r.mk_.2]
  have h6 : isW (.int yn) 999 = true := by unfold isW; simp [r.yn_.1, r.yn_.2]
  have h7 : (isZ (.int tk) && isZ (.int mk)) = false := by
    have := r.nz
    unfold isZ
    by_cases z : tk = 0
    · simp [z]; intro z2; exact this ⟨z, z2⟩
    · simp [z]
  rw [h1, opt_ok r.bk_, opt_ok r.mi_, h4, h5, h6, h7]
  simp
theorem v_kind {a b c d e f : D} (ha : pl a = true) (hb : pl b = true) (hc : pl c = true) (hd : pl d = true) (he : pl e = true) (hf : pl f = true) : m__law_kind [.lst [a, b, c, d, e, f]] pt = bndR (kR a b c d e f pt) fun fs => DF.ret (.obj 0 fs) := by
  have hi := v_init (pt := pt) ha hb hc hd he hf
  unfold m__law_kind g__law_kind
  rw [e_fnM]
  simp [ini, pick, hi]
  cases kR a b c d e f pt <;> simp
theorem row_kind (r : Row nm tk mk bk mi yn) : m__law_kind [.lst (rowD nm tk mk bk mi yn)] pt = .ok (.obj 0 (rowD nm tk mk bk mi yn)) pt := by
  rw [v_kind (lab_pl r.nm_) rfl rfl (opt_pl r.bk_) (opt_pl r.mi_) rfl, row_kR r]
  rfl
end
/-! ### texts -/
theorem joinL_len (a : List Nat) : ∀ m : List (List Nat), (TL.joinL a m).length ≤ (m.map (·.length)).sum + m.length * a.length
  | [] => by simp [TL.joinL]
  | [x] => by simp [TL.joinL]
  | x :: y :: m => by
    have ih := joinL_len a (y :: m)
    show (x ++ (a ++ TL.joinL a (y :: m))).length ≤ _
    rw [List.length_append, List.length_append]
    simp only [List.map_cons, List.sum_cons, List.length_cons] at ih ⊢
    rw [Nat.add_mul (m.length + 1)]
    omega
theorem join_len (sep : Str) : ∀ l : List Str, (Txt.join sep l).length ≤ (l.map (·.length)).sum + l.length * sep.length := by
  intro l
  have hS : ∀ x : Str, SX.S x.cps.toList = x := SX.S_tl
  have e1 : l = (l.map fun x => x.cps.toList).map SX.S := by
    rw [List.map_map]
    exact (List.map_id' l).symm.trans (List.map_congr_left fun x _ => (hS x).symm)
  have e2 : Txt.join sep l = SX.S (TL.joinL sep.cps.toList (l.map fun x => x.cps.toList)) := by
    rw [← SX.join_S, hS, ← e1]
  rw [e2, SX.S_len]
  have k := joinL_len sep.cps.toList (l.map fun x => x.cps.toList)
  rw [List.map_map, List.length_map] at k
  exact k
def Sm (y : Str) : Prop := y.length ≤ 2000
theorem lab_rp {y : Str} (h : Lab y) : Sm (reprText y) := by
  have := StrLaws.reprText_len y fun c hc => by have := h.ch c hc; omega
  have := h.hi
  unfold Sm
  omega
theorem small_log {i : Int} (h0 : 0 ≤ i) (h1 : i ≤ 999) : Log i := (show Bd 10 i by unfold Bd; omega).lg (by decide) (by decide)
theorem tx_sm {i : Int} (h0 : 0 ≤ i) (h1 : i ≤ 999) : Sm (tx i) := by
  have := tx_len (small_log h0 h1)
  unfold Sm
  omega
theorem strs_map (l : List Str) : strsOf (l.map D.str) = some l := by
  induction l with
  | nil => rfl
  | cons n ns ih => simp [strsOf, ih]
theorem sum_sm : ∀ l : List Str, (∀ t ∈ l, t.length ≤ 3000) → (l.map (·.length)).sum ≤ l.length * 3000
  | [], _ => by simp
  | x :: l, h => by
    have := sum_sm l fun t ht => h t (List.mem_cons_of_mem _ ht)
    have := h x List.mem_cons_self
    simp only [List.map_cons, List.sum_cons, List.length_cons]
    omega
theorem sep_len : ((", " : String) : Str).length = 2 := by decide +kernel
theorem join_ok (l : List Str) (hl : l.length ≤ 10) (h : ∀ t ∈ l, t.length ≤ 3000) : joinF ", " (.lst (l.map D.str)) = some (.str (Txt.join ", " l)) ∧ (Txt.join ", " l).length ≤ 40000 := by
  have k := sum_sm l h
  have j := join_len ", " l
  rw [sep_len] at j
  refine ⟨?_, by omega⟩
  have e1 : seqOf [.lst (l.map D.str)] = some (l.map D.str) := rfl
  unfold joinF
  rw [e1, Option.bind_some, strs_map, Option.bind_some, sep_len, if_pos (by omega)]
def kText (l : List Str) : Str := ("Kind(" : Str) ++ Txt.join ", " l ++ ")"
end LW

set_option Elab.async false
set_option linter.all false
set_option maxRecDepth 100000
set_option maxHeartbeats 4000000
namespace LW
open PySem L2 DF
def rp : D → Str
  | .str y => reprText y
  | _ => Str.empty
def add (w : Str) (d : D) : List Str := if isNon d then [] else [w ++ rp d]
def addY (w : Str) (i : Int) : List Str := if i = 1 then [] else [w ++ tx i]
def told (nm : Str) (tk mk : Int) (bk mi : D) (yn : Int) : List Str := [reprText nm, tx tk, tx mk] ++ add "back=" bk ++ add "mirror=" mi ++ addY "yarn=" yn
section
variable {pt : Pot} {nm : Str} {tk mk yn : Int} {bk mi : D} {ρ : Slots}
theorem rF {y : Str} (h : Sm (reprText y)) : reprF [.str y] = some (.str (reprText y)) := by
  show (if (reprText y).length ≤ 1000000 then _ else _) = _
  rw [if_pos (by unfold Sm at h; omega)]
theorem fR {y : Str} (h : Sm (reprText y)) : fmtRF (.str y) = some (.str (reprText y)) := by
  show (if (reprText y).length ≤ 1000000 then _ else _) = _
  rw [if_pos (by unfold Sm at h; omega)]
theorem emp (y : Str) : Str.empty ++ y = y := Str.ext' (by rw [Str.cps_append]; exact Array.empty_append)
theorem gl2 {a y : Str} {f : Slots → M D} (e : f ρ pt = .ok (.str y) pt) (ha : a.length ≤ 100) (hy : y.length ≤ 900000) : joinedE [cE (.str a), f] ρ pt = .ok (.str (a ++ y)) pt := by
  have h1 : (Str.empty ++ a).length ≤ 1000000 := by rw [emp]; omega
  have h2 : (a ++ y).length ≤ 1000000 := by rw [Str.length_append]; omega
  simp [e, emp, h2, show a.length ≤ 1000000 by omega]
theorem st_opt {w : Str} {ix : Nat} {d : D} {fs : List D} (hg : fs[ix]? = some d) (ho : Opt d) (l : List Str) (hl : l.length ≤ 10) (hw : w.length ≤ 100) :
    ifS (testE (binE (pu notN) (getE 0 ix (varE 0)) (cE .non))) (appS 1 (joinedE [(cE (.str w)), (oneE fmtRF (getE 0 ix (varE 0)))])) nilS [some (.val (.obj 0 fs)), some (.own (l.map D.str))] pt = .ok (.nx [some (.val (.obj 0 fs)), some (.own ((l ++ add w d).map D.str))]) pt := by
  rcases ho with rfl | ⟨y, rfl, hy⟩
  · simp [hg, notN_non, DF.isNon, add]
  · have e : oneE fmtRF (getE 0 ix (varE 0)) [some (.val (.obj 0 fs)), some (.own (l.map D.str))] pt = .ok (.str (reprText y)) pt := by
      simp [hg, fR (lab_rp hy)]
    have j := gl2 e hw (by have := lab_rp hy; unfold Sm at this; omega)
    simp [hg, notN_non, DF.isNon, add, rp, j, -e_joined, show l.length + 1 ≤ 100000 by omega]
theorem st_yarn {fs : List D} {i : Int} (hg : fs[5]? = some (.int i)) (h0 : 0 ≤ i) (h1 : i ≤ 999) (l : List Str) (hl : l.length ≤ 10) :
    ifS (testE (binE (pu dNe) (getE 0 5 (varE 0)) (cE (.int 1)))) (appS 1 (joinedE [(cE (.str "yarn=")), (oneE fmtF (getE 0 5 (varE 0)))])) nilS [some (.val (.obj 0 fs)), some (.own (l.map D.str))] pt = .ok (.nx [some (.val (.obj 0 fs)), some (.own ((l ++ addY "yarn=" i).map D.str))]) pt := by
  by_cases hi : i = 1
  · simp [hg, hi, addY]
  · have e : oneE fmtF (getE 0 5 (varE 0)) [some (.val (.obj 0 fs)), some (.own (l.map D.str))] pt = .ok (.str (tx i)) pt := by
      simp [hg, e_fmtI i (small_log h0 h1)]
    have j := gl2 e (show (("yarn=" : String) : Str).length ≤ 100 by decide +kernel) (by have := tx_sm h0 h1; unfold Sm at this; omega)
    simp [hg, hi, addY, j, -e_joined, show l.length + 1 ≤ 100000 by omega]
theorem add_len (w : Str) (d : D) : (add w d).length ≤ 1 := by unfold add; split <;> simp
theorem addY_len (w : Str) (i : Int) : (addY w i).length ≤ 1 := by unfold addY; split <;> simp
theorem told_len : (told nm tk mk bk mi yn).length ≤ 6 := by
  unfold told
  have := add_len "back=" bk
  have := add_len "mirror=" mi
  have := addY_len "yarn=" yn
  simp only [List.length_append, List.length_cons, List.length_nil]
  omega
theorem add_sm {w : Str} {d : D} (hw : w.length ≤ 100) (h : Opt d) : ∀ t ∈ add w d, t.length ≤ 3000 := fun t ht => by
  rcases h with rfl | ⟨y, rfl, hy⟩
  · simp [add, DF.isNon] at ht
  · simp [add, DF.isNon, rp] at ht
    have := lab_rp hy
    unfold Sm at this
    rw [ht, Str.length_append]
    omega
theorem told_sm (r : Row nm tk mk bk mi yn) : ∀ t ∈ told nm tk mk bk mi yn, t.length ≤ 3000 := fun t ht => by
  unfold told at ht
  simp only [List.mem_append, List.mem_cons, List.not_mem_nil, or_false] at ht
  have h1 := lab_rp r.nm_
  have h2 := tx_sm r.tk_.1 (by have := r.tk_.2; omega)
  have h3 := tx_sm r.mk_.1 (by have := r.mk_.2; omega)
  have h4 := tx_sm r.yn_.1 r.yn_.2
  unfold Sm at *
  rcases ht with ((ht | ht) | ht) | ht
  · rcases ht with rfl | rfl | rfl <;> omega
  · exact add_sm (by decide +kernel) r.bk_ t ht
  · exact add_sm (by decide +kernel) r.mi_ t ht
  · unfold addY at ht
    split at ht
    · cases ht
    · simp at ht
      have : (("yarn=" : String) : Str).length = 5 := by decide +kernel
      rw [ht, Str.length_append]
      omega
theorem fS {y : Str} (h : y.length ≤ 900000) : fmtF (.str y) = some (.str y) := by
  first
    | rfl
    | (show (if y.length ≤ 1000000 then _ else _) = _; rw [if_pos (by omega)])
theorem st_end {l : List Str} {x : Option SV} (hl : l.length ≤ 10) (h : ∀ t ∈ l, t.length ≤ 3000) : retS (joinedE [(cE (.str "Kind(")), (oneE fmtF (joinE (cE (.str ", ")) (bvarE 1))), (cE (.str ")"))]) [x, some (.own (l.map D.str))] pt = .ok (.rt (.str (kText l))) pt := by
  obtain ⟨j1, j2⟩ := join_ok l hl h
  have k1 : (("Kind(" : String) : Str).length = 5 := by decide +kernel
  have k2 : ((")" : String) : Str).length = 1 := by decide +kernel
  have n1 : (("Kind(" : String) : Str).length ≤ 1000000 := by omega
  have n2 : (("Kind(" : String) : Str).length + (Txt.join ", " l).length ≤ 1000000 := by omega
  have n3 : (("Kind(" : String) : Str).length + (Txt.join ", " l).length + ((")" : String) : Str).length ≤ 1000000 := by omega
  have f := fS (y := Txt.join ", " l) (by omega)
  simp [j1, f, emp, Str.length_append, n1, n2, n3, kText]
theorem v_repr (r : Row nm tk mk bk mi yn) : m_Kindzz_reprzz [.obj 0 (rowD nm tk mk bk mi yn)] pt = .ok (.str (kText (told nm tk mk bk mi yn))) pt := by
  have s1 : asgL 1 (lenA (consA (bltE (pu1 reprF) (consA (getE 0 0 (varE 0)) nilA)) (consA (bltE (pu1 strF) (consA (getE 0 1 (varE 0)) nilA)) (consA (bltE (pu1 strF) (consA (getE 0 2 (varE 0)) nilA)) nilA)))) [some (.val (.obj 0 (rowD nm tk mk bk mi yn))), none] pt = .ok (.nx [some (.val (.obj 0 (rowD nm tk mk bk mi yn))), some (.own ([reprText nm, tx tk, tx mk].map D.str))]) pt := by
    simp [rF (lab_rp r.nm_), e_strI tk (small_log r.tk_.1 (by have := r.tk_.2; omega)), e_strI mk (small_log r.mk_.1 (by have := r.mk_.2; omega))]
  have s2 := st_opt (pt := pt) (w := "back=") (ix := 3) (fs := rowD nm tk mk bk mi yn) rfl r.bk_ [reprText nm, tx tk, tx mk] (by simp) (by decide +kernel)
  have s3 := st_opt (pt := pt) (w := "mirror=") (ix := 4) (fs := rowD nm tk mk bk mi yn) rfl r.mi_ ([reprText nm, tx tk, tx mk] ++ add "back=" bk) (by have := add_len "back=" bk; simp; omega) (by decide +kernel)
  have s4 := st_yarn (pt := pt) (fs := rowD nm tk mk bk mi yn) rfl r.yn_.1 r.yn_.2 ([reprText nm, tx tk, tx mk] ++ add "back=" bk ++ add "mirror=" mi) (by have := add_len "back=" bk; have := add_len "mirror=" mi; simp; omega)
  have s5 := st_end (pt := pt) (l := told nm tk mk bk mi yn) (x := some (.val (.obj 0 (rowD nm tk mk bk mi yn)))) (by have := told_len (nm := nm) (tk := tk) (mk := mk) (bk := bk) (mi := mi) (yn := yn); omega) (told_sm r)
  unfold m_Kindzz_reprzz g_Kindzz_reprzz
  rw [e_fnM]
  show bndR (seqS _ _ [some (.val (.obj 0 (rowD nm tk mk bk mi yn))), none] pt) finK = _
  rw [e_seqS, s1, e_bndok, e_seqK, e_seqS, s2, e_bndok, e_seqK, e_seqS, s3, e_bndok, e_seqK, e_seqS, s4, e_bndok, e_seqK]
  show bndR (retS _ [_, some (.own ((told nm tk mk bk mi yn).map D.str))] pt) finK = _
  rw [s5, e_bndok, e_finr]
end
end LW

set_option Elab.async false
set_option linter.all false
set_option maxRecDepth 100000
set_option maxHeartbeats 4000000
namespace LW
open PySem L2 DF
/-! ### what may be shown -/
structure At (x : PyData) : Prop where
  sh : x.showable = true
  nd : x.hasDict = false
  dp : x.depth = 0
  ln : x.shown.length ≤ 3000
theorem at_all : ∀ xs : List PyData, (∀ x ∈ xs, At x) → PyData.showableAll xs = true ∧ PyData.hasDictAll xs = false ∧ PyData.depthAll xs = 0 ∧ piled (PyData.shownAll xs) ≤ xs.length * 3002
  | [], _ => ⟨rfl, rfl, rfl, by simp [PyData.shownAll, piled]⟩
  | x :: xs, h => by
    obtain ⟨h1, h2, h3, h4⟩ := at_all xs fun y hy => h y (List.mem_cons_of_mem _ hy)
    have hx := h x List.mem_cons_self
    refine ⟨?_, ?_, ?_, ?_⟩
    · simp only [PyData.showableAll, hx.sh, h1, Bool.and_self]
    · simp only [PyData.hasDictAll, hx.nd, h2, Bool.or_self]
    · simp only [PyData.depthAll, hx.dp, h3]; rfl
    · rw [PyData.shownAll_cons, piled_cons, List.length_cons]
      have := hx.ln
      omega
theorem join_piled (ts : List Str) : (Str.join ", " ts).length ≤ piled ts := by
  by_cases h : ts = []
  · subst h
    decide +kernel
  · have := join_length_add ts h
    omega
theorem at_list {xs : List PyData} (h : ∀ x ∈ xs, At x) (hl : xs.length ≤ 10) : shOk (.list xs) = true := by
  obtain ⟨h1, h2, h3, h4⟩ := at_all xs h
  have k1 : (("[" : String) : Str).length = 1 := by decide +kernel
  have k2 : (("]" : String) : Str).length = 1 := by decide +kernel
  have j := join_piled (PyData.shownAll xs)
  have e : (PyData.list xs).shown.length ≤ 1000000 := by
    rw [PyData.shown_list, Str.length_append, Str.length_append, k1, k2]
    omega
  unfold shOk
  rw [show (PyData.list xs).showable = true from by simp only [PyData.showable, h1], show (PyData.list xs).hasDict = false from by simp only [PyData.hasDict, h2], decide_eq_true e, decide_eq_true (show (PyData.list xs).depth ≤ 20 by simp only [PyData.depth, h3]; omega)]
  rfl
theorem at_tup {xs : List PyData} (h : ∀ x ∈ xs, At x) (hl : xs.length ≤ 10) : shOk (.tuple xs) = true := by
  obtain ⟨h1, h2, h3, h4⟩ := at_all xs h
  have k1 : (("(" : String) : Str).length = 1 := by decide +kernel
  have k2 : (((if xs.length == 1 then ",)" else ")" : String)) : Str).length ≤ 2 := by split <;> decide +kernel
  have j := join_piled (PyData.shownAll xs)
  have e : (PyData.tuple xs).shown.length ≤ 1000000 := by
    rw [PyData.shown_tuple, Str.length_append, Str.length_append, k1]
    omega
  unfold shOk
  rw [show (PyData.tuple xs).showable = true from by simp only [PyData.showable, h1], show (PyData.tuple xs).hasDict = false from by simp only [PyData.hasDict, h2], decide_eq_true e, decide_eq_true (show (PyData.tuple xs).depth ≤ 20 by simp only [PyData.depth, h3]; omega)]
  rfl
theorem at_str {y : Str} (h : Sm (reprText y)) : At (.str y) := ⟨rfl, rfl, rfl, by rw [PyData.shown_str]; unfold Sm at h; omega⟩
theorem at_int {i : Int} (h : Log i) : At (.int i) := ⟨by simp only [PyData.showable]; exact decide_eq_true h, rfl, rfl, by rw [PyData.shown_int]; have := tx_len h; unfold tx at this; omega⟩
theorem at_non : At .none := ⟨rfl, rfl, rfl, by decide +kernel⟩
theorem opt_sh {d : D} (h : Opt d) : ∃ x, shD d = some x ∧ At x := by
  rcases h with rfl | ⟨y, rfl, hy⟩
  · exact ⟨.none, rfl, at_non⟩
  · exact ⟨.str y, rfl, at_str (lab_rp hy)⟩
section
variable {pt : Pot} {nm : Str} {tk mk yn : Int} {bk mi : D} {ρ : Slots}
theorem shL_row (r : Row nm tk mk bk mi yn) : ∃ x, shD (.lst (rowD nm tk mk bk mi yn)) = some x ∧ shOk x = true := by
  obtain ⟨x, ex, hx⟩ := opt_sh r.bk_
  obtain ⟨y, ey, hy⟩ := opt_sh r.mi_
  refine ⟨.list [.str nm, .int tk, .int mk, x, y, .int yn], ?_, at_list (fun z hz => ?_) (by simp)⟩
  · simp [shD, shL, ex, ey]
  · simp only [List.mem_cons, List.not_mem_nil, or_false] at hz
    rcases hz with rfl | rfl | rfl | rfl | rfl | rfl
    · exact at_str (lab_rp r.nm_)
    · exact at_int (small_log r.tk_.1 (by have := r.tk_.2; omega))
    · exact at_int (small_log r.mk_.1 (by have := r.mk_.2; omega))
    · exact hx
    · exact hy
    · exact at_int (small_log r.yn_.1 r.yn_.2)
theorem sh_kind (h : Lab nm) : ∃ x, shD (.tup [.str "kind", .str nm]) = some x ∧ shOk x = true := by
  refine ⟨.tuple [.str "kind", .str nm], rfl, at_tup (fun z hz => ?_) (by simp)⟩
  simp only [List.mem_cons, List.not_mem_nil, or_false] at hz
  rcases hz with rfl | rfl
  · exact at_str (by unfold Sm; decide +kernel)
  · exact at_str (lab_rp h)
end
end LW

set_option Elab.async false
set_option linter.all false
set_option maxRecDepth 100000
set_option maxHeartbeats 4000000
namespace LW
open PySem L2 DF
section
variable {pt : Pot} {nm : Str} {tk mk yn : Int} {bk mi : D} {ρ : Slots}
theorem rI {i : Int} (h : Log i) : reprF [.int i] = some (.str (tx i)) := by
  show (if i.natAbs.log2 < 1920 then some (D.str (toString i)) else none) = _
  rw [if_pos (show i.natAbs.log2 < 1920 from h)]
  rfl
theorem ne_non {d : D} (h : Opt d) : dNe d .non = some (.bl (!DF.isNon d)) := by
  rcases h with rfl | ⟨y, rfl, _⟩ <;> rfl
theorem tb_opt {row : List D} {p : Int} {d : D} {w : Str} (hg : atI row p = some d) (ho : Opt d) (l : List Str) (hl : l.length ≤ 10) (hw : w.length ≤ 100) :
    g__law_text_b1 [some (.val (.lst row)), some (.own (l.map D.str)), some (.val (.str w)), some (.val (.int p)), some (.val .non)] pt = .ok (.nx [some (.val (.lst row)), some (.own ((l ++ add w d).map D.str)), some (.val (.str w)), some (.val (.int p)), some (.val .non)]) pt := by
  unfold g__law_text_b1
  have hn := ne_non ho
  rcases ho with rfl | ⟨y, rfl, hy⟩
  · simp [hg, hn, DF.isNon, add]
  · have := lab_rp hy
    have hs : w.length + (reprText y).length ≤ 1000000 := by unfold Sm at this; omega
    simp [hg, hn, DF.isNon, add, rp, rF this, e_sAdd w (reprText y) hs, show l.length + 1 ≤ 100000 by omega]
theorem tb_yarn {row : List D} {p : Int} {i : Int} (hg : atI row p = some (.int i)) (h0 : 0 ≤ i) (h1 : i ≤ 999) (l : List Str) (hl : l.length ≤ 10) :
    ∃ ρ', g__law_text_b1 [some (.val (.lst row)), some (.own (l.map D.str)), some (.val (.str "yarn=")), some (.val (.int p)), some (.val (.int 1))] pt = .ok (.nx [some (.val (.lst row)), some (.own ((l ++ addY "yarn=" i).map D.str)), some (.val (.str "yarn=")), some (.val (.int p)), some (.val (.int 1))]) pt ∧ ρ' = () := by
  refine ⟨(), ?_, rfl⟩
  unfold g__law_text_b1
  by_cases hi : i = 1
  · simp [hg, hi, addY]
  · have := tx_sm h0 h1
    have hw : (("yarn=" : String) : Str).length = 5 := by decide +kernel
    have hs : (("yarn=" : String) : Str).length + (tx i).length ≤ 1000000 := by unfold Sm at this; omega
    simp [hg, hi, addY, rI (small_log h0 h1), e_sAdd _ (tx i) hs, show l.length + 1 ≤ 100000 by omega]
theorem v_text (r : Row nm tk mk bk mi yn) : m__law_text [.lst (rowD nm tk mk bk mi yn)] pt = .ok (.str (kText (told nm tk mk bk mi yn))) pt := by
  have hl := told_len (nm := nm) (tk := tk) (mk := mk) (bk := bk) (mi := mi) (yn := yn)
  obtain ⟨j1, j2⟩ := join_ok (told nm tk mk bk mi yn) (by omega) (told_sm r)
  have s2 := tb_opt (pt := pt) (row := rowD nm tk mk bk mi yn) (p := 3) (w := "back=") (by simp) r.bk_ [reprText nm, tx tk, tx mk] (by simp) (by decide +kernel)
  have s3 := tb_opt (pt := pt) (row := rowD nm tk mk bk mi yn) (p := 4) (w := "mirror=") (by simp) r.mi_ ([reprText nm, tx tk, tx mk] ++ add "back=" bk) (by have := add_len "back=" bk; simp; omega) (by decide +kernel)
  obtain ⟨_, s4, _⟩ := tb_yarn (pt := pt) (row := rowD nm tk mk bk mi yn) (p := 5) (by simp) r.yn_.1 r.yn_.2 ([reprText nm, tx tk, tx mk] ++ add "back=" bk ++ add "mirror=" mi) (by have := add_len "back=" bk; have := add_len "mirror=" mi; simp; omega)
  have k1 : (("Kind(" : String) : Str).length = 5 := by decide +kernel
  have k2 : ((")" : String) : Str).length = 1 := by decide +kernel
  have n2 : (("Kind(" : String) : Str).length + (Txt.join ", " (told nm tk mk bk mi yn)).length ≤ 1000000 := by omega
  have n3 : (("Kind(" : Str) ++ (Txt.join ", " (told nm tk mk bk mi yn))).length + ((")" : String) : Str).length ≤ 1000000 := by rw [Str.length_append]; omega
  have s1 : asgL 1 (lenA (consA (bltE (pu1 reprF) (consA (binE ixM (bvarE 0) (cE (.int 0))) nilA)) (consA (bltE (pu1 strF) (consA (binE ixM (bvarE 0) (cE (.int 1))) nilA)) (consA (bltE (pu1 strF) (consA (binE ixM (bvarE 0) (cE (.int 2))) nilA)) nilA)))) [some (.val (.lst (rowD nm tk mk bk mi yn))), none, none, none, none] pt = .ok (.nx [some (.val (.lst (rowD nm tk mk bk mi yn))), some (.own ([reprText nm, tx tk, tx mk].map D.str)), none, none, none]) pt := by
    simp [rF (lab_rp r.nm_), e_strI tk (small_log r.tk_.1 (by have := r.tk_.2; omega)), e_strI mk (small_log r.mk_.1 (by have := r.mk_.2; omega))]
  have s5 : forS (itE (boxE (lenA (consA (tupE (consA (cE (.str "back=")) (consA (cE (.int 3)) (consA (cE .non) nilA)))) (consA (tupE (consA (cE (.str "mirror=")) (consA (cE (.int 4)) (consA (cE .non) nilA)))) (consA (tupE (consA (cE (.str "yarn=")) (consA (cE (.int 5)) (consA (cE (.int 1)) nilA)))) nilA)))))) (tgT [(tgN 2), (tgN 3), (tgN 4)]) g__law_text_b1 [some (.val (.lst (rowD nm tk mk bk mi yn))), some (.own ([reprText nm, tx tk, tx mk].map D.str)), none, none, none] pt =
      .ok (.nx [some (.val (.lst (rowD nm tk mk bk mi yn))), some (.own ((told nm tk mk bk mi yn).map D.str)), some (.val (.str "yarn=")), some (.val (.int 5)), some (.val (.int 1))]) pt := by
    simp only [List.map_cons, List.map_nil, List.map_append, List.cons_append, List.nil_append] at s2 s3 s4
    simp [s2, s3, s4, told]
  have s6 : retS (binE addU (binE addU (cE (.str "Kind(")) (joinE (cE (.str ", ")) (bvarE 1))) (cE (.str ")"))) [some (.val (.lst (rowD nm tk mk bk mi yn))), some (.own ((told nm tk mk bk mi yn).map D.str)), some (.val (.str "yarn=")), some (.val (.int 5)), some (.val (.int 1))] pt = .ok (.rt (.str (kText (told nm tk mk bk mi yn)))) pt := by
    simp [j1, e_sAdd _ _ n2, e_sAdd _ _ n3, kText]
  unfold m__law_text g__law_text
  rw [e_fnM]
  show bndR (seqS _ _ [some (.val (.lst (rowD nm tk mk bk mi yn))), none, none, none, none] pt) finK = _
  rw [e_seqS, s1, e_bndok, e_seqK, e_seqS, s5, e_bndok, e_seqK, s6, e_bndok, e_finr]
/-! ### repr of a row -/
theorem v_is_kind (r : Row nm tk mk bk mi yn) : m__law_is_kind [.obj 0 (rowD nm tk mk bk mi yn), .lst (rowD nm tk mk bk mi yn)] pt = .ok (.bl true) pt := by
  obtain ⟨x, e1, e2⟩ := shL_row r
  have hr : reprG [.lst (rowD nm tk mk bk mi yn)] = some (.str x.shown) := by
    show (shD (.lst (rowD nm tk mk bk mi yn))).bind _ = _
    rw [e1, Option.bind_some, if_pos e2]
  unfold m__law_is_kind g__law_is_kind
  rw [e_fnM]
  simp [ini, hr, v_repr r, v_text r]
end
end LW

set_option Elab.async false
set_option linter.all false
set_option maxRecDepth 100000
set_option maxHeartbeats 4000000
namespace LW
open PySem L2 DF
def oe : D → D → Bool
  | .non, .non => true
  | .str x, .str y => decide (x = y)
  | _, _ => false
theorem eq_opt {a b : D} (ha : Opt a) (hb : Opt b) : dEq a b = some (.bl (oe a b)) := by
  rcases ha with rfl | ⟨x, rfl, _⟩ <;> rcases hb with rfl | ⟨y, rfl, _⟩ <;> rfl
theorem ne_opt {a b : D} (ha : Opt a) (hb : Opt b) : dNe a b = some (.bl (!oe a b)) := by
  rcases ha with rfl | ⟨x, rfl, _⟩ <;> rcases hb with rfl | ⟨y, rfl, _⟩ <;> rfl
theorem oe_self {a : D} (ha : Opt a) : oe a a = true := by
  rcases ha with rfl | ⟨x, rfl, _⟩
  · rfl
  · exact decide_eq_true rfl
section
variable {pt : Pot} {nm nm' : Str} {tk mk yn tk' mk' yn' : Int} {bk mi bk' mi' : D} {ρ : Slots}
@[simp] theorem q_nt3 (x y z a b c : Int) : dNe (.tup [.int x, .int y, .int z]) (.tup [.int a, .int b, .int c]) = some (.bl (!(decide (x = a) && (decide (y = b) && (decide (z = c) && true))))) := rfl
def eqR (nm : Str) (tk mk : Int) (bk mi : D) (yn : Int) (nm' : Str) (tk' mk' : Int) (bk' mi' : D) (yn' : Int) : Bool := decide (nm = nm') && ((decide (tk = tk') && (decide (mk = mk') && (decide (yn = yn') && true))) && (oe bk bk' && oe mi mi'))
theorem v_eq (r : Row nm tk mk bk mi yn) (r' : Row nm' tk' mk' bk' mi' yn') : m_Kindzz_eqzz [.obj 0 (rowD nm tk mk bk mi yn), .obj 0 (rowD nm' tk' mk' bk' mi' yn')] pt = .ok (.bl (eqR nm tk mk bk mi yn nm' tk' mk' bk' mi' yn')) pt := by
  unfold m_Kindzz_eqzz g_Kindzz_eqzz eqR
  rw [e_fnM]
  have h3 := eq_opt r.bk_ r'.bk_
  have h4 := eq_opt r.mi_ r'.mi_
  by_cases h1 : nm = nm'
  · by_cases a : tk = tk' <;> by_cases b : mk = mk' <;> by_cases c : yn = yn' <;> cases h5 : oe bk bk' <;> simp [ini, h1, a, b, c, h3, h4, h5]
  · simp [ini, h1]
theorem v_eqO {d : D} (hd : pl d = true) (hn : ∀ c fs, d ≠ .obj c fs) : m_Kindzz_eqzz [.obj 0 (rowD nm tk mk bk mi yn), d] pt = .ok (.bl false) pt := by
  unfold m_Kindzz_eqzz g_Kindzz_eqzz
  rw [e_fnM]
  cases d <;> first | (cases hd; done) | simp [ini]
theorem eqR_self (r : Row nm tk mk bk mi yn) : eqR nm tk mk bk mi yn nm tk mk bk mi yn = true := by
  unfold eqR
  rw [oe_self r.bk_, oe_self r.mi_]
  simp
/-! ### one field otherwise -/
theorem comp_ne {row L : List D} {i : Nat} {p : Int} {v : D} {f : D → Bool} (hi : i < ρ.length) (i1 : i ≠ 1) (i3 : i ≠ 3) (h1 : ρ[1]? = some (some (.val (.lst row)))) (h3 : ρ[3]? = some (some (.val (.int p)))) (hv : atI row p = some v) (hf : ∀ d ∈ L, dNe d v = some (.bl (f d))) (hl : L.length ≤ 100) :
    compL (tgN i) (testE (binE (pu dNe) (bvarE i) (binE ixM (bvarE 1) (bvarE 3)))) (varE i) ρ L [] pt = .ok (L.filter f) pt := by
  have k := comp_pure (pt := pt) (ρ := ρ) (i := i) (t := testE (binE (pu dNe) (bvarE i) (binE ixM (bvarE 1) (bvarE 3)))) (f := varE i) (p := f) (F := fun d => d) hi L [] (fun d hd => ?_) (by simp; omega)
  · rw [k]
    simp
  · have e1 : (ρ.set i (some (.val d)))[1]? = some (some (.val (.lst row))) := by rw [List.getElem?_set_ne i1]; exact h1
    have e3 : (ρ.set i (some (.val d)))[3]? = some (some (.val (.int p))) := by rw [List.getElem?_set_ne i3]; exact h3
    have ei : (ρ.set i (some (.val d)))[i]? = some (some (.val d)) := List.getElem?_set_self hi
    simp [e1, e3, ei, hv, hf d hd]
end
end LW

set_option Elab.async false
set_option linter.all false
set_option maxRecDepth 100000
set_option maxHeartbeats 4000000
namespace LW
open PySem L2 DF
section
variable {pt : Pot} {nm : Str} {tk mk yn : Int} {bk mi : D}
def Other (nm : Str) (tk mk : Int) (bk mi : D) (yn : Int) (d : List D) : Prop := ∃ nm' tk' mk' bk' mi' yn', d = rowD nm' tk' mk' bk' mi' yn' ∧ Row nm' tk' mk' bk' mi' yn' ∧ eqR nm tk mk bk mi yn nm' tk' mk' bk' mi' yn' = false
abbrev oS (row : List D) (acc : List D) (p : Int) (x4 : Option SV) : Slots := [some (.val .pot), some (.val (.lst row)), some (.own acc), some (.val (.int p)), x4, none, none]
theorem lq : Lab "q" := ⟨by decide +kernel, by decide +kernel, by decide +kernel⟩
theorem lqq : Lab "qq" := ⟨by decide +kernel, by decide +kernel, by decide +kernel⟩
theorem r17 : rng2 [.int 1, .int 7] = some [.int 1, .int 2, .int 3, .int 4, .int 5, .int 6] := by rfl
abbrev six : List D := [.int 1, .int 2, .int 3, .int 4, .int 5, .int 6]
def neI (v : Int) : D → Bool
  | .int k => !decide (k = v)
  | _ => false
theorem six_ne (v : Int) : ∀ d ∈ six, dNe d (.int v) = some (.bl (neI v d)) := by
  intro d hd
  simp at hd
  rcases hd with rfl | rfl | rfl | rfl | rfl | rfl <;> rfl
theorem six_pick {q : Pot} (h : Pt q) (v : Int) : ∃ k q', m__law_pick [.pot, .lst (six.filter (neI v))] q = .ok (.int k) q' ∧ 1 ≤ k ∧ k ≤ 6 ∧ k ≠ v ∧ Pt q' := by
  have hpos : 0 < (six.filter (neI v)).length := by
    by_cases h1 : v = 1
    · subst h1; decide
    · have : D.int 1 ∈ six.filter (neI v) := List.mem_filter.mpr ⟨by simp, by simp [neI]; omega⟩
      exact List.length_pos_of_mem this
  obtain ⟨d, q', e, hd, hq⟩ := pick1 h (six.filter (neI v)) hpos (Nat.lt_of_le_of_lt (List.length_filter_le _ _) (by decide))
  obtain ⟨h1, h2⟩ := List.mem_filter.mp hd
  simp at h1
  rcases h1 with rfl | rfl | rfl | rfl | rfl | rfl <;> (refine ⟨_, q', e, by decide, by decide, ?_, hq⟩; simp [neI] at h2; exact h2)
theorem ob1 (r : Row nm tk mk bk mi yn) (h : Pt pt) (acc : List D) (ha : acc.length ≤ 10) (x4 : Option SV) : ∃ d' q, g__law_others_b1 (oS (rowD nm tk mk bk mi yn) acc 1 x4) pt = .ok (.nx (oS (rowD nm tk mk bk mi yn) (acc ++ [.lst d']) 1 (some (.val (.lst d'))))) q ∧ Pt q ∧ Other nm tk mk bk mi yn d' := by
  obtain ⟨k, q, e, k1, k6, kv, hq⟩ := six_pick h tk
  have hc := comp_ne (pt := pt) (ρ := [some (.val .pot), some (.val (.lst (rowD nm tk mk bk mi yn))), some (.own acc), some (.val (.int 1)), some (.own (rowD nm tk mk bk mi yn)), none, none]) (row := rowD nm tk mk bk mi yn) (L := six) (i := 5) (p := 1) (v := .int tk) (by simp) (by decide) (by decide) rfl rfl (by simp) (six_ne tk) (by decide)
  refine ⟨rowD nm k mk bk mi yn, q, ?_, hq, ⟨nm, k, mk, bk, mi, yn, rfl, ⟨r.nm_, ⟨by omega, k6⟩, r.mk_, by omega, r.bk_, r.mi_, r.yn_⟩, ?_⟩⟩
  · unfold g__law_others_b1
    simp [oS, listF, seqOf, inD, inB, inL, flatD, eqF, r17, noOwn, isOwn, hc, e, setL, ixN, frz1, show acc.length + 1 ≤ 100000 by omega, -e_compL]
  · unfold eqR
    have : ¬ tk = k := fun z => kv z.symm
    simp [this]
end
end LW

set_option Elab.async false
set_option linter.all false
set_option maxRecDepth 100000
set_option maxHeartbeats 4000000
namespace LW
open PySem L2 DF
section
variable {pt : Pot} {nm : Str} {tk mk yn : Int} {bk mi : D}
theorem ob2 (r : Row nm tk mk bk mi yn) (h : Pt pt) (acc : List D) (ha : acc.length ≤ 10) (x4 : Option SV) : ∃ d' q, g__law_others_b1 (oS (rowD nm tk mk bk mi yn) acc 2 x4) pt = .ok (.nx (oS (rowD nm tk mk bk mi yn) (acc ++ [.lst d']) 2 (some (.val (.lst d'))))) q ∧ Pt q ∧ Other nm tk mk bk mi yn d' := by
  obtain ⟨k, q, e, k1, k6, kv, hq⟩ := six_pick h mk
  have hc := comp_ne (pt := pt) (ρ := [some (.val .pot), some (.val (.lst (rowD nm tk mk bk mi yn))), some (.own acc), some (.val (.int 2)), some (.own (rowD nm tk mk bk mi yn)), none, none]) (row := rowD nm tk mk bk mi yn) (L := six) (i := 5) (p := 2) (v := .int mk) (by simp) (by decide) (by decide) rfl rfl (by simp) (six_ne mk) (by decide)
  refine ⟨rowD nm tk k bk mi yn, q, ?_, hq, ⟨nm, tk, k, bk, mi, yn, rfl, ⟨r.nm_, r.tk_, ⟨by omega, k6⟩, by omega, r.bk_, r.mi_, r.yn_⟩, ?_⟩⟩
  · unfold g__law_others_b1
    simp [oS, listF, seqOf, inD, inB, inL, flatD, eqF, r17, noOwn, isOwn, hc, e, setL, ixN, frz1, show acc.length + 1 ≤ 100000 by omega, -e_compL]
  · unfold eqR
    have : ¬ mk = k := fun z => kv z.symm
    simp [this]
abbrev yns : List D := [.int 0, .int 1, .int 2, .int 999]
theorem yns_ne (v : Int) : ∀ d ∈ yns, dNe d (.int v) = some (.bl (neI v d)) := by
  intro d hd
  simp at hd
  rcases hd with rfl | rfl | rfl | rfl <;> rfl
theorem yns_pick {q : Pot} (h : Pt q) (v : Int) : ∃ k q', m__law_pick [.pot, .lst (yns.filter (neI v))] q = .ok (.int k) q' ∧ 0 ≤ k ∧ k ≤ 999 ∧ k ≠ v ∧ Pt q' := by
  have hpos : 0 < (yns.filter (neI v)).length := by
    by_cases h1 : v = 1
    · subst h1; decide
    · have : D.int 1 ∈ yns.filter (neI v) := List.mem_filter.mpr ⟨by simp, by simp [neI]; omega⟩
      exact List.length_pos_of_mem this
  obtain ⟨d, q', e, hd, hq⟩ := pick1 h (yns.filter (neI v)) hpos (Nat.lt_of_le_of_lt (List.length_filter_le _ _) (by decide))
  obtain ⟨h1, h2⟩ := List.mem_filter.mp hd
  simp at h1
  rcases h1 with rfl | rfl | rfl | rfl <;> (refine ⟨_, q', e, by decide, by decide, ?_, hq⟩; simp [neI] at h2; exact h2)
theorem ob5 (r : Row nm tk mk bk mi yn) (h : Pt pt) (acc : List D) (ha : acc.length ≤ 10) (x4 : Option SV) : ∃ d' q, g__law_others_b1 (oS (rowD nm tk mk bk mi yn) acc 5 x4) pt = .ok (.nx (oS (rowD nm tk mk bk mi yn) (acc ++ [.lst d']) 5 (some (.val (.lst d'))))) q ∧ Pt q ∧ Other nm tk mk bk mi yn d' := by
  obtain ⟨k, q, e, k1, k6, kv, hq⟩ := yns_pick h yn
  have hc := comp_ne (pt := pt) (ρ := [some (.val .pot), some (.val (.lst (rowD nm tk mk bk mi yn))), some (.own acc), some (.val (.int 5)), some (.own (rowD nm tk mk bk mi yn)), none, none]) (row := rowD nm tk mk bk mi yn) (L := yns) (i := 5) (p := 5) (v := .int yn) (by simp) (by decide) (by decide) rfl rfl (by simp) (yns_ne yn) (by decide)
  refine ⟨rowD nm tk mk bk mi k, q, ?_, hq, ⟨nm, tk, mk, bk, mi, k, rfl, ⟨r.nm_, r.tk_, r.mk_, r.nz, r.bk_, r.mi_, ⟨k1, k6⟩⟩, ?_⟩⟩
  · unfold g__law_others_b1
    simp [oS, listF, seqOf, inD, inB, inL, flatD, eqF, noOwn, isOwn, hc, e, setL, ixN, frz1, show acc.length + 1 ≤ 100000 by omega, -e_compL]
  · unfold eqR
    have : ¬ yn = k := fun z => kv z.symm
    simp [this]
theorem ob0 (r : Row nm tk mk bk mi yn) (h : Pt pt) (acc : List D) (ha : acc.length ≤ 10) (x4 : Option SV) : ∃ d' q, g__law_others_b1 (oS (rowD nm tk mk bk mi yn) acc 0 x4) pt = .ok (.nx (oS (rowD nm tk mk bk mi yn) (acc ++ [.lst d']) 0 (some (.val (.lst d'))))) q ∧ Pt q ∧ Other nm tk mk bk mi yn d' := by
  by_cases hz : nm = "q"
  · refine ⟨rowD "qq" tk mk bk mi yn, pt, ?_, h, ⟨"qq", tk, mk, bk, mi, yn, rfl, ⟨lqq, r.tk_, r.mk_, r.nz, r.bk_, r.mi_, r.yn_⟩, ?_⟩⟩
    · unfold g__law_others_b1
      simp [oS, listF, seqOf, inD, inB, inL, flatD, eqF, hz, setL, ixN, frz1, show acc.length + 1 ≤ 100000 by omega, -e_compL]
    · unfold eqR
      have : ¬ (("q" : String) : Str) = "qq" := by decide +kernel
      rw [hz]
      simp [this]
  · refine ⟨rowD "q" tk mk bk mi yn, pt, ?_, h, ⟨"q", tk, mk, bk, mi, yn, rfl, ⟨lq, r.tk_, r.mk_, r.nz, r.bk_, r.mi_, r.yn_⟩, ?_⟩⟩
    · unfold g__law_others_b1
      simp [oS, listF, seqOf, inD, inB, inL, flatD, eqF, hz, setL, ixN, frz1, show acc.length + 1 ≤ 100000 by omega, -e_compL]
    · unfold eqR
      simp [hz]
def neO (v : D) (d : D) : Bool := !oe d v
theorem opt_L {d : D} (hn : Lab nm) (hd : d ∈ [D.non, .str "q", .str nm]) : Opt d := by
  simp at hd
  rcases hd with rfl | rfl | rfl
  · exact .inl rfl
  · exact .inr ⟨_, rfl, lq⟩
  · exact .inr ⟨_, rfl, hn⟩
theorem opt_ne {v : D} (hn : Lab nm) (hv : Opt v) : ∀ d ∈ [D.non, .str "q", .str nm], dNe d v = some (.bl (neO v d)) := fun d hd => ne_opt (opt_L hn hd) hv
theorem oe_comm {a b : D} (ha : Opt a) (hb : Opt b) : oe a b = oe b a := by
  rcases ha with rfl | ⟨x, rfl, _⟩ <;> rcases hb with rfl | ⟨y, rfl, _⟩ <;> simp [oe, eq_comm]
theorem opt_pick {q : Pot} (h : Pt q) (hn : Lab nm) {v : D} (hv : Opt v) : ∃ k q', m__law_pick [.pot, .lst ([D.non, .str "q", .str nm].filter (neO v))] q = .ok k q' ∧ Opt k ∧ oe v k = false ∧ Pt q' := by
  have hpos : 0 < ([D.non, .str "q", .str nm].filter (neO v)).length := by
    rcases hv with rfl | ⟨y, rfl, _⟩
    · have : D.str "q" ∈ [D.non, .str "q", .str nm].filter (neO .non) := List.mem_filter.mpr ⟨by simp, rfl⟩
      exact List.length_pos_of_mem this
    · have : D.non ∈ [D.non, .str "q", .str nm].filter (neO (.str y)) := List.mem_filter.mpr ⟨by simp, rfl⟩
      exact List.length_pos_of_mem this
  obtain ⟨d, q', e, hd, hq⟩ := pick1 h ([D.non, .str "q", .str nm].filter (neO v)) hpos (Nat.lt_of_le_of_lt (List.length_filter_le _ _) (by simp))
  obtain ⟨h1, h2⟩ := List.mem_filter.mp hd
  have ho := opt_L hn h1
  refine ⟨d, q', e, ho, ?_, hq⟩
  rw [oe_comm hv ho]
  unfold neO at h2
  simpa using h2
theorem ob3 (r : Row nm tk mk bk mi yn) (h : Pt pt) (acc : List D) (ha : acc.length ≤ 10) (x4 : Option SV) : ∃ d' q, g__law_others_b1 (oS (rowD nm tk mk bk mi yn) acc 3 x4) pt = .ok (.nx (oS (rowD nm tk mk bk mi yn) (acc ++ [.lst d']) 3 (some (.val (.lst d'))))) q ∧ Pt q ∧ Other nm tk mk bk mi yn d' := by
  obtain ⟨k, q, e, ho, hk, hq⟩ := opt_pick h r.nm_ r.bk_
  have hc := comp_ne (pt := pt) (ρ := [some (.val .pot), some (.val (.lst (rowD nm tk mk bk mi yn))), some (.own acc), some (.val (.int 3)), some (.own (rowD nm tk mk bk mi yn)), none, none]) (row := rowD nm tk mk bk mi yn) (L := [D.non, .str "q", .str nm]) (i := 6) (p := 3) (v := bk) (by simp) (by decide) (by decide) rfl rfl (by simp) (opt_ne r.nm_ r.bk_) (by simp)
  refine ⟨rowD nm tk mk k mi yn, q, ?_, hq, ⟨nm, tk, mk, k, mi, yn, rfl, ⟨r.nm_, r.tk_, r.mk_, r.nz, ho, r.mi_, r.yn_⟩, ?_⟩⟩
  · unfold g__law_others_b1
    simp [oS, listF, seqOf, inD, inB, inL, flatD, eqF, noOwn, isOwn, hc, e, setL, ixN, frz1, show acc.length + 1 ≤ 100000 by omega, -e_compL]
  · unfold eqR
    simp [hk]
theorem ob4 (r : Row nm tk mk bk mi yn) (h : Pt pt) (acc : List D) (ha : acc.length ≤ 10) (x4 : Option SV) : ∃ d' q, g__law_others_b1 (oS (rowD nm tk mk bk mi yn) acc 4 x4) pt = .ok (.nx (oS (rowD nm tk mk bk mi yn) (acc ++ [.lst d']) 4 (some (.val (.lst d'))))) q ∧ Pt q ∧ Other nm tk mk bk mi yn d' := by
  obtain ⟨k, q, e, ho, hk, hq⟩ := opt_pick h r.nm_ r.mi_
  have hc := comp_ne (pt := pt) (ρ := [some (.val .pot), some (.val (.lst (rowD nm tk mk bk mi yn))), some (.own acc), some (.val (.int 4)), some (.own (rowD nm tk mk bk mi yn)), none, none]) (row := rowD nm tk mk bk mi yn) (L := [D.non, .str "q", .str nm]) (i := 6) (p := 4) (v := mi) (by simp) (by decide) (by decide) rfl rfl (by simp) (opt_ne r.nm_ r.mi_) (by simp)
  refine ⟨rowD nm tk mk bk k yn, q, ?_, hq, ⟨nm, tk, mk, bk, k, yn, rfl, ⟨r.nm_, r.tk_, r.mk_, r.nz, r.bk_, ho, r.yn_⟩, ?_⟩⟩
  · unfold g__law_others_b1
    simp [oS, listF, seqOf, inD, inB, inL, flatD, eqF, noOwn, isOwn, hc, e, setL, ixN, frz1, show acc.length + 1 ≤ 100000 by omega, -e_compL]
  · unfold eqR
    simp [hk]
theorem r6 : rng1 [.int 6] = some [.int 0, .int 1, .int 2, .int 3, .int 4, .int 5] := by rfl
theorem others1 (r : Row nm tk mk bk mi yn) (h : Pt pt) : ∃ a b c d e f q, m__law_others [.pot, .lst (rowD nm tk mk bk mi yn)] pt = .ok (.lst [.lst a, .lst b, .lst c, .lst d, .lst e, .lst f]) q ∧ Pt q ∧
    Other nm tk mk bk mi yn a ∧ Other nm tk mk bk mi yn b ∧ Other nm tk mk bk mi yn c ∧ Other nm tk mk bk mi yn d ∧ Other nm tk mk bk mi yn e ∧ Other nm tk mk bk mi yn f := by
  obtain ⟨a, p1, e1, h1, o1⟩ := ob0 r h [] (by simp) none
  obtain ⟨b, p2, e2, h2, o2⟩ := ob1 r h1 [.lst a] (by simp) (some (.val (.lst a)))
  obtain ⟨c, p3, e3, h3, o3⟩ := ob2 r h2 [.lst a, .lst b] (by simp) (some (.val (.lst b)))
  obtain ⟨d, p4, e4, h4, o4⟩ := ob3 r h3 [.lst a, .lst b, .lst c] (by simp) (some (.val (.lst c)))
  obtain ⟨e, p5, e5, h5, o5⟩ := ob4 r h4 [.lst a, .lst b, .lst c, .lst d] (by simp) (some (.val (.lst d)))
  obtain ⟨f, p6, e6, h6, o6⟩ := ob5 r h5 [.lst a, .lst b, .lst c, .lst d, .lst e] (by simp) (some (.val (.lst e)))
  refine ⟨a, b, c, d, e, f, p6, ?_, h6, o1, o2, o3, o4, o5, o6⟩
  simp only [List.nil_append, List.cons_append] at e1 e2 e3 e4 e5 e6
  unfold m__law_others g__law_others
  rw [e_fnM]
  simp [ini, r6, e1, e2, e3, e4, e5, e6, frz1]
end
end LW

set_option Elab.async false
set_option linter.all false
set_option maxRecDepth 100000
set_option maxHeartbeats 4000000
namespace LW
open PySem L2 DF
section
variable {pt : Pot} {nm : Str} {tk mk yn : Int} {bk mi : D}
structure WN (d : D) : Prop where
  p : pl d = true
  n : isNm d = false
  s : ∃ x, shD (.tup [.str "name", d]) = some x ∧ shOk x = true
structure WM (hi : Int) (d : D) : Prop where
  p : pl d = true
  n : isW d hi = false
  s : ∃ x, shD (.tup [.str "number", d]) = some x ∧ shOk x = true
abbrev wl : List D := [.str "", .str "abcdefghi", .str "A", .str "k2", .str "k p", .str "k-", .int 0, .bl true, .lst [], .tup [.str "k"], .dct [], .str "kP"]
theorem wn_non : WN .non := ⟨by decide +kernel, by decide +kernel, _, rfl, by decide +kernel⟩
theorem wn_wl {d : D} (h : d ∈ wl) : WN d ∧ DF.isNon d = false := by
  simp at h
  rcases h with rfl | rfl | rfl | rfl | rfl | rfl | rfl | rfl | rfl | rfl | rfl | rfl <;> exact ⟨⟨by decide +kernel, by decide +kernel, _, rfl, by decide +kernel⟩, rfl⟩
abbrev ml (t : Int) : List D := [.non, .bl true, .bl false, .int (-1), .str "1", .lst [], .tup [.int 1], .dct [], .int 100000000000000000000, .int t]
theorem wm_6 {d : D} (h : d ∈ ml 7) : WM 6 d := by
  simp at h
  rcases h with rfl | rfl | rfl | rfl | rfl | rfl | rfl | rfl | rfl | rfl <;> exact ⟨by decide +kernel, by decide +kernel, _, rfl, by decide +kernel⟩
theorem wm_999 {d : D} (h : d ∈ ml 1000) : WM 999 d := by
  simp at h
  rcases h with rfl | rfl | rfl | rfl | rfl | rfl | rfl | rfl | rfl | rfl <;> exact ⟨by decide +kernel, by decide +kernel, _, rfl, by decide +kernel⟩
theorem addL (a b : List D) (h : a.length + b.length ≤ 100000) : addU (.lst a) (.lst b) pt = .ok (.lst (a ++ b)) pt := by
  have e : addU (.lst a) (.lst b) pt = DF.orM (boxM lCat) tCat (.lst a) (.lst b) pt := rfl
  rw [e]
  unfold DF.orM boxM
  rw [e_bnd, e_lCat a b h]
  rfl
theorem wrong0 (h : Pt pt) : ∃ d q, m__law_wrong [.pot, .int 0] pt = .ok d q ∧ WN d ∧ Pt q := by
  obtain ⟨d, q, e, hd, hq⟩ := pick1 h (wl ++ [.non]) (by simp) (by simp)
  refine ⟨d, q, ?_, ?_, hq⟩
  · simp only [List.cons_append, List.nil_append] at e
    unfold m__law_wrong g__law_wrong
    rw [e_fnM]
    simp [ini, inD, inB, inL, flatD, eqF, addL, e]
  · rcases List.mem_append.mp hd with hd | hd
    · exact (wn_wl hd).1
    · rw [List.mem_singleton.mp hd]; exact wn_non
theorem wrong34 (p : Int) (hp : p = 3 ∨ p = 4) (h : Pt pt) : ∃ d q, m__law_wrong [.pot, .int p] pt = .ok d q ∧ WN d ∧ DF.isNon d = false ∧ Pt q := by
  obtain ⟨d, q, e, hd, hq⟩ := pick1 h wl (by simp) (by simp)
  refine ⟨d, q, ?_, (wn_wl hd).1, (wn_wl hd).2, hq⟩
  unfold m__law_wrong g__law_wrong
  rw [e_fnM]
  rcases hp with rfl | rfl <;> simp [ini, inD, inB, inL, flatD, eqF, e]
theorem pow20 : iPow (.int 10) (.int 20) = some (.int 100000000000000000000) := by rfl
theorem wrong12 (p : Int) (hp : p = 1 ∨ p = 2) (h : Pt pt) : ∃ d q, m__law_wrong [.pot, .int p] pt = .ok d q ∧ WM 6 d ∧ Pt q := by
  obtain ⟨d, q, e, hd, hq⟩ := pick1 h (ml 7) (by simp) (by simp)
  refine ⟨d, q, ?_, wm_6 hd, hq⟩
  unfold m__law_wrong g__law_wrong
  rw [e_fnM]
  rcases hp with rfl | rfl <;> simp [ini, inD, inB, inL, flatD, eqF, pow20, e, -e_iopC]
theorem wrong5 (h : Pt pt) : ∃ d q, m__law_wrong [.pot, .int 5] pt = .ok d q ∧ WM 999 d ∧ Pt q := by
  obtain ⟨d, q, e, hd, hq⟩ := pick1 h (ml 1000) (by simp) (by simp)
  refine ⟨d, q, ?_, wm_999 hd, hq⟩
  unfold m__law_wrong g__law_wrong
  rw [e_fnM]
  simp [ini, inD, inB, inL, flatD, eqF, pow20, e, -e_iopC]
theorem wrong_pl (p : Int) (hp : p = 1 ∨ p = 2 ∨ p = 3 ∨ p = 4 ∨ p = 5) (h : Pt pt) : ∃ d q, m__law_wrong [.pot, .int p] pt = .ok d q ∧ pl d = true ∧ Pt q := by
  rcases hp with hp | hp | hp | hp | hp
  · obtain ⟨d, q, e, w, hq⟩ := wrong12 p (.inl hp) h
    exact ⟨d, q, e, w.p, hq⟩
  · obtain ⟨d, q, e, w, hq⟩ := wrong12 p (.inr hp) h
    exact ⟨d, q, e, w.p, hq⟩
  · obtain ⟨d, q, e, w, _, hq⟩ := wrong34 p (.inl hp) h
    exact ⟨d, q, e, w.p, hq⟩
  · obtain ⟨d, q, e, w, _, hq⟩ := wrong34 p (.inr hp) h
    exact ⟨d, q, e, w.p, hq⟩
  · subst hp
    obtain ⟨d, q, e, w, hq⟩ := wrong5 h
    exact ⟨d, q, e, w.p, hq⟩
/-! ### heard -/
theorem heard1 {m : M D} {v : D} {q : Pot} (e : m pt = .exc 1 [v] q) : hm__law_heard m pt = .ok (.tup [.str "name", v]) q := by
  unfold hm__law_heard g__law_heard
  rw [e_lamM]
  simp [noOwnA, isOwn, e, catchS]
theorem heard2 {m : M D} {v : D} {q : Pot} (e : m pt = .exc 2 [v] q) : hm__law_heard m pt = .ok (.tup [.str "number", v]) q := by
  unfold hm__law_heard g__law_heard
  rw [e_lamM]
  simp [noOwnA, isOwn, e, catchS]
theorem heard3 {m : M D} {v : D} {q : Pot} (e : m pt = .exc 3 [v] q) : hm__law_heard m pt = .ok (.tup [.str "kind", v]) q := by
  unfold hm__law_heard g__law_heard
  rw [e_lamM]
  simp [noOwnA, isOwn, e, catchS]
end
end LW

set_option Elab.async false
set_option linter.all false
set_option maxRecDepth 100000
set_option maxHeartbeats 4000000
namespace LW
open PySem L2 DF
section
variable {pt : Pot} {nm : Str} {tk mk yn : Int} {bk mi : D}
abbrev ord : List D := [.int 0, .int 3, .int 4, .int 1, .int 2, .int 5]
abbrev uS (row : List D) (j p : Int) (x5 x6 x7 : Option SV) : Slots := [some (.val .pot), some (.val (.lst row)), some (.val (.lst ord)), some (.val (.int j)), some (.val (.int p)), x5, x6, x7, none]
theorem setL_at {bad : List D} {n : Nat} {w : D} (hb : bad.length = 6) (hn : n < 6) : setL bad (n : Int) w = some (bad.set n w) := by
  have h1 : (n : Int) < (6 : Nat) := by omega
  unfold setL ixN
  rw [if_pos (by omega), hb, if_pos h1, Int.toNat_natCast]
  rfl
theorem lat {row bad : List D} {j p : Int} {x7 : Option SV} (n : Nat) (h1 : 1 ≤ n) (h5 : n < 6) (hb : bad.length = 6) (ha : ∀ d ∈ bad, pl d = true) (h : Pt pt) : ∃ w q, pl w = true ∧ Pt q ∧
    g__law_refusals_right_b1 (uS row j p (some (.own bad)) (some (.val (.int (n : Int)))) x7) pt = .ok (.nx (uS row j p (some (.own (bad.set n w))) (some (.val (.int (n : Int)))) x7)) q := by
  obtain ⟨z, p1, e1, z0, z1, q1⟩ := draw1 (n := 3) h (by decide) (by decide)
  by_cases hz : z = 0
  · obtain ⟨w, q, e, hw, hq⟩ := wrong_pl (n : Int) (by omega) q1
    refine ⟨w, q, hw, hq, ?_⟩
    unfold g__law_refusals_right_b1
    simp [e1, hz, e, setL_at hb h5]
  · have hn : n < bad.length := by omega
    refine ⟨bad[n], p1, ha _ (List.getElem_mem hn), q1, ?_⟩
    unfold g__law_refusals_right_b1
    simp [e1, hz]
theorem set_pl {bad : List D} {n : Nat} {w : D} (ha : ∀ d ∈ bad, pl d = true) (hw : pl w = true) : ∀ d ∈ bad.set n w, pl d = true := fun d hd => by
  rcases List.mem_or_eq_of_mem_set hd with h | h
  · exact ha d h
  · rw [h]; exact hw
theorem rG {ds : List D} (h : ∃ x, shD (.tup ds) = some x ∧ shOk x = true) : ∃ t, reprG [.tup ds] = some (.str t) := by
  obtain ⟨x, e1, e2⟩ := h
  refine ⟨x.shown, ?_⟩
  show (shD (.tup ds)).bind _ = _
  rw [e1, Option.bind_some, if_pos e2]
theorem chk {ρ : Slots} {u : D} {t : Str} (h7 : ρ[7]? = some (some (.val u))) (hn : noOwnA ρ = true) (hh : hm__law_heard (callE 1 m__law_kind [] (consA (varE 5) nilA) ρ) pt = .ok u pt) (hr : reprG [u] = some (.str t)) :
    (ifS (testE (binE (pu dNe) (bltE (pu1 reprG) (consA (lamcE hm__law_heard (callE 1 m__law_kind [] (consA (varE 5) nilA))) nilA)) (bltE (pu1 reprG) (consA (bvarE 7) nilA)))) (retS (cE (.bl false))) nilS) ρ pt = .ok (.nx ρ) pt := by
  simp [h7, hn, hh, hr]
/-- one turn: bad, with the wrong value w at its place, is refused with w -/
theorem turn {row bad1 : List D} {j p : Int} {n : Nat} {x6 x6' x7 : Option SV} {w : D} {q1 q2 : Pot} {kind : Str} (hb : row.length = 6) (hp : p = (n : Int)) (h6 : n < 6) (L : List D)
    (ew : m__law_wrong [.pot, .int p] pt = .ok w q1) (hsl : slM (.lst ord) (some (j + 1)) none q1 = .ok (.lst L) q1)
    (hf : forL (tgN 6) g__law_refusals_right_b1 L (uS row j p (some (.own (row.set n w))) x6 x7) q1 = .ok (.nx (uS row j p (some (.own bad1)) x6' x7)) q2)
    (hk : ifE (testE (binE (pu inD) (bvarE 4) (boxE (lenA (consA (cE (.int 0)) (consA (cE (.int 3)) (consA (cE (.int 4)) nilA))))))) (cE (.str "name")) (cE (.str "number")) (uS row j p (some (.own bad1)) x6' x7) q2 = .ok (.str kind) q2)
    (hat : atI bad1 p = some w) (n6 : noOwnA (uS row j p (some (.val (.lst bad1))) x6' (some (.val (.tup [.str kind, w])))) = true)
    (he : hm__law_heard (callE 1 m__law_kind [] (consA (varE 5) nilA) (uS row j p (some (.val (.lst bad1))) x6' (some (.val (.tup [.str kind, w]))))) q2 = .ok (.tup [.str kind, w]) q2) (hs : ∃ x, shD (.tup [.str kind, w]) = some x ∧ shOk x = true) (x5 : Option SV) :
    g__law_refusals_right_b2 (uS row j p x5 x6 x7) pt = .ok (.nx (uS row j p (some (.val (.lst bad1))) x6' (some (.val (.tup [.str kind, w]))))) q2 := by
  subst hp
  obtain ⟨t, hr⟩ := rG hs
  have s1 : asgL 5 (bltE listF (consA (bvarE 1) nilA)) (uS row j n x5 x6 x7) pt = .ok (.nx (uS row j n (some (.own row)) x6 x7)) pt := by simp [listF, seqOf]
  have s2 : setS 5 (varE 4) (callE 2 m__law_wrong [] (consA (varE 0) (consA (varE 4) nilA))) (uS row j n (some (.own row)) x6 x7) pt = .ok (.nx (uS row j n (some (.own (row.set n w))) x6 x7)) q1 := by simp [ew, setL_at hb h6]
  have s3 : forS (itE (slE (bvarE 2) (soO (binE addU (bvarE 3) (cE (.int 1)))) noO)) (tgN 6) g__law_refusals_right_b1 (uS row j n (some (.own (row.set n w))) x6 x7) q1 = .ok (.nx (uS row j n (some (.own bad1)) x6' x7)) q2 := by
    rw [e_forS]
    have : itE (slE (bvarE 2) (soO (binE addU (bvarE 3) (cE (.int 1)))) noO) (uS row j n (some (.own (row.set n w))) x6 x7) q1 = .ok L q1 := by simp [hsl]
    rw [this, e_bndok, hf]
  have s4 : asgS 7 (tupE (consA (ifE (testE (binE (pu inD) (bvarE 4) (boxE (lenA (consA (cE (.int 0)) (consA (cE (.int 3)) (consA (cE (.int 4)) nilA))))))) (cE (.str "name")) (cE (.str "number"))) (consA (binE ixM (bvarE 5) (bvarE 4)) nilA))) (uS row j n (some (.own bad1)) x6' x7) q2 = .ok (.nx (uS row j n (some (.own bad1)) x6' (some (.val (.tup [.str kind, w]))))) q2 := by
    rw [e_asgS, e_tupE, e_consA, hk]
    simp [hat]
  have s5 := chk (pt := q2) (ρ := uS row j n (some (.val (.lst bad1))) x6' (some (.val (.tup [.str kind, w])))) rfl n6 he hr
  unfold g__law_refusals_right_b2
  rw [e_seqS, s1, e_bndok, e_seqK, e_seqS, s2, e_bndok, e_seqK, e_seqS, s3, e_bndok, e_seqK, e_seqS, s4, e_bndok, e_seqK, e_frzS]
  show (ifS _ _ _) (uS row j n (some (.val (.lst bad1))) x6' (some (.val (.tup [.str kind, w])))) q2 = _
  exact s5
theorem kindN (j : Int) (row bad : List D) (p : Int) (hp : p = 0 ∨ p = 3 ∨ p = 4) (x6 x7 : Option SV) : ifE (testE (binE (pu inD) (bvarE 4) (boxE (lenA (consA (cE (.int 0)) (consA (cE (.int 3)) (consA (cE (.int 4)) nilA))))))) (cE (.str "name")) (cE (.str "number")) (uS row j p (some (.own bad)) x6 x7) pt = .ok (.str "name") pt := by
  rcases hp with rfl | rfl | rfl <;> simp [inD, inB, inL, flatD, eqF]
theorem kindM (j : Int) (row bad : List D) (p : Int) (hp : p = 1 ∨ p = 2 ∨ p = 5) (x6 x7 : Option SV) : ifE (testE (binE (pu inD) (bvarE 4) (boxE (lenA (consA (cE (.int 0)) (consA (cE (.int 3)) (consA (cE (.int 4)) nilA))))))) (cE (.str "name")) (cE (.str "number")) (uS row j p (some (.own bad)) x6 x7) pt = .ok (.str "number") pt := by
  rcases hp with rfl | rfl | rfl <;> simp [inD, inB, inL, flatD, eqF]
theorem sl1 : slM (.lst ord) (some (0 + 1)) none pt = .ok (.lst [.int 3, .int 4, .int 1, .int 2, .int 5]) pt := by rfl
theorem sl2 : slM (.lst ord) (some (1 + 1)) none pt = .ok (.lst [.int 4, .int 1, .int 2, .int 5]) pt := by rfl
theorem sl3 : slM (.lst ord) (some (2 + 1)) none pt = .ok (.lst [.int 1, .int 2, .int 5]) pt := by rfl
theorem sl4 : slM (.lst ord) (some (3 + 1)) none pt = .ok (.lst [.int 2, .int 5]) pt := by rfl
theorem sl5 : slM (.lst ord) (some (4 + 1)) none pt = .ok (.lst [.int 5]) pt := by rfl
theorem sl6 : slM (.lst ord) (some (5 + 1)) none pt = .ok (.lst []) pt := by rfl
/-- several later places -/
theorem lats {row : List D} {j p : Int} {x7 : Option SV} : ∀ (ns : List Nat) (bad : List D) (x6 : Option SV) (pt : Pot), (∀ n ∈ ns, 1 ≤ n ∧ n < 6) → bad.length = 6 → (∀ d ∈ bad, pl d = true) → Pt pt → ∃ bad1 x6' q, bad1.length = 6 ∧ (∀ d ∈ bad1, pl d = true) ∧ Pt q ∧ (∀ i, i ∉ ns → bad1[i]? = bad[i]?) ∧ (x6' = x6 ∨ ∃ z, x6' = some (.val z)) ∧
    forL (tgN 6) g__law_refusals_right_b1 (ns.map fun (n : Nat) => D.int (n : Int)) (uS row j p (some (.own bad)) x6 x7) pt = .ok (.nx (uS row j p (some (.own bad1)) x6' x7)) q
  | [], bad, x6, pt, _, hb, ha, h => ⟨bad, x6, pt, hb, ha, h, fun _ _ => rfl, .inl rfl, rfl⟩
  | n :: ns, bad, x6, pt, hn, hb, ha, h => by
    obtain ⟨h1, h5⟩ := hn n List.mem_cons_self
    obtain ⟨w, q1, hw, hq, e⟩ := lat (row := row) (j := j) (p := p) (x7 := x7) n h1 h5 hb ha h
    obtain ⟨bad1, x6', q, k1, k2, k3, k4, k5, k6⟩ := lats (row := row) (j := j) (p := p) (x7 := x7) ns (bad.set n w) (some (.val (.int n))) q1 (fun m hm => hn m (List.mem_cons_of_mem _ hm)) (by rw [List.length_set]; exact hb) (set_pl ha hw) hq
    refine ⟨bad1, x6', q, k1, k2, k3, fun i hi => ?_, ?_, ?_⟩
    · rw [k4 i fun z => hi (List.mem_cons_of_mem _ z), List.getElem?_set_ne (show n ≠ i from fun z => hi (by rw [← z]; exact List.mem_cons_self))]
    · rcases k5 with k | k
      · exact .inr ⟨_, k⟩
      · exact .inr k
    · rw [List.map_cons, e_forL]
      simp only [e_tgN, List.length_cons, List.length_nil, e_bnd]
      simp [e, k6]
end
end LW

set_option Elab.async false
set_option linter.all false
set_option maxRecDepth 100000
set_option maxHeartbeats 4000000
namespace LW
open PySem L2 DF
section
variable {pt : Pot} {nm : Str} {tk mk yn : Int} {bk mi : D}
theorem row_pl (r : Row nm tk mk bk mi yn) : ∀ d ∈ rowD nm tk mk bk mi yn, pl d = true := fun d hd => by
  simp only [List.mem_cons, List.not_mem_nil, or_false] at hd
  rcases hd with rfl | rfl | rfl | rfl | rfl | rfl
  · exact lab_pl r.nm_
  · rfl
  · rfl
  · exact opt_pl r.bk_
  · exact opt_pl r.mi_
  · rfl
theorem six_of {bad : List D} (h : bad.length = 6) : ∃ a b c d e f, bad = [a, b, c, d, e, f] := match bad, h with
  | [a, b, c, d, e, f], _ => ⟨a, b, c, d, e, f, rfl⟩
theorem six_pl {a b c d e f : D} (h : ∀ x ∈ [a, b, c, d, e, f], pl x = true) : pl a = true ∧ pl b = true ∧ pl c = true ∧ pl d = true ∧ pl e = true ∧ pl f = true := ⟨h a (by simp), h b (by simp), h c (by simp), h d (by simp), h e (by simp), h f (by simp)⟩
def Bare (x : Option SV) : Prop := x = none ∨ ∃ z, x = some (.val z)
theorem bare_of {x y : Option SV} (h : y = x ∨ ∃ z, y = some (.val z)) (hx : Bare x) : Bare y := by
  rcases h with rfl | h
  · exact hx
  · exact .inr h
theorem no_own {row bad : List D} {j p : Int} {x6 : Option SV} {u : D} (h : Bare x6) : noOwnA (uS row j p (some (.val (.lst bad))) x6 (some (.val u))) = true := by
  rcases h with rfl | ⟨z, rfl⟩ <;> simp [noOwnA, isOwn]
/-- a turn, whatever comes later -/
theorem turn_of (r : Row nm tk mk bk mi yn) (h : Pt pt) {j p : Int} {n : Nat} {w : D} {q1 : Pot} (kind : Str) (ns : List Nat) (x5 x6 x7 : Option SV) (b6 : Bare x6) (hp : p = (n : Int)) (h6 : n < 6)
    (ew : m__law_wrong [.pot, .int p] pt = .ok w q1) (hq1 : Pt q1) (hw : pl w = true) (hns : ∀ m ∈ ns, 1 ≤ m ∧ m < 6) (hnn : n ∉ ns)
    (hsl : slM (.lst ord) (some (j + 1)) none q1 = .ok (.lst (ns.map fun (m : Nat) => D.int (m : Int))) q1)
    (hk : ∀ bad x6 q2, ifE (testE (binE (pu inD) (bvarE 4) (boxE (lenA (consA (cE (.int 0)) (consA (cE (.int 3)) (consA (cE (.int 4)) nilA))))))) (cE (.str "name")) (cE (.str "number")) (uS (rowD nm tk mk bk mi yn) j p (some (.own bad)) x6 x7) q2 = .ok (.str kind) q2)
    (hs : ∃ x, shD (.tup [.str kind, w]) = some x ∧ shOk x = true)
    (he : ∀ (bad1 : List D) (q2 : Pot), bad1.length = 6 → (∀ d ∈ bad1, pl d = true) → (∀ i, i ∉ ns → bad1[i]? = ((rowD nm tk mk bk mi yn).set n w)[i]?) → ∃ ec, (ec = 1 ∧ kind = "name" ∨ ec = 2 ∧ kind = "number") ∧ m__law_kind [.lst bad1] q2 = .exc ec [w] q2) :
    ∃ bad1 x6' u q2, g__law_refusals_right_b2 (uS (rowD nm tk mk bk mi yn) j p x5 x6 x7) pt = .ok (.nx (uS (rowD nm tk mk bk mi yn) j p (some (.val bad1)) x6' (some (.val u)))) q2 ∧ Bare x6' ∧ Pt q2 := by
  obtain ⟨bad1, x6', q2, k1, k2, k3, k4, k5, k6⟩ := lats (row := rowD nm tk mk bk mi yn) (j := j) (p := p) (x7 := x7) ns ((rowD nm tk mk bk mi yn).set n w) x6 q1 hns (by simp) (set_pl (row_pl r) hw) hq1
  obtain ⟨ec, hec, e2⟩ := he bad1 q2 k1 k2 k4
  have hat : atI bad1 p = some w := by
    have e1 : bad1[n]? = some w := by
      rw [k4 n hnn, List.getElem?_set_self (by simpa using h6)]
    unfold atI ixN
    rw [hp, if_pos (by omega), if_pos (by rw [k1]; omega), Option.bind_some, Int.toNat_natCast, e1]
  have b6' := bare_of k5 b6
  have ek : ∀ u, callE 1 m__law_kind [] (consA (varE 5) nilA) (uS (rowD nm tk mk bk mi yn) j p (some (.val (.lst bad1))) x6' (some (.val u))) q2 = .exc ec [w] q2 := fun u => by simp [e2]
  have hh : hm__law_heard (callE 1 m__law_kind [] (consA (varE 5) nilA) (uS (rowD nm tk mk bk mi yn) j p (some (.val (.lst bad1))) x6' (some (.val (.tup [.str kind, w]))))) q2 = .ok (.tup [.str kind, w]) q2 := by
    rcases hec with ⟨rfl, rfl⟩ | ⟨rfl, rfl⟩
    · exact heard1 (ek _)
    · exact heard2 (ek _)
  exact ⟨.lst bad1, x6', _, q2, turn (by simp) hp h6 _ ew hsl k6 (hk _ _ _) hat (no_own b6') hh hs x5, b6', k3⟩
theorem turn0 (r : Row nm tk mk bk mi yn) (h : Pt pt) (x5 x6 x7 : Option SV) (b6 : Bare x6) : ∃ bad1 x6' u q2, g__law_refusals_right_b2 (uS (rowD nm tk mk bk mi yn) 0 0 x5 x6 x7) pt = .ok (.nx (uS (rowD nm tk mk bk mi yn) 0 0 (some (.val bad1)) x6' (some (.val u)))) q2 ∧ Bare x6' ∧ Pt q2 := by
  obtain ⟨w, q1, ew, hw, hq1⟩ := wrong0 h
  refine turn_of r h (n := 0) "name" [3, 4, 1, 2, 5] x5 x6 x7 b6 rfl (by decide) ew hq1 hw.p (by decide) (by decide) sl1 (fun bad y q2 => kindN _ _ _ _ (.inl rfl) _ _) hw.s fun bad1 q2 k1 k2 k4 => ⟨1, .inl ⟨rfl, rfl⟩, ?_⟩
  obtain ⟨a, b, c, d, e, f, rfl⟩ := six_of k1
  obtain ⟨p1, p2, p3, p4, p5, p6⟩ := six_pl k2
  have ha := k4 0 (by decide)
  simp at ha
  subst ha
  rw [v_kind p1 p2 p3 p4 p5 p6]
  unfold kR
  rw [if_pos hw.n]
  rfl
theorem turn1 (r : Row nm tk mk bk mi yn) (h : Pt pt) (x5 x6 x7 : Option SV) (b6 : Bare x6) : ∃ bad1 x6' u q2, g__law_refusals_right_b2 (uS (rowD nm tk mk bk mi yn) 1 3 x5 x6 x7) pt = .ok (.nx (uS (rowD nm tk mk bk mi yn) 1 3 (some (.val bad1)) x6' (some (.val u)))) q2 ∧ Bare x6' ∧ Pt q2 := by
  obtain ⟨w, q1, ew, hw, hn, hq1⟩ := wrong34 3 (.inl rfl) h
  refine turn_of r h (n := 3) "name" [4, 1, 2, 5] x5 x6 x7 b6 rfl (by decide) ew hq1 hw.p (by decide) (by decide) sl2 (fun bad y q2 => kindN _ _ _ _ (.inr (.inl rfl)) _ _) hw.s fun bad1 q2 k1 k2 k4 => ⟨1, .inl ⟨rfl, rfl⟩, ?_⟩
  obtain ⟨a, b, c, d, e, f, rfl⟩ := six_of k1
  obtain ⟨p1, p2, p3, p4, p5, p6⟩ := six_pl k2
  have h0 := k4 0 (by decide)
  have h3 := k4 3 (by decide)
  simp at h0 h3
  subst h0 h3
  rw [v_kind p1 p2 p3 p4 p5 p6]
  have g1 : isNm (.str nm) = true := lab_nm r.nm_
  have g2 := opt_ok r.bk_
  have g3 := opt_ok r.mi_
  have g4 : isW (.int tk) 6 = true := by unfold isW; simp [r.tk_.1, r.tk_.2]
  have g5 : isW (.int mk) 6 = true := by unfold isW; simp [r.mk_.1, r.mk_.2]
  have gw : oB d = true := by unfold oB; rw [hn, hw.n]; rfl
  unfold kR
  simp [g1, gw]
theorem turn2 (r : Row nm tk mk bk mi yn) (h : Pt pt) (x5 x6 x7 : Option SV) (b6 : Bare x6) : ∃ bad1 x6' u q2, g__law_refusals_right_b2 (uS (rowD nm tk mk bk mi yn) 2 4 x5 x6 x7) pt = .ok (.nx (uS (rowD nm tk mk bk mi yn) 2 4 (some (.val bad1)) x6' (some (.val u)))) q2 ∧ Bare x6' ∧ Pt q2 := by
  obtain ⟨w, q1, ew, hw, hn, hq1⟩ := wrong34 4 (.inr rfl) h
  refine turn_of r h (n := 4) "name" [1, 2, 5] x5 x6 x7 b6 rfl (by decide) ew hq1 hw.p (by decide) (by decide) sl3 (fun bad y q2 => kindN _ _ _ _ (.inr (.inr rfl)) _ _) hw.s fun bad1 q2 k1 k2 k4 => ⟨1, .inl ⟨rfl, rfl⟩, ?_⟩
  obtain ⟨a, b, c, d, e, f, rfl⟩ := six_of k1
  obtain ⟨p1, p2, p3, p4, p5, p6⟩ := six_pl k2
  have h0 := k4 0 (by decide)
  have h3 := k4 3 (by decide)
  have h4 := k4 4 (by decide)
  simp at h0 h3 h4
  subst h0 h3 h4
  rw [v_kind p1 p2 p3 p4 p5 p6]
  have g1 : isNm (.str nm) = true := lab_nm r.nm_
  have g2 := opt_ok r.bk_
  have g3 := opt_ok r.mi_
  have g4 : isW (.int tk) 6 = true := by unfold isW; simp [r.tk_.1, r.tk_.2]
  have g5 : isW (.int mk) 6 = true := by unfold isW; simp [r.mk_.1, r.mk_.2]
  have gw : oB e = true := by unfold oB; rw [hn, hw.n]; rfl
  unfold kR
  simp [g1, g2, gw]
theorem turn3 (r : Row nm tk mk bk mi yn) (h : Pt pt) (x5 x6 x7 : Option SV) (b6 : Bare x6) : ∃ bad1 x6' u q2, g__law_refusals_right_b2 (uS (rowD nm tk mk bk mi yn) 3 1 x5 x6 x7) pt = .ok (.nx (uS (rowD nm tk mk bk mi yn) 3 1 (some (.val bad1)) x6' (some (.val u)))) q2 ∧ Bare x6' ∧ Pt q2 := by
  obtain ⟨w, q1, ew, hw, hq1⟩ := wrong12 1 (.inl rfl) h
  refine turn_of r h (n := 1) "number" [2, 5] x5 x6 x7 b6 rfl (by decide) ew hq1 hw.p (by decide) (by decide) sl4 (fun bad y q2 => kindM _ _ _ _ (.inl rfl) _ _) hw.s fun bad1 q2 k1 k2 k4 => ⟨2, .inr ⟨rfl, rfl⟩, ?_⟩
  obtain ⟨a, b, c, d, e, f, rfl⟩ := six_of k1
  obtain ⟨p1, p2, p3, p4, p5, p6⟩ := six_pl k2
  have h0 := k4 0 (by decide)
  have h1 := k4 1 (by decide)
  have h3 := k4 3 (by decide)
  have h4 := k4 4 (by decide)
  simp at h0 h1 h3 h4
  subst h0 h1 h3 h4
  rw [v_kind p1 p2 p3 p4 p5 p6]
  have g1 : isNm (.str nm) = true := lab_nm r.nm_
  have g2 := opt_ok r.bk_
  have g3 := opt_ok r.mi_
  have g4 : isW (.int tk) 6 = true := by unfold isW; simp [r.tk_.1, r.tk_.2]
  have g5 : isW (.int mk) 6 = true := by unfold isW; simp [r.mk_.1, r.mk_.2]
  have gw := hw.n
  unfold kR
  simp [g1, g2, g3, gw]
theorem turn4 (r : Row nm tk mk bk mi yn) (h : Pt pt) (x5 x6 x7 : Option SV) (b6 : Bare x6) : ∃ bad1 x6' u q2, g__law_refusals_right_b2 (uS (rowD nm tk mk bk mi yn) 4 2 x5 x6 x7) pt = .ok (.nx (uS (rowD nm tk mk bk mi yn) 4 2 (some (.val bad1)) x6' (some (.val u)))) q2 ∧ Bare x6' ∧ Pt q2 := by
  obtain ⟨w, q1, ew, hw, hq1⟩ := wrong12 2 (.inr rfl) h
  refine turn_of r h (n := 2) "number" [5] x5 x6 x7 b6 rfl (by decide) ew hq1 hw.p (by decide) (by decide) sl5 (fun bad y q2 => kindM _ _ _ _ (.inr (.inl rfl)) _ _) hw.s fun bad1 q2 k1 k2 k4 => ⟨2, .inr ⟨rfl, rfl⟩, ?_⟩
  obtain ⟨a, b, c, d, e, f, rfl⟩ := six_of k1
  obtain ⟨p1, p2, p3, p4, p5, p6⟩ := six_pl k2
  have h0 := k4 0 (by decide)
  have h1 := k4 1 (by decide)
  have h2 := k4 2 (by decide)
  have h3 := k4 3 (by decide)
  have h4 := k4 4 (by decide)
  simp at h0 h1 h2 h3 h4
  subst h0 h1 h2 h3 h4
  rw [v_kind p1 p2 p3 p4 p5 p6]
  have g1 : isNm (.str nm) = true := lab_nm r.nm_
  have g2 := opt_ok r.bk_
  have g3 := opt_ok r.mi_
  have g4 : isW (.int tk) 6 = true := by unfold isW; simp [r.tk_.1, r.tk_.2]
  have g5 : isW (.int mk) 6 = true := by unfold isW; simp [r.mk_.1, r.mk_.2]
  have gw := hw.n
  unfold kR
  simp [g1, g2, g3, g4, gw]
theorem turn5 (r : Row nm tk mk bk mi yn) (h : Pt pt) (x5 x6 x7 : Option SV) (b6 : Bare x6) : ∃ bad1 x6' u q2, g__law_refusals_right_b2 (uS (rowD nm tk mk bk mi yn) 5 5 x5 x6 x7) pt = .ok (.nx (uS (rowD nm tk mk bk mi yn) 5 5 (some (.val bad1)) x6' (some (.val u)))) q2 ∧ Bare x6' ∧ Pt q2 := by
  obtain ⟨w, q1, ew, hw, hq1⟩ := wrong5 h
  refine turn_of r h (n := 5) "number" [] x5 x6 x7 b6 rfl (by decide) ew hq1 hw.p (by decide) (by decide) sl6 (fun bad y q2 => kindM _ _ _ _ (.inr (.inr rfl)) _ _) hw.s fun bad1 q2 k1 k2 k4 => ⟨2, .inr ⟨rfl, rfl⟩, ?_⟩
  obtain ⟨a, b, c, d, e, f, rfl⟩ := six_of k1
  obtain ⟨p1, p2, p3, p4, p5, p6⟩ := six_pl k2
  have h0 := k4 0 (by decide)
  have h1 := k4 1 (by decide)
  have h2 := k4 2 (by decide)
  have h3 := k4 3 (by decide)
  have h4 := k4 4 (by decide)
  have h5 := k4 5 (by decide)
  simp at h0 h1 h2 h3 h4 h5
  subst h0 h1 h2 h3 h4 h5
  rw [v_kind p1 p2 p3 p4 p5 p6]
  have g1 : isNm (.str nm) = true := lab_nm r.nm_
  have g2 := opt_ok r.bk_
  have g3 := opt_ok r.mi_
  have g4 : isW (.int tk) 6 = true := by unfold isW; simp [r.tk_.1, r.tk_.2]
  have g5 : isW (.int mk) 6 = true := by unfold isW; simp [r.mk_.1, r.mk_.2]
  have gw := hw.n
  unfold kR
  simp [g1, g2, g3, g4, g5, gw]
end
end LW

set_option Elab.async false
set_option linter.all false
set_option maxRecDepth 100000
set_option maxHeartbeats 4000000
namespace LW
open PySem L2 DF
section
variable {pt : Pot} {nm : Str} {tk mk yn : Int} {bk mi : D}
theorem enum6 : enumA [.lst ord] = some [.tup [.int 0, .int 0], .tup [.int 1, .int 3], .tup [.int 2, .int 4], .tup [.int 3, .int 1], .tup [.int 4, .int 2], .tup [.int 5, .int 5]] := by rfl
theorem refusals1 (r : Row nm tk mk bk mi yn) (h : Pt pt) : ∃ q, m__law_refusals_right [.pot, .lst (rowD nm tk mk bk mi yn)] pt = .ok (.bl true) q ∧ Pt q := by
  obtain ⟨b0, y0, u0, q0, e0, f0, h0⟩ := turn0 r h none none none (.inl rfl)
  obtain ⟨b1, y1, u1, q1, e1, f1, h1⟩ := turn1 r h0 (some (.val b0)) y0 (some (.val u0)) f0
  obtain ⟨b2, y2, u2, q2, e2, f2, h2⟩ := turn2 r h1 (some (.val b1)) y1 (some (.val u1)) f1
  obtain ⟨b3, y3, u3, q3, e3, f3, h3⟩ := turn3 r h2 (some (.val b2)) y2 (some (.val u2)) f2
  obtain ⟨b4, y4, u4, q4, e4, f4, h4⟩ := turn4 r h3 (some (.val b3)) y3 (some (.val u3)) f3
  obtain ⟨b5, y5, u5, q5, e5, f5, h5⟩ := turn5 r h4 (some (.val b4)) y4 (some (.val u4)) f4
  refine ⟨q5, ?_, h5⟩
  have s1 : asgS 2 (boxE (lenA (consA (cE (.int 0)) (consA (cE (.int 3)) (consA (cE (.int 4)) (consA (cE (.int 1)) (consA (cE (.int 2)) (consA (cE (.int 5)) nilA)))))))) [some (.val .pot), some (.val (.lst (rowD nm tk mk bk mi yn))), none, none, none, none, none, none, none] pt = .ok (.nx [some (.val .pot), some (.val (.lst (rowD nm tk mk bk mi yn))), some (.val (.lst ord)), none, none, none, none, none, none]) pt := by simp
  have s2 : forS (itA enumA (consA (varE 2) nilA)) (tgT [(tgN 3), (tgN 4)]) g__law_refusals_right_b2 [some (.val .pot), some (.val (.lst (rowD nm tk mk bk mi yn))), some (.val (.lst ord)), none, none, none, none, none, none] pt = .ok (.nx (uS (rowD nm tk mk bk mi yn) 5 5 (some (.val b5)) y5 (some (.val u5)))) q5 := by
    simp [enum6, e0, e1, e2, e3, e4, e5]
  have s3 : asgL 8 (bltE listF (consA (bvarE 1) nilA)) (uS (rowD nm tk mk bk mi yn) 5 5 (some (.val b5)) y5 (some (.val u5))) q5 = .ok (.nx [some (.val .pot), some (.val (.lst (rowD nm tk mk bk mi yn))), some (.val (.lst ord)), some (.val (.int 5)), some (.val (.int 5)), some (.val b5), y5, some (.val u5), some (.own (rowD nm tk mk bk mi yn))]) q5 := by simp [listF, seqOf]
  have s4 : set2S 8 1 2 (consA (cE (.int 0)) (consA (cE (.int 0)) nilA)) [some (.val .pot), some (.val (.lst (rowD nm tk mk bk mi yn))), some (.val (.lst ord)), some (.val (.int 5)), some (.val (.int 5)), some (.val b5), y5, some (.val u5), some (.own (rowD nm tk mk bk mi yn))] q5 = .ok (.nx [some (.val .pot), some (.val (.lst (rowD nm tk mk bk mi yn))), some (.val (.lst ord)), some (.val (.int 5)), some (.val (.int 5)), some (.val b5), y5, some (.val u5), some (.own [.str nm, .int 0, .int 0, bk, mi, .int yn])]) q5 := by
    unfold set2S
    simp [setL, ixN]
  obtain ⟨t, hr⟩ := rG (sh_kind r.nm_)
  have nw : noOwnA [some (.val .pot), some (.val (.lst (rowD nm tk mk bk mi yn))), some (.val (.lst ord)), some (.val (.int 5)), some (.val (.int 5)), some (.val b5), y5, some (.val u5), some (.val (.lst [.str nm, .int 0, .int 0, bk, mi, .int yn]))] = true := by
    rcases f5 with rfl | ⟨z, rfl⟩ <;> simp [noOwnA, isOwn]
  have ek : m__law_kind [.lst [.str nm, .int 0, .int 0, bk, mi, .int yn]] q5 = .exc 3 [.str nm] q5 := by
    rw [v_kind (lab_pl r.nm_) rfl rfl (opt_pl r.bk_) (opt_pl r.mi_) rfl]
    have g1 : isNm (.str nm) = true := lab_nm r.nm_
    have g4 : isW (.int 0) 6 = true := by decide
    have g6 : isW (.int yn) 999 = true := by unfold isW; simp [r.yn_.1, r.yn_.2]
    unfold kR
    simp [g1, opt_ok r.bk_, opt_ok r.mi_, g4, g6, isZ]
  have ec : callE 1 m__law_kind [] (consA (varE 8) nilA) [some (.val .pot), some (.val (.lst (rowD nm tk mk bk mi yn))), some (.val (.lst ord)), some (.val (.int 5)), some (.val (.int 5)), some (.val b5), y5, some (.val u5), some (.val (.lst [.str nm, .int 0, .int 0, bk, mi, .int yn]))] q5 = .exc 3 [.str nm] q5 := by simp [ek]
  have hh := heard3 ec
  have s5 : retS (binE (pu dEq) (bltE (pu1 reprG) (consA (lamcE hm__law_heard (callE 1 m__law_kind [] (consA (varE 8) nilA))) nilA)) (bltE (pu1 reprG) (consA (tupE (consA (cE (.str "kind")) (consA (binE ixM (bvarE 1) (cE (.int 0))) nilA))) nilA))) [some (.val .pot), some (.val (.lst (rowD nm tk mk bk mi yn))), some (.val (.lst ord)), some (.val (.int 5)), some (.val (.int 5)), some (.val b5), y5, some (.val u5), some (.val (.lst [.str nm, .int 0, .int 0, bk, mi, .int yn]))] q5 = .ok (.rt (.bl true)) q5 := by
    simp [nw, hh, hr]
  unfold m__law_refusals_right g__law_refusals_right
  rw [e_fnM]
  show bndR (seqS _ _ [some (.val .pot), some (.val (.lst (rowD nm tk mk bk mi yn))), none, none, none, none, none, none, none] pt) finK = _
  rw [e_seqS, s1, e_bndok, e_seqK, e_seqS, s2, e_bndok, e_seqK, e_seqS, s3, e_bndok, e_seqK, e_seqS, s4, e_bndok, e_seqK, e_frzS]
  show bndR (retS _ [some (.val .pot), some (.val (.lst (rowD nm tk mk bk mi yn))), some (.val (.lst ord)), some (.val (.int 5)), some (.val (.int 5)), some (.val b5), y5, some (.val u5), some (.val (.lst [.str nm, .int 0, .int 0, bk, mi, .int yn]))] q5) finK = _
  rw [s5, e_bndok, e_finr]
end
end LW

set_option Elab.async false
set_option linter.all false
set_option maxRecDepth 100000
set_option maxHeartbeats 4000000
namespace LW
open PySem L2 DF
section
variable {pt : Pot} {nm : Str} {tk mk yn : Int} {bk mi : D}
theorem init_row (r : Row nm tk mk bk mi yn) : m_Kindzz_initzz [.str nm, .int tk, .int mk, bk, mi, .int yn] pt = .ok [.str nm, .int tk, .int mk, bk, mi, .int yn] pt := by
  rw [v_init (lab_pl r.nm_) rfl rfl (opt_pl r.bk_) (opt_pl r.mi_) rfl, row_kR r]
theorem bare_row (r : Row nm tk mk bk mi yn) : Row nm tk mk .non .non 1 := ⟨r.nm_, r.tk_, r.mk_, r.nz, .inl rfl, .inl rfl, ⟨by decide, by decide⟩⟩
abbrev rS (nm : Str) (tk mk : Int) (bk mi : D) (yn : Int) (x3 x4 x5 : Option SV) : Slots := [some (.val .pot), some (.val (.lst (rowD nm tk mk bk mi yn))), some (.val (.obj 0 (rowD nm tk mk bk mi yn))), x3, x4, x5]
theorem rb1 (r : Row nm tk mk bk mi yn) {d : List D} (ho : Other nm tk mk bk mi yn d) (x3 x4 : Option SV) : g__law_right_b1 (rS nm tk mk bk mi yn x3 x4 (some (.val (.lst d)))) pt = .ok (.nx (rS nm tk mk bk mi yn x3 x4 (some (.val (.lst d))))) pt := by
  obtain ⟨nm', tk', mk', bk', mi', yn', rfl, r', hn⟩ := ho
  have e1 := v_eq (pt := pt) r r'
  rw [hn] at e1
  have e2 := row_kind (pt := pt) r'
  unfold g__law_right_b1
  simp [e1, e2]
theorem rb2 {d : D} (hd : pl d = true) (hn : ∀ c fs, d ≠ .obj c fs) (x3 x4 : Option SV) : g__law_right_b2 (rS nm tk mk bk mi yn x3 x4 (some (.val d))) pt = .ok (.nx (rS nm tk mk bk mi yn x3 x4 (some (.val d)))) pt := by
  have e1 := v_eqO (pt := pt) (nm := nm) (tk := tk) (mk := mk) (bk := bk) (mi := mi) (yn := yn) hd hn
  have hk : (knd 1 d).isSome = true := by cases d <;> first | rfl | (cases hd; done)
  unfold g__law_right_b2
  simp [e1, hk]
theorem kText_len (r : Row nm tk mk bk mi yn) : (kText (told nm tk mk bk mi yn)).length ≤ 1000000 := by
  have hl := told_len (nm := nm) (tk := tk) (mk := mk) (bk := bk) (mi := mi) (yn := yn)
  obtain ⟨_, j2⟩ := join_ok (told nm tk mk bk mi yn) (by omega) (told_sm r)
  have k1 : (("Kind(" : String) : Str).length = 5 := by decide +kernel
  have k2 : ((")" : String) : Str).length = 1 := by decide +kernel
  unfold kText
  rw [Str.length_append, Str.length_append]
  omega
theorem right1 (h : Pt pt) : ∃ q, m__law_right [.pot] pt = .ok (.bl true) q ∧ Pt q := by
  obtain ⟨nm, tk, mk, bk, mi, yn, p1, e1, r, h1⟩ := fields1 h
  obtain ⟨a, b, c, d, e, f, p2, e2, h2, o1, o2, o3, o4, o5, o6⟩ := others1 r h1
  obtain ⟨p3, e3, h3⟩ := refusals1 r h2
  refine ⟨p3, ?_, h3⟩
  have rb := bare_row r
  have t1 : asgS 1 (callE 1 m__law_fields [] (consA (varE 0) nilA)) [some (.val .pot), none, none, none, none, none] pt = .ok (.nx [some (.val .pot), some (.val (.lst (rowD nm tk mk bk mi yn))), none, none, none, none]) p1 := by simp [e1]
  have hi := init_row (pt := p1) r
  have hk := row_kind (pt := p1) r
  have t2 : parS 2 3 (consA (callE 1 m__law_kind [] (consA (varE 1) nilA)) (consA (makeKE 0 7 0 6 m_Kindzz_initzz [(true, 5), (true, 4), (true, 3), (true, 2), (true, 1), (true, 0)] [] nilA (consA (binE ixM (bvarE 1) (cE (.int 5))) (consA (binE ixM (bvarE 1) (cE (.int 4))) (consA (binE ixM (bvarE 1) (cE (.int 3))) (consA (binE ixM (bvarE 1) (cE (.int 2))) (consA (binE ixM (bvarE 1) (cE (.int 1))) (consA (binE ixM (bvarE 1) (cE (.int 0))) nilA))))))) nilA)) [some (.val .pot), some (.val (.lst (rowD nm tk mk bk mi yn))), none, none, none, none] p1 = .ok (.nx (rS nm tk mk bk mi yn (some (.val (.obj 0 (rowD nm tk mk bk mi yn)))) none none)) p1 := by
    simp [hk, pick, hi]
  have ik := v_is_kind (pt := p1) r
  have eq := v_eq (pt := p1) r r
  rw [eqR_self r] at eq
  have t3 : ifS (orT (notT (testE (callE 2 m__law_is_kind [] (consA (varE 2) (consA (varE 1) nilA))))) (orT (notT (testE (callE 2 m__law_is_kind [] (consA (varE 3) (consA (varE 1) nilA))))) (orT (testE (binE (neM 1 0 m_Kindzz_eqzz) (varE 2) (varE 3))) (notT (testE (binE (ownM 1 0 m_Kindzz_eqzz) (varE 2) (varE 3))))))) (retS (cE (.bl false))) nilS (rS nm tk mk bk mi yn (some (.val (.obj 0 (rowD nm tk mk bk mi yn)))) none none) p1 = .ok (.nx (rS nm tk mk bk mi yn (some (.val (.obj 0 (rowD nm tk mk bk mi yn)))) none none)) p1 := by
    simp [ik, eq]
  have t4 : asgS 4 (boxE (lenA (consA (binE ixM (bvarE 1) (cE (.int 0))) (consA (binE ixM (bvarE 1) (cE (.int 1))) (consA (binE ixM (bvarE 1) (cE (.int 2))) (consA (cE .non) (consA (cE .non) (consA (cE (.int 1)) nilA)))))))) (rS nm tk mk bk mi yn (some (.val (.obj 0 (rowD nm tk mk bk mi yn)))) none none) p1 = .ok (.nx (rS nm tk mk bk mi yn (some (.val (.obj 0 (rowD nm tk mk bk mi yn)))) (some (.val (.lst (rowD nm tk mk .non .non 1)))) none)) p1 := by
    simp
  have ib := v_is_kind (pt := p1) rb
  have hib := init_row (pt := p1) rb
  have hkb := row_kind (pt := p1) rb
  have eqb := v_eq (pt := p1) rb rb
  rw [eqR_self rb] at eqb
  have t5 : ifS (orT (notT (testE (callE 2 m__law_is_kind [] (consA (makeE 0 7 m_Kindzz_initzz [.non, .non, .int 1] (consA (binE ixM (bvarE 1) (cE (.int 0))) (consA (binE ixM (bvarE 1) (cE (.int 1))) (consA (binE ixM (bvarE 1) (cE (.int 2))) nilA)))) (consA (varE 4) nilA))))) (testE (binE (neM 1 0 m_Kindzz_eqzz) (makeE 0 7 m_Kindzz_initzz [.non, .non, .int 1] (consA (binE ixM (bvarE 1) (cE (.int 0))) (consA (binE ixM (bvarE 1) (cE (.int 1))) (consA (binE ixM (bvarE 1) (cE (.int 2))) nilA)))) (callE 1 m__law_kind [] (consA (varE 4) nilA))))) (retS (cE (.bl false))) nilS (rS nm tk mk bk mi yn (some (.val (.obj 0 (rowD nm tk mk bk mi yn)))) (some (.val (.lst (rowD nm tk mk .non .non 1)))) none) p1 = .ok (.nx (rS nm tk mk bk mi yn (some (.val (.obj 0 (rowD nm tk mk bk mi yn)))) (some (.val (.lst (rowD nm tk mk .non .non 1)))) none)) p1 := by
    simp [ib, hib, hkb, eqb]
  have g1 := rb1 (pt := p2) r o1 (some (.val (.obj 0 (rowD nm tk mk bk mi yn)))) (some (.val (.lst (rowD nm tk mk .non .non 1))))
  have g2 := rb1 (pt := p2) r o2 (some (.val (.obj 0 (rowD nm tk mk bk mi yn)))) (some (.val (.lst (rowD nm tk mk .non .non 1))))
  have g3 := rb1 (pt := p2) r o3 (some (.val (.obj 0 (rowD nm tk mk bk mi yn)))) (some (.val (.lst (rowD nm tk mk .non .non 1))))
  have g4 := rb1 (pt := p2) r o4 (some (.val (.obj 0 (rowD nm tk mk bk mi yn)))) (some (.val (.lst (rowD nm tk mk .non .non 1))))
  have g5 := rb1 (pt := p2) r o5 (some (.val (.obj 0 (rowD nm tk mk bk mi yn)))) (some (.val (.lst (rowD nm tk mk .non .non 1))))
  have g6 := rb1 (pt := p2) r o6 (some (.val (.obj 0 (rowD nm tk mk bk mi yn)))) (some (.val (.lst (rowD nm tk mk .non .non 1))))
  have t6 : forS (itE (callE 2 m__law_others [] (consA (varE 0) (consA (varE 1) nilA)))) (tgN 5) g__law_right_b1 (rS nm tk mk bk mi yn (some (.val (.obj 0 (rowD nm tk mk bk mi yn)))) (some (.val (.lst (rowD nm tk mk .non .non 1)))) none) p1 = .ok (.nx (rS nm tk mk bk mi yn (some (.val (.obj 0 (rowD nm tk mk bk mi yn)))) (some (.val (.lst (rowD nm tk mk .non .non 1)))) (some (.val (.lst f))))) p2 := by
    simp [e2, g1, g2, g3, g4, g5, g6]
  have vr := v_repr (pt := p2) r
  have k1 := rb2 (pt := p2) (nm := nm) (tk := tk) (mk := mk) (bk := bk) (mi := mi) (yn := yn) (d := .non) rfl (fun _ _ z => nomatch z) (some (.val (.obj 0 (rowD nm tk mk bk mi yn)))) (some (.val (.lst (rowD nm tk mk .non .non 1))))
  have k2 := rb2 (pt := p2) (nm := nm) (tk := tk) (mk := mk) (bk := bk) (mi := mi) (yn := yn) (d := .str nm) (lab_pl r.nm_) (fun _ _ z => nomatch z) (some (.val (.obj 0 (rowD nm tk mk bk mi yn)))) (some (.val (.lst (rowD nm tk mk .non .non 1))))
  have k3 := rb2 (pt := p2) (nm := nm) (tk := tk) (mk := mk) (bk := bk) (mi := mi) (yn := yn) (d := .tup (rowD nm tk mk bk mi yn)) rfl (fun _ _ z => nomatch z) (some (.val (.obj 0 (rowD nm tk mk bk mi yn)))) (some (.val (.lst (rowD nm tk mk .non .non 1))))
  have k4 := rb2 (pt := p2) (nm := nm) (tk := tk) (mk := mk) (bk := bk) (mi := mi) (yn := yn) (d := .lst (rowD nm tk mk bk mi yn)) rfl (fun _ _ z => nomatch z) (some (.val (.obj 0 (rowD nm tk mk bk mi yn)))) (some (.val (.lst (rowD nm tk mk .non .non 1))))
  have k5 := rb2 (pt := p2) (nm := nm) (tk := tk) (mk := mk) (bk := bk) (mi := mi) (yn := yn) (d := .int 1) rfl (fun _ _ z => nomatch z) (some (.val (.obj 0 (rowD nm tk mk bk mi yn)))) (some (.val (.lst (rowD nm tk mk .non .non 1))))
  have k6 := rb2 (pt := p2) (nm := nm) (tk := tk) (mk := mk) (bk := bk) (mi := mi) (yn := yn) (d := .str (kText (told nm tk mk bk mi yn))) (decide_eq_true (kText_len r)) (fun _ _ z => nomatch z) (some (.val (.obj 0 (rowD nm tk mk bk mi yn)))) (some (.val (.lst (rowD nm tk mk .non .non 1))))
  have t7 : forS (itE (boxE (lenA (consA (cE .non) (consA (binE ixM (bvarE 1) (cE (.int 0))) (consA (bltE tupF (consA (bvarE 1) nilA)) (consA (varE 1) (consA (cE (.int 1)) (consA (bltE (txM 0 m_Kindzz_reprzz) (consA (bvarE 2) nilA)) nilA))))))))) (tgN 5) g__law_right_b2 (rS nm tk mk bk mi yn (some (.val (.obj 0 (rowD nm tk mk bk mi yn)))) (some (.val (.lst (rowD nm tk mk .non .non 1)))) (some (.val (.lst f)))) p2 = .ok (.nx (rS nm tk mk bk mi yn (some (.val (.obj 0 (rowD nm tk mk bk mi yn)))) (some (.val (.lst (rowD nm tk mk .non .non 1)))) (some (.val (.str (kText (told nm tk mk bk mi yn))))))) p2 := by
    simp [tupF, listF, seqOf, vr, k1, k2, k3, k4, k5, k6]
  have ik3 := v_is_kind (pt := p3) r
  have t8 : retS (andE (callE 2 m__law_refusals_right [] (consA (varE 0) (consA (varE 1) nilA))) (callE 2 m__law_is_kind [] (consA (varE 2) (consA (varE 1) nilA)))) (rS nm tk mk bk mi yn (some (.val (.obj 0 (rowD nm tk mk bk mi yn)))) (some (.val (.lst (rowD nm tk mk .non .non 1)))) (some (.val (.str (kText (told nm tk mk bk mi yn)))))) p2 = .ok (.rt (.bl true)) p3 := by
    simp [e3, ik3]
  unfold m__law_right g__law_right
  rw [e_fnM]
  show bndR (seqS _ _ [some (.val .pot), none, none, none, none, none] pt) finK = _
  rw [e_seqS, t1, e_bndok, e_seqK, e_seqS, t2, e_bndok, e_seqK, e_seqS, t3, e_bndok, e_seqK, e_seqS, t4, e_bndok, e_seqK, e_seqS, t5, e_bndok, e_seqK, e_seqS, t6, e_bndok, e_seqK, e_seqS, t7, e_bndok, e_seqK, t8, e_bndok, e_finr]
theorem maths : Good m__law_right := fun pt h => right1 h
end
end LW

set_option Elab.async false
set_option linter.all false
set_option maxRecDepth 100000
set_option maxHeartbeats 0
namespace LW
open PySem PySem.Spec PyProof.Rows L2 DF
abbrev R_ : PySem.W.OpenRow := PySem.W.OpenLaw.row PySem.Challenge.rw_stitchsizes_k15_kinds_by_their_fields
abbrev hk_ : PySem.W.Hook := hookY 6 oks fns tfs_
def ob_ (s : PySem.W.SharedT) : AlY := obsYG 6 oks fns tfs_ (HandSHeadRun.getT s)
theorem ob_eq (s : PySem.W.SharedT) : ob_ s = hk_.obs s.abs := obsYG_eq (HandSHeadRun.getT_eq s)
def loose_ : List Str := ["LETTERS", "MOST_SIGNS", "is_integer", "is_within", "is_name", "StitchError", "InvalidName", "InvalidNumber", "InvalidKind", "MOST_LOOPS", "MOST_YARN", "Kind", "_law_pot", "_law_draw", "_law_pick", "_law_label", "_law_fields", "_law_kind", "_law_heard", "_law_text", "_law_is_kind", "_law_others", "_law_wrong", "_law_refusals_right", "_law_right", "__name__"]
theorem run_ (w : World) : HandSHeadRun.RunEq R_ (PySem.W.view R_.prog [29]) hk_ ob_ 6000 loose_ w := by
  intro os
  kernel_rfl
theorem facts_ {P : Program} {w : World} {K : PySem.W.Frag} {h : Heap} {mg : Str → Option Value} {f : Addr} (X : K.In h) (G : h.Ns mainGlobals mg) (hfa : mg ("law" : Str) = some (.ref f)) (c : SaysZ oks fns K) :
    ∃ fd : FuncData, (∀ (s : Shared) (v : Value), BindsTo s fd ⟨[v], []⟩ [("_law_script", v)]) ∧ ∀ base : Heap, K.In base → base.Ns mainGlobals mg → TBs K mg base → FnG True P w K mg base (L2.CX P w) 11 f fd ["_law_script"] (spLaw K (tbOf cls_ tabs_ K)) := by
  have t : TX K mg := ⟨c, h, X, G⟩
  have e := hfa.symm.trans (t.glo (x := "law") 67)
  cases e
  have b := FunD.bindsA (ps := ["_law_script"]) (u_law t) fun _ _ _ _ _ _ us hl => match us, hl with | [_], _ => rfl
  exact ⟨_, fun s v => b s [v] rfl, fun base _ _ tB => ok_law maths t tB (t.free (x := "len") 3) (t.free (x := "max") 68) (t.free (x := "min") 69) (t.free (x := "abs") 70) (t.free (x := "int") 1) (t.free (x := "range") 5) (t.glo (x := "_law_pot") 66) (t.glo (x := "_law_right") 71)⟩
end LW
open PySem PySem.W PySem.Calls PyProof.Rows
theorem PySem.Challenge.cw_stitchsizes_k15_kinds_by_their_fields_holds : PySem.Challenge.rw_stitchsizes_k15_kinds_by_their_fields.Holds := by
  w_on; o_law
  refine HandSHeadRun.head_any (r := OpenLaw.row PySem.Challenge.rw_stitchsizes_k15_kinds_by_their_fields) (q := view (OpenLaw.row PySem.Challenge.rw_stitchsizes_k15_kinds_by_their_fields).prog [29]) (H := LW.hk_) (ob := LW.ob_) (M := 6000) (loose := LW.loose_) (d := HandSHeadRun.topDef (OpenLaw.row PySem.Challenge.rw_stitchsizes_k15_kinds_by_their_fields).prog 29) (kwd := []) LW.ob_eq
    (by kernel_rfl) (fun s => by kernel_rfl) LW.run_ (by kernel_rfl) (by kernel_rfl) (by kernel_rfl) (by rfl) (by first | assumption | decide +kernel) (by decide +kernel) ⟨rfl, rfl, rfl, rfl, rfl, by decide +kernel⟩ ?hw ?hc
  case hw => w_witness2
  case hc =>
    refine DF.walkG (lw := PySem.Challenge.rw_stitchsizes_k15_kinds_by_their_fields) (k := 11) (x := "_law_script") rfl (by kernel_rfl) ⟨rfl, by decide, by decide⟩ ?F
    intro w mg fa h Y G hmg0
    obtain ⟨K, KX, c⟩ := Y
    have hmg : mg ("law" : PySem.Str) = some (.ref fa) := by
      have e : (HandSHeadRun.topDef (OpenLaw.row PySem.Challenge.rw_stitchsizes_k15_kinds_by_their_fields).prog 29).name = ("law" : PySem.Str) := by kernel_rfl
      rw [← e]
      exact hmg0
    obtain ⟨fd, hb, hF⟩ := LW.facts_ (P := (PySem.Challenge.rw_stitchsizes_k15_kinds_by_their_fields).prog) (w := w) KX G hmg c.z
    refine ⟨K, fd, LW.tfs_.map (He.cT K), DF.tbOf LW.cls_ LW.tabs_ K, KX, fun p hp => ?_, fun p hp => ?_, fun p hp => ?_, fun q hq => ?_, hb, fun bb k1 k2 k3 => hF bb k1 k2 fun i p hi => k3 _ (List.mem_map.mpr ⟨p, List.mem_of_getElem? hi, rfl⟩)⟩
    · obtain ⟨q, hq, e⟩ := List.mem_map.mp hp
      exact e ▸ c.em q hq
    · obtain ⟨q, hq, e⟩ := List.mem_map.mp hp
      exact e ▸ c.out q hq
    · obtain ⟨q, hq, e⟩ := List.mem_map.mp hp
      exact e ▸ PySem.W.codeHd_of_K KX (c.hd q hq)
    · have e := List.mem_singleton.mp hq
      exact ⟨_, List.mem_singleton.mpr rfl, by rw [e]; rfl⟩

