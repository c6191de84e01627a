import PyProof.Rows.All
import Wide.All
import OpenK.AllK
import Wide.FinOn
import HandS.ForMost
import HandS.ForExc
import HandS.Wide
import HandS.WideBits
import HandS.Property
import HandS.Defaults
import KE.KOpsOwn
import KE.KCallOwn
import HandS.IsInst
import HandS.FStr
import HandS.RaiseMore
import HandS.Zip
import HandS.Text
import HandS.Style
import HandS.TryOnly
import HandS.Head0
import HandS.Head1
import HandS.Head2
import HandS.HeadEnd
import HandS.HeadHook1
import HandS.HeadHook2
import HandS.HeadNt
import HandS.Ends
import PySem.Challenge.RW_stitchsizes_k31_whole_forms
set_option Elab.async false
set_option linter.all false
set_option maxRecDepth 100000
set_option maxHeartbeats 4000000
/-! DF: Python data as plain Lean data (D), and what a piece of the text does to it. -/
namespace DF
open PySem L2

inductive D where
  | non | bl (b : Bool) | int (i : Int) | str (x : Str)
  | tup (ds : List D) | lst (ds : List D)
  | dct (kvs : List (Key × D))
  | obj (c : Nat) (fs : List D)
  | pot
  | fn (n : Nat) | cls (c : Nat) | ty (n : String)

/-- the pot that is drawn from: two ints -/
abbrev Pot := Int × Int
inductive Res (α : Type) where
  | ok (a : α) (p : Pot)
  | exc (c : Nat) (fs : List D) (p : Pot)
  | stuck
abbrev M (α : Type) := Pot → Res α
section
variable {α β : Type}
def ret (a : α) : M α := fun p => .ok a p
def fail : M α := fun _ => .stuck
def bnd (m : M α) (f : α → M β) : M β := fun p => match m p with
  | .ok a p' => f a p'
  | .exc c fs p' => .exc c fs p'
  | .stuck => .stuck
def opt : Option α → M α
  | some a => ret a
  | none => fail
end

/-- where classes and defs stand; the fields of a class in their order -/
structure Tb where
  cls : Nat → Addr
  names : Nat → List Str
  fn : Nat → Addr

mutual
def R (K : PySem.W.Frag) (T : Tb) (p : Addr) (H : Hp) : D → V → Prop
  | .non, v => v = .non
  | .bl b, v => v = .bl b
  | .int i, v => v = .int i
  | .str x, v => v = .str x
  | .tup ds, v => ∃ a vs, v = .ref a ∧ SqT K H a vs ∧ RL K T p H ds vs
  | .lst ds, v => ∃ a vs, v = .ref a ∧ H a = some (.lst vs) ∧ RL K T p H ds vs
  | .dct kvs, v => ∃ a es, v = .ref a ∧ H a = some (.dK es) ∧ RK K T p H kvs es
  | .obj c fs, v => ∃ a dx vs, v = .ref a ∧ H a = some (.ins (T.cls c) dx ((T.names c).zip vs)) ∧ fs.length = (T.names c).length ∧ RL K T p H fs vs
  | .pot, v => v = .ref p
  | .fn n, v => v = .ref (T.fn n)
  | .cls c, v => v = .ref (T.cls c)
  | .ty n, v => v = .ty n
def RL (K : PySem.W.Frag) (T : Tb) (p : Addr) (H : Hp) : List D → List V → Prop
  | [], vs => vs = []
  | d :: ds, vs => ∃ v ws, vs = v :: ws ∧ R K T p H d v ∧ RL K T p H ds ws
def RK (K : PySem.W.Frag) (T : Tb) (p : Addr) (H : Hp) : List (Key × D) → List (Key × V) → Prop
  | [], vs => vs = []
  | (k, d) :: ds, vs => ∃ v ws, vs = (k, v) :: ws ∧ R K T p H d v ∧ RK K T p H ds ws
end

/-- a heap that has grown -/
def Gr (H H' : Hp) : Prop := ∀ a o, H a = some o → H' a = some o
theorem Gr.refl (H : Hp) : Gr H H := fun _ _ h => h
theorem Gr.trans {H H1 H2 : Hp} (a : Gr H H1) (b : Gr H1 H2) : Gr H H2 := fun x o h => b x o (a x o h)
theorem Gr.sqt {K : PySem.W.Frag} {H H' : Hp} {a : Addr} {xs : List V} (e : Gr H H') (h : SqT K H a xs) : SqT K H' a xs :=
  h.elim (fun h => .inl (h.elim (fun h => .inl (e _ _ h)) fun ⟨o, h⟩ => .inr ⟨o, e _ _ h⟩)) fun h => .inr h
theorem Gr.sql {K : PySem.W.Frag} {H H' : Hp} {a : Addr} {xs : List V} (e : Gr H H') (h : SqL K H a xs) : SqL K H' a xs :=
  h.elim (fun h => .inl (h.elim (fun h => .inl (e _ _ h)) fun ⟨o, h⟩ => .inr ⟨o, e _ _ h⟩)) fun h => .inr h
theorem Gr.rd {H H' : Hp} {a : Addr} {u : HO} (e : Gr H H') (h : Rd H a u) : Rd H' a u := h.elim (fun h => .inl (e _ _ h)) fun ⟨o, h⟩ => .inr ⟨o, e _ _ h⟩

mutual
theorem R.gr {K : PySem.W.Frag} {T : Tb} {p : Addr} {H H' : Hp} (g : Gr H H') : ∀ {d : D} {v : V}, R K T p H d v → R K T p H' d v
  | .non, _, h | .bl _, _, h | .int _, _, h | .str _, _, h | .pot, _, h | .fn _, _, h | .cls _, _, h | .ty _, _, h => by simpa [R] using h
  | .tup ds, v, h => by
    simp only [R] at h ⊢
    obtain ⟨a, vs, e, s, r⟩ := h
    exact ⟨a, vs, e, g.sqt s, RL.gr g r⟩
  | .lst ds, v, h => by
    simp only [R] at h ⊢
    obtain ⟨a, vs, e, s, r⟩ := h
    exact ⟨a, vs, e, g _ _ s, RL.gr g r⟩
  | .dct ds, v, h => by
    simp only [R] at h ⊢
    obtain ⟨a, vs, e, s, r⟩ := h
    exact ⟨a, vs, e, g _ _ s, RK.gr g r⟩
  | .obj c fs, v, h => by
    simp only [R] at h ⊢
    obtain ⟨a, dx, vs, e, s, l, r⟩ := h
    exact ⟨a, dx, vs, e, g _ _ s, l, RL.gr g r⟩
theorem RL.gr {K : PySem.W.Frag} {T : Tb} {p : Addr} {H H' : Hp} (g : Gr H H') : ∀ {ds : List D} {vs : List V}, RL K T p H ds vs → RL K T p H' ds vs
  | [], _, h => by simpa [RL] using h
  | d :: ds, vs, h => by
    simp only [RL] at h ⊢
    obtain ⟨v, ws, e, r, rs⟩ := h
    exact ⟨v, ws, e, R.gr g r, RL.gr g rs⟩
theorem RK.gr {K : PySem.W.Frag} {T : Tb} {p : Addr} {H H' : Hp} (g : Gr H H') : ∀ {ds : List (Key × D)} {vs : List (Key × V)}, RK K T p H ds vs → RK K T p H' ds vs
  | [], _, h => by simpa [RK] using h
  | (k, d) :: ds, vs, h => by
    simp only [RK] at h ⊢
    obtain ⟨v, ws, e, r, rs⟩ := h
    exact ⟨v, ws, e, R.gr g r, RK.gr g rs⟩
end

/-- some addresses left out of sight -/
def Hd (S : List Addr) (H : Hp) : Hp := fun a => if a ∈ S then none else H a
theorem Hd.in_ {S : List Addr} {H : Hp} {a : Addr} (h : a ∈ S) : Hd S H a = none := if_pos h
theorem Hd.out {S : List Addr} {H : Hp} {a : Addr} (h : a ∉ S) : Hd S H a = H a := if_neg h
theorem Hd.sees {S : List Addr} {H : Hp} {a : Addr} {o : HO} (h : Hd S H a = some o) : a ∉ S ∧ H a = some o := by
  unfold Hd at h
  by_cases q : a ∈ S
  · rw [if_pos q] at h; cases h
  · rw [if_neg q] at h; exact ⟨q, h⟩
theorem Hd.le {S : List Addr} {H : Hp} : Gr (Hd S H) H := fun a o h => (Hd.sees h).2
/-- fewer hidden -/
theorem Hd.sub {S S' : List Addr} {H : Hp} (s : ∀ a ∈ S', a ∈ S) : Gr (Hd S H) (Hd S' H) := fun a o h => by
  obtain ⟨h1, h2⟩ := Hd.sees h
  rw [Hd.out (fun q => h1 (s a q))]
  exact h2

/-- the context of a body: the text's facts, the pot, the heap at the entry -/
structure Cy where
  K : PySem.W.Frag
  T : Tb
  p : Addr
  S : List Addr
  H0 : Hp
  me : Addr
abbrev Cy.R (c : Cy) (H : Hp) (d : D) (v : V) : Prop := DF.R c.K c.T c.p H d v
abbrev Cy.RL (c : Cy) (H : Hp) (d : List D) (v : List V) : Prop := DF.RL c.K c.T c.p H d v

def potO (pt : Pot) : HO := .lst [.int pt.1, .int pt.2]
/-- from H to H': all but the pot is kept -/
structure Stp (p : Addr) (H H' : Hp) (pt : Pot) : Prop where
  keep : ∀ a o, a ≠ p → H a = some o → H' a = some o
  pot : H' p = some (potO pt)
theorem Stp.trans {p : Addr} {H H1 H2 : Hp} {q r : Pot} (a : Stp p H H1 q) (b : Stp p H1 H2 r) : Stp p H H2 r := ⟨fun x o n h => b.keep x o n (a.keep x o n h), b.pot⟩
theorem Stp.gr {p : Addr} {H H' : Hp} {pt : Pot} (s : Stp p H H' pt) {S : List Addr} (hp : p ∈ S) : Gr (Hd S H) (Hd S H') := fun a o h => by
  obtain ⟨h1, h2⟩ := Hd.sees h
  rw [Hd.out h1]
  exact s.keep a o (fun e => h1 (e ▸ hp)) h2

inductive SV where
  | val (d : D)
  | own (ds : List D)
  | ownd (kvs : List (Key × D))
  | slf (c : Nat) (fs : List D)
abbrev Slots := List (Option SV)
def isOwn : SV → Bool
  | .val _ => false
  | _ => true

abbrev hid (c : Cy) (O : List (Nat × Addr)) : List Addr := c.S ++ O.map (·.2)
def SlotOk (c : Cy) (O : List (Nat × Addr)) (H : Hp) (i : Nat) (x : Option (Option V)) : SV → Prop
  | .val d => ∃ v, x = some (some v) ∧ c.R (Hd (hid c O) H) d v
  | .own ds => ∃ a vs, (i, a) ∈ O ∧ x = some (some (.ref a)) ∧ H a = some (.lst vs) ∧ c.RL (Hd (hid c O) H) ds vs
  | .ownd kvs => ∃ a vs, (i, a) ∈ O ∧ x = some (some (.ref a)) ∧ H a = some (.dK vs) ∧ RK c.K c.T c.p (Hd (hid c O) H) kvs vs
  | .slf k fs => ∃ a dx vs, (i, a) ∈ O ∧ a = c.me ∧ x = some (some (.ref a)) ∧ H a = some (.ins (c.T.cls k) dx ((c.T.names k).zip vs)) ∧ fs.length ≤ (c.T.names k).length ∧ c.RL (Hd (hid c O) H) fs vs
structure RS (c : Cy) (O : List (Nat × Addr)) (ρ : Slots) (σ : L2.St) (H : Hp) (pt : Pot) : Prop where
  pot : H c.p = some (potO pt)
  ext : ∀ a o, a ≠ c.p → c.H0 a = some o → H a = some o
  hp : c.p ∈ c.S
  hS : ∀ a ∈ c.S, ∃ o, H a = some o
  new : ∀ q ∈ O, c.H0 q.2 = none ∧ q.2 ≠ c.p ∧ q.2 ∉ c.S ∧ ∃ o, H q.2 = some o
  nd : (O.map (·.2)).Nodup
  nf : (O.map (·.1)).Nodup
  len : ρ.length = σ.length
  ow : ∀ q ∈ O, ∃ s, ρ[q.1]? = some (some s) ∧ isOwn s = true
  sl : ∀ i s, ρ[i]? = some (some s) → SlotOk c O H i σ[i]? s

theorem SlotOk.stp {c : Cy} {O : List (Nat × Addr)} {H H' : Hp} {pt : Pot} {i : Nat} {x : Option (Option V)} {s : SV} (st : Stp c.p H H' pt) (hp : c.p ∈ c.S) (np : ∀ q ∈ O, q.2 ≠ c.p) (h : SlotOk c O H i x s) : SlotOk c O H' i x s := by
  have g : Gr (Hd (hid c O) H) (Hd (hid c O) H') := st.gr (List.mem_append_left _ hp)
  cases s with
  | val d =>
    obtain ⟨v, e, r⟩ := h
    exact ⟨v, e, R.gr g r⟩
  | own ds =>
    obtain ⟨a, vs, m, e, q, r⟩ := h
    exact ⟨a, vs, m, e, st.keep _ _ (np _ m) q, RL.gr g r⟩
  | ownd ds =>
    obtain ⟨a, vs, m, e, q, r⟩ := h
    exact ⟨a, vs, m, e, st.keep _ _ (np _ m) q, RK.gr g r⟩
  | slf k fs =>
    obtain ⟨a, dx, vs, m, em, e, q, l, r⟩ := h
    exact ⟨a, dx, vs, m, em, e, st.keep _ _ (np _ m) q, l, RL.gr g r⟩
theorem RS.stp {c : Cy} {O : List (Nat × Addr)} {ρ : Slots} {σ : L2.St} {H H' : Hp} {pt pt' : Pot} (r : RS c O ρ σ H pt) (st : Stp c.p H H' pt') : RS c O ρ σ H' pt' :=
  ⟨st.pot, fun a o n h => st.keep a o n (r.ext a o n h), r.hp, fun a ha => let ⟨o, e⟩ := r.hS a ha; if q : a = c.p then ⟨_, q ▸ st.pot⟩ else ⟨o, st.keep a o q e⟩, fun q hq => let ⟨h1, h2, h4, o, h3⟩ := r.new q hq; ⟨h1, h2, h4, o, st.keep _ _ h2 h3⟩, r.nd, r.nf, r.len, r.ow, fun i s h => (r.sl i s h).stp st r.hp fun q hq => (r.new q hq).2.1⟩

/-- an exception of the text as data -/
def RX (c : Cy) (H : Hp) (e : Nat) (fs : List D) (cls : Value) (dd : Option Addr) : Prop :=
  cls = .ref (c.T.cls e) ∧ ((fs = [] ∧ dd = none) ∨ ∃ d vs, dd = some d ∧ d ∉ c.S ∧ H d = some (.xd ((c.T.names e).zip vs)) ∧ fs.length = (c.T.names e).length ∧ c.RL (Hd c.S H) fs vs)
/-- the heap when a body is left -/
structure Fin (c : Cy) (H : Hp) (pt : Pot) : Prop where
  pot : H c.p = some (potO pt)
  ext : ∀ a o, a ≠ c.p → c.H0 a = some o → H a = some o

/-- what is wanted of an outcome: its value with the heap behind it, or its exception -/
def Wg {α : Type} (c : Cy) (W : WX) (σ : L2.St) (H : Hp) (P : α → Pot → Hp → Prop) : Res α → Prop
  | .ok a pt => ∀ H', Stp c.p H H' pt → P a pt H'
  | .exc e fs pt => ∀ cls dd H', Fin c H' pt → RX c H' e fs cls dd → W cls dd σ H'
  | .stuck => False
def dE (c : Cy) (W : WX) (f : Slots → M D) : TE := fun σ H Q => ∃ O ρ pt, RS c O ρ σ H pt ∧ Wg c W σ H (fun d _ H' => ∀ v, c.R (Hd (hid c O) H') d v → Q v H') (f ρ pt)
/-- a value, or a list or dict that may still be changed: to be looked at, not to be kept -/
def RB (c : Cy) (O : List (Nat × Addr)) (H : Hp) (d : D) (v : V) : Prop :=
  c.R (Hd (hid c O) H) d v ∨ (∃ i a ds vs, d = .lst ds ∧ v = .ref a ∧ (i, a) ∈ O ∧ H a = some (.lst vs) ∧ c.RL (Hd (hid c O) H) ds vs) ∨
    (∃ i a ds vs, d = .dct ds ∧ v = .ref a ∧ (i, a) ∈ O ∧ H a = some (.dK vs) ∧ RK c.K c.T c.p (Hd (hid c O) H) ds vs)
def dB (c : Cy) (W : WX) (f : Slots → M D) : TE := fun σ H Q => ∃ O ρ pt, RS c O ρ σ H pt ∧ Wg c W σ H (fun d _ H' => ∀ v, RB c O H' d v → Q v H') (f ρ pt)
def dT (c : Cy) (W : WX) (f : Slots → M Bool) : TT := fun σ H Q => ∃ O ρ pt, RS c O ρ σ H pt ∧ Wg c W σ H (fun b _ H' => Q b H') (f ρ pt)
def dA (c : Cy) (W : WX) (f : Slots → M (List D)) : TA := fun σ H Q => ∃ O ρ pt, RS c O ρ σ H pt ∧ Wg c W σ H (fun d _ H' => ∀ v, c.RL (Hd (hid c O) H') d v → Q v H') (f ρ pt)
inductive Out where
  | nx (ρ : Slots) | rt (d : D) | bk (ρ : Slots) | ct (ρ : Slots)
/-- what cannot change any more stays so -/
def Mv (c : Cy) (O : List (Nat × Addr)) (H : Hp) (O' : List (Nat × Addr)) (H' : Hp) : Prop := ∀ a o, a ∉ hid c O → H a = some o → a ∉ hid c O' ∧ H' a = some o
theorem Mv.trans {c : Cy} {O O1 O2 : List (Nat × Addr)} {H H1 H2 : Hp} (a : Mv c O H O1 H1) (b : Mv c O1 H1 O2 H2) : Mv c O H O2 H2 := fun x o h e => b x o (a x o h e).1 (a x o h e).2
theorem Mv.gr {c : Cy} {O O1 : List (Nat × Addr)} {H H1 : Hp} (a : Mv c O H O1 H1) : Gr (Hd (hid c O) H) (Hd (hid c O1) H1) := fun x o h => by
  obtain ⟨h1, h2⟩ := Hd.sees h
  obtain ⟨q1, q2⟩ := a x o h1 h2
  rw [Hd.out q1]
  exact q2
theorem Stp.mv {c : Cy} {O : List (Nat × Addr)} {H H1 : Hp} {pt : Pot} (s : Stp c.p H H1 pt) (hp : c.p ∈ c.S) : Mv c O H O H1 := fun a o h e => ⟨h, s.keep a o (fun q => h (q ▸ List.mem_append_left _ hp)) e⟩
def WO (c : Cy) (W : WX) (E : Ends) (O : List (Nat × Addr)) (H : Hp) : Res Out → Prop
  | .ok (.nx ρ') pt' => ∀ O' σ' H', RS c O' ρ' σ' H' pt' → Mv c O H O' H' → E.nx σ' H'
  | .ok (.bk ρ') pt' => ∀ O' σ' H', RS c O' ρ' σ' H' pt' → Mv c O H O' H' → E.bk σ' H'
  | .ok (.ct ρ') pt' => ∀ O' σ' H', RS c O' ρ' σ' H' pt' → Mv c O H O' H' → E.ct σ' H'
  | .ok (.rt d) pt' => ∀ v H', Fin c H' pt' → c.R (Hd c.S H') d v → E.rt v H'
  | .exc e fs pt' => ∀ cls dd σ' H', Fin c H' pt' → RX c H' e fs cls dd → W cls dd σ' H'
  | .stuck => False
def dS (c : Cy) (W : WX) (g : Slots → M Out) : TS := fun E σ H => ∃ O ρ pt, RS c O ρ σ H pt ∧ WO c W E O H (g ρ pt)
/-- a new list -/
def dL (c : Cy) (W : WX) (f : Slots → M (List D)) : TE := fun σ H Q => ∃ O ρ pt, RS c O ρ σ H pt ∧ Wg c W σ H (fun ds _ H' => ∀ l vs, H l = none → H' l = some (.lst vs) → c.RL (Hd (l :: hid c O) H') ds vs → Q (.ref l) H') (f ρ pt)

/-! ### weakening a judgement -/
section
variable {X : Cx}
theorem pe_imp {e : Expr} {t t' : TE} (h : PE X e t) (i : ∀ σ H Q, t' σ H Q → t σ H Q) : PE X e t' := ⟨fun pins s σ H Q I q => h.run pins s σ H Q I (i σ H Q q)⟩
theorem pt_imp {e : Expr} {t t' : TT} (h : PT X e t) (i : ∀ σ H Q, t' σ H Q → t σ H Q) : PT X e t' := ⟨fun pins s σ H Q I q => h.run pins s σ H Q I (i σ H Q q)⟩
theorem pw_imp {e : Expr} {t t' : TT} (h : PW X e t) (i : ∀ σ H Q, t' σ H Q → t σ H Q) : PW X e t' := ⟨fun wh pins s σ H Q I q => h.run wh pins s σ H Q I (i σ H Q q)⟩
theorem pa_imp {e : List Expr} {t t' : TA} (h : PA X e t) (i : ∀ σ H Q, t' σ H Q → t σ H Q) : PA X e t' := ⟨fun pos pins s σ H Q I q => h.run pos pins s σ H Q I (i σ H Q q)⟩
theorem ps_imp {st : Stmt} {t t' : TS} (h : PS X st t) (i : ∀ E σ H, t' E σ H → t E σ H) : PS X st t' := ⟨fun pins s σ H Q I q => h.run pins s σ H Q I (i Q σ H q)⟩
theorem pss_imp {st : List Stmt} {t t' : TS} (h : PSs X st t) (i : ∀ E σ H, t' E σ H → t E σ H) : PSs X st t' := ⟨fun pins s σ H Q I q => h.run pins s σ H Q I (i Q σ H q)⟩
theorem pe_or2 {e : Expr} {t t' : TE} (h : PE X e t) (h' : PE X e t') : PE X e (fun σ H Q => t σ H Q ∨ t' σ H Q) := ⟨fun pins s σ H Q I q => q.elim (h.run pins s σ H Q I) (h'.run pins s σ H Q I)⟩
end

section
variable {c : Cy} {W : WX} {σ : L2.St} {H : Hp} {α β : Type}
theorem RS.fin {O : List (Nat × Addr)} {ρ : Slots} {pt : Pot} (r : RS c O ρ σ H pt) : Fin c H pt := ⟨r.pot, r.ext⟩
theorem Wg.from {H1 : Hp} {P : α → Pot → Hp → Prop} {q : Pot} {r : Res α} (st : Stp c.p H H1 q) (h : Wg c W σ H P r) : Wg c W σ H1 P r := by
  cases r with
  | ok a pt => exact fun H' s => h H' (st.trans s)
  | exc e fs pt => exact h
  | stuck => exact h
theorem Wg.bnd {P : β → Pot → Hp → Prop} {m : M α} {k : α → M β} {pt : Pot} (h : Wg c W σ H P (DF.bnd m k pt)) : Wg c W σ H (fun a q H' => Wg c W σ H' P (k a q)) (m pt) := by
  unfold DF.bnd at h
  cases e : m pt with
  | ok a q =>
    rw [e] at h
    exact fun H' st => Wg.from st h
  | exc _ _ _ =>
    rw [e] at h
    exact h
  | stuck =>
    rw [e] at h
    exact h
theorem Wg.imp {P P' : α → Pot → Hp → Prop} {r : Res α} (h : Wg c W σ H P r) (i : ∀ a q H', r = .ok a q → Stp c.p H H' q → P a q H' → P' a q H') : Wg c W σ H P' r := by
  cases r with
  | ok a pt => exact fun H' st => i a pt H' rfl st (h H' st)
  | exc e fs pt => exact h
  | stuck => exact h
/-- a value that is told at once -/
theorem Wg.here {P : α → Pot → Hp → Prop} {a : α} {q : Pot} (h : Wg c W σ H P (.ok a q)) (hp : H c.p = some (potO q)) : P a q H := h H ⟨fun _ _ _ x => x, hp⟩
theorem Wg.opt {P : α → Pot → Hp → Prop} {o : Option α} {q : Pot} (h : Wg c W σ H P (DF.opt o q)) (hp : H c.p = some (potO q)) : ∃ a, o = some a ∧ P a q H := by
  cases o with
  | none => exact h.elim
  | some a => exact ⟨a, rfl, Wg.here h hp⟩
end
end DF

set_option Elab.async false
set_option linter.all false
set_option maxRecDepth 100000
set_option maxHeartbeats 4000000
namespace DF
open PySem L2

section
variable {c : Cy} {W : WX} {σ : L2.St} {H H' : Hp} {O : List (Nat × Addr)} {ρ : Slots} {pt pt' : Pot} {a l : Addr} {o : HO} {v : V} {vs : List V} {d : D} {ds : List D}
theorem RS.hidden (r : RS c O ρ σ H pt) (h : a ∈ hid c O) : ∃ o, H a = some o := by
  rcases List.mem_append.mp h with e | e
  · exact r.hS a e
  · obtain ⟨q, hq, e⟩ := List.mem_map.mp e
    obtain ⟨_, _, _, o, h⟩ := r.new q hq
    exact ⟨o, e ▸ h⟩
theorem RS.pm (r : RS c O ρ σ H pt) : c.p ∈ hid c O := List.mem_append_left _ r.hp
theorem RS.fresh (r : RS c O ρ σ H pt) (h : H l = none) : l ∉ hid c O := fun q => by
  obtain ⟨o, e⟩ := r.hidden q
  rw [h] at e; cases e
theorem Stp.refl {p : Addr} (h : H p = some (potO pt)) : Stp p H H pt := ⟨fun _ _ _ x => x, h⟩
theorem Stp.new {p : Addr} (h : H p = some (potO pt)) (hl : H l = none) : Stp p H (upd H l o) pt :=
  ⟨fun b u _ e => by rw [upd_ne (ne_of_none e hl)]; exact e, by rw [upd_ne (ne_of_none h hl)]; exact h⟩
theorem Stp.newK {p : Addr} (s : Stp p H H' pt) (hl : H' l = none) : Stp p H (upd H' l o) pt := s.trans (Stp.new s.pot hl)
theorem Hd.new {S : List Addr} (hl : H l = none) : Gr (Hd S H) (Hd S (upd H l o)) := fun b u e => by
  obtain ⟨h1, h2⟩ := Hd.sees e
  rw [Hd.out h1, upd_ne (ne_of_none h2 hl)]
  exact h2
theorem Hd.at_new {S : List Addr} (hs : l ∉ S) : Hd S (upd H l o) l = some o := by rw [Hd.out hs, upd_same]
theorem RL.len : ∀ {K : PySem.W.Frag} {T : Tb} {p : Addr} {H : Hp} {ds : List D} {vs : List V}, RL K T p H ds vs → ds.length = vs.length
  | _, _, _, _, [], _, h => by simp only [RL] at h; subst h; rfl
  | _, _, _, _, d :: ds, _, h => by
    simp only [RL] at h
    obtain ⟨v, ws, rfl, _, h⟩ := h
    simp [RL.len h]
theorem RL.get : ∀ {K : PySem.W.Frag} {T : Tb} {p : Addr} {H : Hp} {ds : List D} {vs : List V} {i : Nat} {v : V}, RL K T p H ds vs → vs[i]? = some v → ∃ d, ds[i]? = some d ∧ R K T p H d v
  | _, _, _, _, [], _, _, _, h, e => by simp only [RL] at h; subst h; simp at e
  | _, _, _, _, d :: ds, _, i, v, h, e => by
    simp only [RL] at h
    obtain ⟨w, ws, rfl, r, h⟩ := h
    cases i with
    | zero => simp at e; subst e; exact ⟨d, rfl, r⟩
    | succ i => simp at e; obtain ⟨d', e', r'⟩ := RL.get h e; exact ⟨d', by simpa using e', r'⟩
theorem RL.getD : ∀ {K : PySem.W.Frag} {T : Tb} {p : Addr} {H : Hp} {ds : List D} {vs : List V} {i : Nat} {d : D}, RL K T p H ds vs → ds[i]? = some d → ∃ v, vs[i]? = some v ∧ R K T p H d v
  | _, _, _, _, [], _, _, _, h, e => by simp at e
  | _, _, _, _, d :: ds, _, i, d', h, e => by
    simp only [RL] at h
    obtain ⟨w, ws, rfl, r, h⟩ := h
    cases i with
    | zero => simp at e; subst e; exact ⟨w, rfl, r⟩
    | succ i => simp at e; obtain ⟨v', e', r'⟩ := RL.getD h e; exact ⟨v', by simpa using e', r'⟩
theorem RL.app : ∀ {K : PySem.W.Frag} {T : Tb} {p : Addr} {H : Hp} {ds es : List D} {vs ws : List V}, RL K T p H ds vs → RL K T p H es ws → RL K T p H (ds ++ es) (vs ++ ws)
  | _, _, _, _, [], _, _, _, h, h' => by simp only [RL] at h; subst h; simpa using h'
  | _, _, _, _, d :: ds, _, _, _, h, h' => by
    simp only [RL] at h
    obtain ⟨w, ws, rfl, r, h⟩ := h
    simp only [List.cons_append, RL]
    exact ⟨_, _, rfl, r, RL.app h h'⟩
theorem RL.take : ∀ {K : PySem.W.Frag} {T : Tb} {p : Addr} {H : Hp} {ds : List D} {vs : List V} (n : Nat), RL K T p H ds vs → RL K T p H (ds.take n) (vs.take n)
  | _, _, _, _, _, _, 0, _ => by simp [RL]
  | _, _, _, _, [], _, n + 1, h => by simp only [RL] at h; subst h; simp [RL]
  | _, _, _, _, d :: ds, _, n + 1, h => by
    simp only [RL] at h
    obtain ⟨w, ws, rfl, r, h⟩ := h
    simp only [List.take_succ_cons, RL]
    exact ⟨_, _, rfl, r, RL.take n h⟩
theorem RL.drop : ∀ {K : PySem.W.Frag} {T : Tb} {p : Addr} {H : Hp} {ds : List D} {vs : List V} (n : Nat), RL K T p H ds vs → RL K T p H (ds.drop n) (vs.drop n)
  | _, _, _, _, _, _, 0, h => by simpa using h
  | _, _, _, _, [], _, n + 1, h => by simp only [RL] at h; subst h; simp [RL]
  | _, _, _, _, d :: ds, _, n + 1, h => by
    simp only [RL] at h
    obtain ⟨w, ws, rfl, r, h⟩ := h
    simpa using RL.drop n h
theorem RL.set : ∀ {K : PySem.W.Frag} {T : Tb} {p : Addr} {H : Hp} {ds : List D} {vs : List V} {d : D} {v : V} (n : Nat), RL K T p H ds vs → R K T p H d v → RL K T p H (ds.set n d) (vs.set n v)
  | _, _, _, _, [], _, _, _, n, h, _ => by simp only [RL] at h; subst h; simp [RL]
  | _, _, _, _, d :: ds, _, _, _, 0, h, q => by
    simp only [RL] at h
    obtain ⟨w, ws, rfl, r, h⟩ := h
    simp only [List.set_cons_zero, RL]
    exact ⟨_, _, rfl, q, h⟩
  | _, _, _, _, d :: ds, _, _, _, n + 1, h, q => by
    simp only [RL] at h
    obtain ⟨w, ws, rfl, r, h⟩ := h
    simp only [List.set_cons_succ, RL]
    exact ⟨_, _, rfl, r, RL.set n h q⟩
theorem RL.rev {K : PySem.W.Frag} {T : Tb} {p : Addr} {H : Hp} : ∀ {ds : List D} {vs : List V}, RL K T p H ds vs → RL K T p H ds.reverse vs.reverse
  | [], _, h => by simp only [RL] at h; subst h; simp [RL]
  | d :: ds, _, h => by
    simp only [RL] at h
    obtain ⟨w, ws, rfl, r, h⟩ := h
    rw [List.reverse_cons, List.reverse_cons]
    exact RL.app (RL.rev h) (by simp only [RL]; exact ⟨_, _, rfl, r, rfl⟩)
theorem RL.nil {K : PySem.W.Frag} {T : Tb} {p : Addr} {H : Hp} : RL K T p H [] [] := by simp [RL]
theorem RL.cons {K : PySem.W.Frag} {T : Tb} {p : Addr} {H : Hp} (h : R K T p H d v) (hs : RL K T p H ds vs) : RL K T p H (d :: ds) (v :: vs) := by
  simp only [RL]
  exact ⟨_, _, rfl, h, hs⟩
theorem RL.one {K : PySem.W.Frag} {T : Tb} {p : Addr} {H : Hp} (h : R K T p H d v) : RL K T p H [d] [v] := RL.cons h RL.nil
theorem mk_lst (r : RS c O ρ σ H pt) (hl : H l = none) (h : c.RL (Hd (hid c O) H) ds vs) : c.R (Hd (hid c O) (upd H l (.lst vs))) (.lst ds) (.ref l) := by
  simp only [Cy.R, R]
  exact ⟨l, vs, rfl, Hd.at_new (r.fresh hl), RL.gr (Hd.new hl) h⟩
theorem mk_tup (r : RS c O ρ σ H pt) (hl : H l = none) (h : c.RL (Hd (hid c O) H) ds vs) : c.R (Hd (hid c O) (upd H l (.tup vs))) (.tup ds) (.ref l) := by
  simp only [Cy.R, R]
  exact ⟨l, vs, rfl, .inl (.inl (Hd.at_new (r.fresh hl))), RL.gr (Hd.new hl) h⟩

theorem RB.of (h : c.R (Hd (hid c O) H) d v) : RB c O H d v := .inl h
theorem RB.int {i : Int} (h : RB c O H (.int i) v) : v = .int i := by
  rcases h with h | ⟨_, _, _, _, e, _⟩ | ⟨_, _, _, _, e, _⟩
  · simpa [Cy.R, R] using h
  · cases e
  · cases e
theorem RB.str {i : Str} (h : RB c O H (.str i) v) : v = .str i := by
  rcases h with h | ⟨_, _, _, _, e, _⟩ | ⟨_, _, _, _, e, _⟩
  · simpa [Cy.R, R] using h
  · cases e
  · cases e
theorem RB.bl {i : Bool} (h : RB c O H (.bl i) v) : v = .bl i := by
  rcases h with h | ⟨_, _, _, _, e, _⟩ | ⟨_, _, _, _, e, _⟩
  · simpa [Cy.R, R] using h
  · cases e
  · cases e
theorem RB.non (h : RB c O H .non v) : v = .non := by
  rcases h with h | ⟨_, _, _, _, e, _⟩ | ⟨_, _, _, _, e, _⟩
  · simpa [Cy.R, R] using h
  · cases e
  · cases e
theorem RB.lst (h : RB c O H (.lst ds) v) : ∃ a vs, v = .ref a ∧ H a = some (.lst vs) ∧ c.RL (Hd (hid c O) H) ds vs := by
  rcases h with h | ⟨_, a, _, vs, e, ev, _, ha, rl⟩ | ⟨_, _, _, _, e, _⟩
  · simp only [Cy.R, R] at h
    obtain ⟨a, vs, e, s, r⟩ := h
    exact ⟨a, vs, e, Hd.le _ _ s, r⟩
  · cases e
    exact ⟨a, vs, ev, ha, rl⟩
  · cases e
theorem RB.tup (h : RB c O H (.tup ds) v) : ∃ a vs, v = .ref a ∧ SqT c.K H a vs ∧ c.RL (Hd (hid c O) H) ds vs := by
  rcases h with h | ⟨_, _, _, _, e, _⟩ | ⟨_, _, _, _, e, _⟩
  · simp only [Cy.R, R] at h
    obtain ⟨a, vs, e, s, r⟩ := h
    exact ⟨a, vs, e, Hd.le.sqt s, r⟩
  · cases e
  · cases e
theorem RB.dct {kvs : List (Key × D)} (h : RB c O H (.dct kvs) v) : ∃ a vs, v = .ref a ∧ H a = some (.dK vs) ∧ RK c.K c.T c.p (Hd (hid c O) H) kvs vs := by
  rcases h with h | ⟨_, _, _, _, e, _⟩ | ⟨_, a, _, vs, e, ev, _, ha, rl⟩
  · simp only [Cy.R, R] at h
    obtain ⟨a, vs, e, s, r⟩ := h
    exact ⟨a, vs, e, Hd.le _ _ s, r⟩
  · cases e
  · cases e
    exact ⟨a, vs, ev, ha, rl⟩
theorem RB.obj {k : Nat} {fs : List D} (h : RB c O H (.obj k fs) v) : c.R (Hd (hid c O) H) (.obj k fs) v := by
  rcases h with h | ⟨_, _, _, _, e, _⟩ | ⟨_, _, _, _, e, _⟩
  · exact h
  · cases e
  · cases e
theorem RB.stp (r : RS c O ρ σ H pt) (st : Stp c.p H H' pt') (h : RB c O H d v) : RB c O H' d v := by
  have g : Gr (Hd (hid c O) H) (Hd (hid c O) H') := st.gr r.pm
  rcases h with h | ⟨i, a, ds, vs, e, ev, m, ha, rl⟩ | ⟨i, a, ds, vs, e, ev, m, ha, rl⟩
  · exact .inl (R.gr g h)
  · exact .inr (.inl ⟨i, a, ds, vs, e, ev, m, st.keep _ _ (r.new _ m).2.1 ha, RL.gr g rl⟩)
  · exact .inr (.inr ⟨i, a, ds, vs, e, ev, m, st.keep _ _ (r.new _ m).2.1 ha, RK.gr g rl⟩)
end

/-! ### names, constants -/
section
variable {X : Cx} {c : Cy} {W : WX}
def valOf : Option (Option SV) → Option D
  | some (some (.val d)) => some d
  | _ => none
def bvalOf : Option (Option SV) → Option D
  | some (some (.val d)) => some d
  | some (some (.own ds)) => some (.lst ds)
  | some (some (.ownd ds)) => some (.dct ds)
  | _ => none
def varE (i : Nat) : Slots → M D := fun ρ => opt (valOf ρ[i]?)
def bvarE (i : Nat) : Slots → M D := fun ρ => opt (bvalOf ρ[i]?)
theorem valOf_some {x : Option (Option SV)} {d : D} (h : valOf x = some d) : x = some (some (.val d)) := by
  unfold valOf at h
  split at h
  · cases h; rfl
  · cases h
theorem de_var {x : Str} {pos : Pos} (i : Nat) (hN : X.N[i]? = some x := by rfl) (hv : Vis X.env.scope x := by first | exact Or.inl rfl | exact Or.inr (Or.inl rfl) | exact Or.inr (Or.inr rfl)) (hd : (x == ("__debug__" : Str)) = false := by decide)
    (hcd : (x == ("__classdict__" : Str)) = false := by decide) : PE X (.Name x pos) (dE c W (varE i)) := by
  refine pe_imp (pe_var hN hv hd hcd) fun σ H Q ⟨O, ρ, pt, r, h⟩ => ?_
  obtain ⟨d, e, h⟩ := Wg.opt h r.pot
  obtain ⟨v, ev, rv⟩ := r.sl i _ (valOf_some e)
  exact ⟨v, ev, h v rv⟩
theorem db_var {x : Str} {pos : Pos} (i : Nat) (hN : X.N[i]? = some x := by rfl) (hv : Vis X.env.scope x := by first | exact Or.inl rfl | exact Or.inr (Or.inl rfl) | exact Or.inr (Or.inr rfl)) (hd : (x == ("__debug__" : Str)) = false := by decide)
    (hcd : (x == ("__classdict__" : Str)) = false := by decide) : PE X (.Name x pos) (dB c W (bvarE i)) := by
  refine pe_imp (pe_var hN hv hd hcd) fun σ H Q ⟨O, ρ, pt, r, h⟩ => ?_
  obtain ⟨d, e, h⟩ := Wg.opt h r.pot
  unfold bvalOf at e
  split at e
  · rename_i d1 e1
    cases e
    obtain ⟨v, ev, rv⟩ := r.sl i _ e1
    exact ⟨v, ev, h v (.inl rv)⟩
  · rename_i d1 e1
    cases e
    obtain ⟨a, vs, m, ev, ha, rl⟩ := r.sl i _ e1
    exact ⟨_, ev, h _ (.inr (.inl ⟨i, a, d1, vs, rfl, rfl, m, ha, rl⟩))⟩
  · rename_i d1 e1
    cases e
    obtain ⟨a, vs, m, ev, ha, rl⟩ := r.sl i _ e1
    exact ⟨_, ev, h _ (.inr (.inr ⟨i, a, d1, vs, rfl, rfl, m, ha, rl⟩))⟩
  · cases e
/-- what is kept may be looked at -/
theorem db_of {e : Expr} {f : Slots → M D} (h : PE X e (dE c W f)) : PE X e (dB c W f) :=
  pe_imp h fun σ H Q ⟨O, ρ, pt, r, q⟩ => ⟨O, ρ, pt, r, q.imp fun _ _ _ _ _ q v rv => q v (.inl rv)⟩
def cE (d : D) : Slots → M D := fun _ => ret d
theorem de_c {e : Expr} {v : V} {d : D} (h : PE X e (tC v)) (r : ∀ H, c.R H d v) : PE X e (dE c W (cE d)) :=
  pe_imp h fun σ H Q ⟨O, ρ, pt, rs, q⟩ => Wg.here q rs.pot v (r _)
theorem de_int {i j pos} : PE X (.Constant (.int i) j pos) (dE c W (cE (.int i))) := de_c pe_int fun H => by simp [Cy.R, R]
theorem de_bl {b j pos} : PE X (.Constant (.bool b) j pos) (dE c W (cE (.bl b))) := de_c pe_bl fun H => by simp [Cy.R, R]
theorem de_non {j pos} : PE X (.Constant .none j pos) (dE c W (cE .non)) := de_c pe_non fun H => by simp [Cy.R, R]
theorem de_str {x j pos} : PE X (.Constant (.str x) j pos) (dE c W (cE (.str x))) := de_c pe_str fun H => by simp [Cy.R, R]

/-! ### argument lists, displays -/
def nilA : Slots → M (List D) := fun _ => ret []
def consA (f : Slots → M D) (g : Slots → M (List D)) : Slots → M (List D) := fun ρ => bnd (f ρ) fun d => bnd (g ρ) fun ds => ret (d :: ds)
theorem da_nil : PA X [] (dA c W nilA) := pa_imp pa_nil fun σ H Q ⟨O, ρ, pt, rs, q⟩ => Wg.here q rs.pot [] RL.nil
theorem da_cons {e : Expr} {es : List Expr} {f : Slots → M D} {g : Slots → M (List D)} (h : PE X e (dE c W f)) (hs : PA X es (dA c W g)) (hst : starEach (e :: es) X.env = (false, eval e X.env) :: starEach es X.env := by rfl) :
    PA X (e :: es) (dA c W (consA f g)) := by
  refine pa_imp (pa_cons h hs hst) fun σ H Q ⟨O, ρ, pt, r, q⟩ => ?_
  refine ⟨O, ρ, pt, r, (Wg.bnd q).imp fun d p1 H1 _ s1 q v rv => ?_⟩
  refine ⟨O, ρ, p1, r.stp s1, (Wg.bnd q).imp fun ds p2 H2 _ s2 q vs rvs => ?_⟩
  have r2 := (r.stp s1).stp s2
  exact Wg.here q r2.pot _ (RL.cons (R.gr (s2.gr r.pm) rv) rvs)
def tupE (g : Slots → M (List D)) : Slots → M D := fun ρ => bnd (g ρ) fun ds => if ds.length ≤ 100000 then ret (.tup ds) else fail
def lenA (g : Slots → M (List D)) : Slots → M (List D) := fun ρ => bnd (g ρ) fun ds => if ds.length ≤ 100000 then ret ds else fail
theorem sz5 {n : Nat} (h : n ≤ 100000) : n ≤ sizeLine := Nat.le_trans h (by decide)
theorem de_tup {es : List Expr} {g : Slots → M (List D)} {k : Nat} {pos : Pos} (h : PA X es (dA c W g)) : PE X (.Tuple es k pos) (dE c W (tupE g)) := by
  refine pe_imp (pe_tup h) fun σ H Q ⟨O, ρ, pt, r, q⟩ => ?_
  refine ⟨O, ρ, pt, r, (Wg.bnd q).imp fun ds p1 H1 _ s1 q vs rvs => ?_⟩
  by_cases hz : ds.length ≤ 100000
  · rw [if_pos hz] at q
    refine ⟨sz5 (by rw [← RL.len rvs]; exact hz), fun l hl => q _ (Stp.new s1.pot hl) _ (mk_tup (r.stp s1) hl rvs)⟩
  · rw [if_neg hz] at q
    exact q.elim
def boxE (f : Slots → M (List D)) : Slots → M D := fun ρ => bnd (f ρ) fun ds => ret (.lst ds)
theorem de_box {e : Expr} {f : Slots → M (List D)} (h : PE X e (dL c W f)) : PE X e (dE c W (boxE f)) := by
  refine pe_imp h fun σ H Q ⟨O, ρ, pt, r, q⟩ => ⟨O, ρ, pt, r, (Wg.bnd q).imp fun ds p1 H1 _ s1 q l vs hl h1 rl => ?_⟩
  refine Wg.here q s1.pot _ ?_
  simp only [Cy.R, R]
  refine ⟨l, vs, rfl, ?_, RL.gr (Hd.sub fun a h => List.mem_cons_of_mem _ h) rl⟩
  rw [Hd.out (r.fresh hl)]
  exact h1
/-- a new list from its items -/
theorem new_lst {σ : L2.St} {O : List (Nat × Addr)} {ρ : Slots} {pt p1 : Pot} {H H1 : Hp} {ds : List D} {vs : List V} {l : Addr} {Q : VK} (r : RS c O ρ σ H pt) (s1 : Stp c.p H H1 p1) (rl : c.RL (Hd (hid c O) H1) ds vs) (hl : H1 l = none)
    (q : ∀ H', Stp c.p H1 H' p1 → ∀ l vs, H l = none → H' l = some (.lst vs) → c.RL (Hd (l :: hid c O) H') ds vs → Q (.ref l) H') : Q (.ref l) (upd H1 l (.lst vs)) := by
  have h0 : H l = none := by
    cases e : H l with
    | none => rfl
    | some o =>
      by_cases el : l = c.p
      · rw [el, s1.pot] at hl; cases hl
      · rw [s1.keep l o el e] at hl; cases hl
  refine q _ (Stp.new s1.pot hl) l vs h0 upd_same (RL.gr (fun a o h => ?_) rl)
  obtain ⟨h1, h2⟩ := Hd.sees h
  have na : a ≠ l := ne_of_none h2 hl
  rw [Hd.out (fun q => (List.mem_cons.mp q).elim na h1), upd_ne na]
  exact h2
theorem dl_lst {es : List Expr} {g : Slots → M (List D)} {pos : Pos} (h : PA X es (dA c W g)) : PE X (.List es pos) (dL c W (lenA g)) := by
  refine pe_imp (pe_lst h) fun σ H Q ⟨O, ρ, pt, r, q⟩ => ?_
  refine ⟨O, ρ, pt, r, (Wg.bnd q).imp fun ds p1 H1 _ s1 q vs rvs => ?_⟩
  by_cases hz : ds.length ≤ 100000
  · rw [if_pos hz] at q
    exact ⟨sz5 (by rw [← RL.len rvs]; exact hz), fun l hl => new_lst r s1 rvs hl q⟩
  · rw [if_neg hz] at q
    exact q.elim

/-! ### operators -/
/-- an operation on two values, its wishes at the slots -/
def OpS (X : Cx) (f : Value → Value → Sem Value) (r : L2.St → R2) : Prop := ∀ (pins : List (Addr × Obj)) (s : Shared) (σ : L2.St) (H : Hp) (x y : V) (v u : Value) (Q : VK),
  Inv X pins σ H s → RelV x v → RelV y u → r σ x y H Q → wpAny (model X.prog X.w) X.A (f v u) (EP X pins σ Q) X.xe s
theorem ops_of {f : Value → Value → Sem Value} {r : R2} (h : OpR X f r) : OpS X f fun _ => r := fun pins s σ H x y v u Q => h pins s σ H x y v u Q
theorem OpS.or {f : Value → Value → Sem Value} {r r' : L2.St → R2} (h : OpS X f r) (h' : OpS X f r') : OpS X f (fun σ x y H Q => r σ x y H Q ∨ r' σ x y H Q) := fun pins s σ H x y v u Q I rx ry q =>
  q.elim (h pins s σ H x y v u Q I rx ry) (h' pins s σ H x y v u Q I rx ry)
/-- what an operator's rule r says, as a function of data -/
def OpD (X : Cx) (c : Cy) (W : WX) (f : Value → Value → Sem Value) (g : D → D → M D) : Prop := ∃ r : L2.St → R2, OpS X f r ∧
  ∀ (σ : L2.St) (O : List (Nat × Addr)) (ρ : Slots) (pt : Pot) (H : Hp) (Q : VK) (x y : D) (v w : V), RS c O ρ σ H pt → RB c O H x v → RB c O H y w →
    Wg c W σ H (fun d _ H' => ∀ v, c.R (Hd (hid c O) H') d v → Q v H') (g x y pt) → r σ v w H Q
def binE (g : D → D → M D) (fa fb : Slots → M D) : Slots → M D := fun ρ => bnd (fa ρ) fun x => bnd (fb ρ) fun y => g x y
theorem OpD.use {f : Value → Value → Sem Value} {g : D → D → M D} {fa fb : Slots → M D} (o : OpD X c W f g) : ∃ r : L2.St → R2, OpS X f r ∧ ∀ σ H Q, dE c W (binE g fa fb) σ H Q → dB c W fa σ H fun x H1 => dB c W fb σ H1 fun y H2 => r σ x y H2 Q := by
  obtain ⟨r, h1, h2⟩ := o
  refine ⟨r, h1, fun σ H Q ⟨O, ρ, pt, rs, q⟩ => ?_⟩
  refine ⟨O, ρ, pt, rs, (Wg.bnd q).imp fun x p1 H1 _ s1 q v rv => ?_⟩
  have rs1 := rs.stp s1
  refine ⟨O, ρ, p1, rs1, (Wg.bnd q).imp fun y p2 H2 _ s2 q w rw => ?_⟩
  exact h2 σ O ρ p2 H2 Q x y v w (rs1.stp s2) (rv.stp rs1 s2) rw q
theorem de_op {op : Operator} {g : D → D → M D} {a b : Expr} {fa fb : Slots → M D} {pos : Pos} (o : OpD X c W (binaryOp op) g) (ha : PE X a (dB c W fa)) (hb : PE X b (dB c W fb)) : PE X (.BinOp a op b pos) (dE c W (binE g fa fb)) := by
  obtain ⟨r, h1, h2⟩ := OpD.use (fa := fa) (fb := fb) o
  exact ⟨fun pins s σ H Q I h => wpAny_BinOp (binT ha hb I (h2 σ H Q h) fun v u s2 x y H2 I2 rx ry q => h1 pins s2 σ H2 x y v u Q I2 rx ry q)⟩
theorem de_cmp {op : CmpOp} {g : D → D → M D} {a b : Expr} {fa fb : Slots → M D} {pos : Pos} (o : OpD X c W (compareOp op) g) (ha : PE X a (dB c W fa)) (hb : PE X b (dB c W fb)) (hm : behindInMarks op b = false := by first | exact nomark _ | rfl) : PE X (.Compare a [op] [b] pos) (dE c W (binE g fa fb)) := by
  obtain ⟨r, h1, h2⟩ := OpD.use (fa := fa) (fb := fb) o
  exact ⟨fun pins s σ H Q I h => wpAny_Compare1 (binT ha hb I (h2 σ H Q h) fun v u s2 x y H2 I2 rx ry q => h1 pins s2 σ H2 x y v u Q I2 rx ry q) hm⟩
def asB : D → M Bool
  | .bl b => ret b
  | _ => fail
def testE (f : Slots → M D) : Slots → M Bool := fun ρ => bnd (f ρ) asB
theorem asB_ok {σ : L2.St} {H : Hp} {pt : Pot} {P : Bool → Pot → Hp → Prop} {d : D} (h : Wg c W σ H P (asB d pt)) (hp : H c.p = some (potO pt)) : ∃ b, d = .bl b ∧ P b pt H := by
  unfold asB at h
  split at h
  · exact ⟨_, rfl, Wg.here h hp⟩
  · exact h.elim
theorem dt_cmp {op : CmpOp} {g : D → D → M D} {a b : Expr} {fa fb : Slots → M D} {pos : Pos} (o : OpD X c W (compareOp op) g) (ha : PE X a (dB c W fa)) (hb : PE X b (dB c W fb)) (hm : behindInMarks op b = false := by first | exact nomark _ | rfl) : PT X (.Compare a [op] [b] pos) (dT c W (testE (binE g fa fb))) := by
  obtain ⟨r, h1, h2⟩ := OpD.use (fa := fa) (fb := fb) o
  refine ⟨fun pins s σ H Q I ⟨O, ρ, pt, rs, q⟩ => ?_⟩
  have q1 : dE c W (binE g fa fb) σ H (fun x H' => ∃ k, x = .bl k ∧ Q k H') := ⟨O, ρ, pt, rs, (Wg.bnd q).imp fun d p1 H1 _ s1 q v rv => by
    obtain ⟨b, ed, q2⟩ := asB_ok q s1.pot
    subst ed
    exact ⟨b, by simpa [Cy.R, R] using rv, q2⟩⟩
  refine wpAny_isTrue_Compare1 (thn (ha.run pins s σ H _ I (h2 σ H _ q1)) fun v s1 ⟨x, H1, I1, r1, q1⟩ => thn (hb.run pins s1 σ H1 _ I1 q1) fun u s2 ⟨y, H2, I2, r2, q2⟩ => thn (h1 pins s2 σ H2 x y v u _ I2 r1 r2 q2) fun z s3 ⟨t, H3, I3, r3, k, e, q3⟩ => ?_) hm
  subst e
  cases r3
  exact wpAny_truthy_bool ⟨H3, I3, q3⟩
/-- any expression whose value is True or False, as a test -/
theorem dt_val {e : Expr} {f : Slots → M D} (h : PE X e (dE c W f)) (he : ∀ whole, isTrue e X.env whole = (do let v ← whole; standAt e.pos; holding [v] (truthy v)) := by intro _; rfl) : PT X e (dT c W (testE f)) := by
  refine pt_imp (pt_val h he) fun σ H Q ⟨O, ρ, pt, rs, q⟩ => ?_
  refine ⟨O, ρ, pt, rs, (Wg.bnd q).imp fun d p1 H1 _ s1 q v rv => ?_⟩
  obtain ⟨b, ed, q2⟩ := asB_ok q s1.pot
  clear q
  subst ed
  have q := q2
  exact ⟨b, by simpa [Cy.R, R] using rv, q⟩

/-! ### and, or, not, if else -/
def andT (f g : Slots → M Bool) : Slots → M Bool := fun ρ => bnd (f ρ) fun b => if b then g ρ else ret false
def orT (f g : Slots → M Bool) : Slots → M Bool := fun ρ => bnd (f ρ) fun b => if b then ret true else g ρ
def notT (f : Slots → M Bool) : Slots → M Bool := fun ρ => bnd (f ρ) fun b => ret (!b)
theorem dw_and1 {a : Expr} {pos : Pos} {f : Slots → M Bool} (h : PT X a (dT c W f)) : PW X (.BoolOp .And [a] pos) (dT c W f) := pw_and1 h
theorem dw_or1 {a : Expr} {pos : Pos} {f : Slots → M Bool} (h : PT X a (dT c W f)) : PW X (.BoolOp .Or [a] pos) (dT c W f) := pw_or1 h
theorem dw_and {a b : Expr} {rest : List Expr} {pos : Pos} {f g : Slots → M Bool} (ha : PT X a (dT c W f)) (hb : PW X (.BoolOp .And (b :: rest) pos) (dT c W g)) : PW X (.BoolOp .And (a :: b :: rest) pos) (dT c W (andT f g)) := by
  refine pw_imp (pw_and ha hb) fun σ H Q ⟨O, ρ, pt, rs, q⟩ => ?_
  refine ⟨O, ρ, pt, rs, (Wg.bnd q).imp fun b p1 H1 _ s1 q => ?_⟩
  cases b with
  | true => exact ⟨O, ρ, p1, rs.stp s1, q⟩
  | false => exact Wg.here q s1.pot
theorem dw_or {a b : Expr} {rest : List Expr} {pos : Pos} {f g : Slots → M Bool} (ha : PT X a (dT c W f)) (hb : PW X (.BoolOp .Or (b :: rest) pos) (dT c W g)) : PW X (.BoolOp .Or (a :: b :: rest) pos) (dT c W (orT f g)) := by
  refine pw_imp (pw_or ha hb) fun σ H Q ⟨O, ρ, pt, rs, q⟩ => ?_
  refine ⟨O, ρ, pt, rs, (Wg.bnd q).imp fun b p1 H1 _ s1 q => ?_⟩
  cases b with
  | false => exact ⟨O, ρ, p1, rs.stp s1, q⟩
  | true => exact Wg.here q s1.pot
theorem dt_not {a : Expr} {pos : Pos} {f : Slots → M Bool} (h : PT X a (dT c W f)) : PT X (.UnaryOp .Not a pos) (dT c W (notT f)) := by
  refine pt_imp (pt_not h) fun σ H Q ⟨O, ρ, pt, rs, q⟩ => ?_
  exact ⟨O, ρ, pt, rs, (Wg.bnd q).imp fun b p1 H1 _ s1 q => Wg.here q s1.pot⟩
def andE (f g : Slots → M D) : Slots → M D := fun ρ => bnd (bnd (f ρ) asB) fun b => if b then g ρ else ret (.bl false)
def orE (f g : Slots → M D) : Slots → M D := fun ρ => bnd (bnd (f ρ) asB) fun b => if b then ret (.bl true) else g ρ
def notE (f : Slots → M D) : Slots → M D := fun ρ => bnd (bnd (f ρ) asB) fun b => ret (.bl (!b))
theorem de_one {op} {a : Expr} {pos : Pos} {f : Slots → M D} (h : PE X a (dE c W f)) : PE X (.BoolOp op [a] pos) (dE c W f) := pe_one h
theorem de_and {a b : Expr} {rest : List Expr} {pos : Pos} {f g : Slots → M D} (ha : PE X a (dE c W f)) (hb : PE X (.BoolOp .And (b :: rest) pos) (dE c W g)) : PE X (.BoolOp .And (a :: b :: rest) pos) (dE c W (andE f g)) := by
  refine pe_imp (pe_and ha hb) fun σ H Q ⟨O, ρ, pt, rs, q⟩ => ?_
  refine ⟨O, ρ, pt, rs, (Wg.bnd (Wg.bnd q)).imp fun d p1 H1 _ s1 q v rv => ?_⟩
  obtain ⟨b, ed, q2⟩ := asB_ok q s1.pot
  clear q
  subst ed
  have q := q2
  refine ⟨b, by simpa [Cy.R, R] using rv, ?_⟩
  cases b with
  | true => exact ⟨O, ρ, p1, rs.stp s1, q⟩
  | false => exact Wg.here q s1.pot _ (by simp [Cy.R, R])
theorem de_or {a b : Expr} {rest : List Expr} {pos : Pos} {f g : Slots → M D} (ha : PE X a (dE c W f)) (hb : PE X (.BoolOp .Or (b :: rest) pos) (dE c W g)) : PE X (.BoolOp .Or (a :: b :: rest) pos) (dE c W (orE f g)) := by
  refine pe_imp (pe_or ha hb) fun σ H Q ⟨O, ρ, pt, rs, q⟩ => ?_
  refine ⟨O, ρ, pt, rs, (Wg.bnd (Wg.bnd q)).imp fun d p1 H1 _ s1 q v rv => ?_⟩
  obtain ⟨b, ed, q2⟩ := asB_ok q s1.pot
  clear q
  subst ed
  have q := q2
  refine ⟨b, by simpa [Cy.R, R] using rv, ?_⟩
  cases b with
  | false => exact ⟨O, ρ, p1, rs.stp s1, q⟩
  | true => exact Wg.here q s1.pot _ (by simp [Cy.R, R])
theorem de_not {a : Expr} {pos : Pos} {f : Slots → M D} (h : PE X a (dE c W f)) : PE X (.UnaryOp .Not a pos) (dE c W (notE f)) := by
  refine pe_imp (pe_not h) fun σ H Q ⟨O, ρ, pt, rs, q⟩ => ?_
  refine ⟨O, ρ, pt, rs, (Wg.bnd (Wg.bnd q)).imp fun d p1 H1 _ s1 q v rv => ?_⟩
  obtain ⟨b, ed, q2⟩ := asB_ok q s1.pot
  clear q
  subst ed
  have q := q2
  exact ⟨b, by simpa [Cy.R, R] using rv, Wg.here q s1.pot _ (by simp [Cy.R, R])⟩
def ifE (t : Slots → M Bool) (f g : Slots → M D) : Slots → M D := fun ρ => bnd (t ρ) fun b => if b then f ρ else g ρ
theorem de_if {t a b : Expr} {pos : Pos} {ft : Slots → M Bool} {f g : Slots → M D} (ht : PT X t (dT c W ft)) (ha : PE X a (dE c W f)) (hb : PE X b (dE c W g)) : PE X (.IfExp t a b pos) (dE c W (ifE ft f g)) := by
  refine pe_imp (pe_ifExp ht ha hb) fun σ H Q ⟨O, ρ, pt, rs, q⟩ => ?_
  refine ⟨O, ρ, pt, rs, (Wg.bnd q).imp fun b p1 H1 _ s1 q => ?_⟩
  cases b with
  | true => exact ⟨O, ρ, p1, rs.stp s1, q⟩
  | false => exact ⟨O, ρ, p1, rs.stp s1, q⟩
end
end DF

set_option Elab.async false
set_option linter.all false
set_option maxRecDepth 100000
set_option maxHeartbeats 4000000
namespace DF
open PySem L2
section
variable {X : Cx} {c : Cy} {W : WX}
/-! ### operators without effects -/
def pu (g : D → D → Option D) : D → D → M D := fun x y => opt (g x y)
theorem opd_pu {f : Value → Value → Sem Value} {g : D → D → Option D} {r : R2} (h : OpR X f r)
    (ok : ∀ (O : List (Nat × Addr)) (H : Hp) (x y z : D) (v w : V) (Q : VK), RB c O H x v → RB c O H y w → g x y = some z → (∀ v', c.R (Hd (hid c O) H) z v' → Q v' H) → r v w H Q) : OpD X c W f (pu g) :=
  ⟨fun _ => r, ops_of h, fun σ O ρ pt H Q x y v w rs rx ry q => by
    obtain ⟨z, e, q⟩ := Wg.opt q rs.pot
    exact ok O H x y z v w Q rx ry e q⟩
def orM (g h : D → D → M D) : D → D → M D := fun x y pt => match g x y pt with
  | .stuck => h x y pt
  | r => r
theorem OpD.or {f : Value → Value → Sem Value} {g h : D → D → M D} (a : OpD X c W f g) (b : OpD X c W f h) : OpD X c W f (orM g h) := by
  obtain ⟨r, r1, r2⟩ := a
  obtain ⟨r', r1', r2'⟩ := b
  refine ⟨_, r1.or r1', fun σ O ρ pt H Q x y v w rs rx ry q => ?_⟩
  unfold orM at q
  cases e : g x y pt with
  | stuck =>
    rw [e] at q
    exact .inr (r2' σ O ρ pt H Q x y v w rs rx ry q)
  | ok d p =>
    rw [e] at q
    exact .inl (r2 σ O ρ pt H Q x y v w rs rx ry (by rw [e]; exact q))
  | exc k fs p =>
    rw [e] at q
    exact .inl (r2 σ O ρ pt H Q x y v w rs rx ry (by rw [e]; exact q))
def iop (g : Int → Int → Int) : D → D → Option D
  | .int i, .int j => some (.int (g i j))
  | _, _ => none
theorem opd_iop {f : Value → Value → Sem Value} {g : Int → Int → Int} (h : OpR X f (rI0 fun i j => .int (g i j))) : OpD X c W f (pu (iop g)) := opd_pu h fun O H x y z v w Q rx ry e q => by
  unfold iop at e
  split at e
  · cases e
    exact ⟨_, _, rx.int, ry.int, q _ (by simp [Cy.R, R])⟩
  · cases e
def iopC (C : Int → Int → Bool) (g : Int → Int → Int) : D → D → Option D
  | .int i, .int j => if C i j then some (.int (g i j)) else none
  | _, _ => none
theorem opd_iopC {f : Value → Value → Sem Value} {P : Int → Int → Prop} {C : Int → Int → Bool} {g : Int → Int → Int} (h : OpR X f (rI P fun i j => .int (g i j))) (hC : ∀ i j, C i j = true → P i j) : OpD X c W f (pu (iopC C g)) := opd_pu h fun O H x y z v w Q rx ry e q => by
  unfold iopC at e
  split at e
  · split at e
    · rename_i hc
      cases e
      exact ⟨_, _, rx.int, ry.int, hC _ _ hc, q _ (by simp [Cy.R, R])⟩
    · cases e
  · cases e
def icmp (g : Int → Int → Bool) : D → D → Option D
  | .int i, .int j => some (.bl (g i j))
  | _, _ => none
theorem opd_icmp {f : Value → Value → Sem Value} {g : Int → Int → Bool} (h : OpR X f (rI0 fun i j => .bl (g i j))) : OpD X c W f (pu (icmp g)) := opd_pu h fun O H x y z v w Q rx ry e q => by
  unfold icmp at e
  split at e
  · cases e
    exact ⟨_, _, rx.int, ry.int, q _ (by simp [Cy.R, R])⟩
  · cases e
def sAdd : D → D → Option D
  | .str a, .str b => if a.length + b.length ≤ 1000000 then some (.str (a ++ b)) else none
  | _, _ => none
theorem od_sAdd : OpD X c W (binaryOp .Add) (pu sAdd) := opd_pu op_add_str fun O H x y z v w Q rx ry e q => by
  unfold sAdd at e
  split at e
  · split at e
    · rename_i hc
      cases e
      exact ⟨_, _, rx.str, ry.str, Nat.le_trans hc (by decide), q _ (by simp [Cy.R, R])⟩
    · cases e
  · cases e
abbrev iAdd := iop (· + ·)
abbrev iSub := iop (· - ·)
abbrev iMul := iopC (fun i j => decide (i.natAbs.log2 + j.natAbs.log2 < 1000000)) (· * ·)
abbrev iDiv := iopC (fun _ j => decide (0 < j) && decide (j.natAbs.log2 < 9000)) (· / ·)
abbrev iMod := iopC (fun _ j => decide (0 < j)) (· % ·)
abbrev iPow := iopC (fun i j => decide (0 ≤ j) && (decide (j ≤ 1000000) && decide (i.natAbs < 2 ^ 64))) (fun i j => i ^ j.toNat)
theorem od_iAdd : OpD X c W (binaryOp .Add) (pu iAdd) := opd_iop op_add
theorem od_iSub : OpD X c W (binaryOp .Sub) (pu iSub) := opd_iop op_sub
theorem od_iMul : OpD X c W (binaryOp .Mult) (pu iMul) := opd_iopC op_mulW fun i j h => (of_decide_eq_true h : i.natAbs.log2 + j.natAbs.log2 < 1000000)
theorem od_iDiv : OpD X c W (binaryOp .FloorDiv) (pu iDiv) := opd_iopC op_fdivW fun i j h => by
  rw [Bool.and_eq_true] at h
  exact ⟨of_decide_eq_true h.1, of_decide_eq_true h.2⟩
theorem od_iMod : OpD X c W (binaryOp .Mod) (pu iMod) := opd_iopC op_mod fun i j h => of_decide_eq_true h
theorem od_iPow : OpD X c W (binaryOp .Pow) (pu iPow) := opd_iopC op_pow fun i j h => by
  rw [Bool.and_eq_true, Bool.and_eq_true] at h
  exact ⟨of_decide_eq_true h.1, of_decide_eq_true h.2.1, of_decide_eq_true h.2.2⟩
abbrev iLt := icmp fun i j => decide (i < j)
abbrev iLe := icmp fun i j => decide (i ≤ j)
abbrev iGt := icmp fun i j => decide (j < i)
abbrev iGe := icmp fun i j => decide (j ≤ i)
theorem od_iLt : OpD X c W (compareOp .Lt) (pu iLt) := opd_icmp op_lt
theorem od_iLe : OpD X c W (compareOp .LtE) (pu iLe) := opd_icmp op_le
theorem od_iGt : OpD X c W (compareOp .Gt) (pu iGt) := opd_icmp op_gt
theorem od_iGe : OpD X c W (compareOp .GtE) (pu iGe) := opd_icmp op_ge
/-! ### lists and tuples put together -/
/-- what an operator's rule r says, where it makes a new list -/
def OpL (X : Cx) (c : Cy) (W : WX) (f : Value → Value → Sem Value) (g : D → D → M (List D)) : Prop := ∃ r : R2, OpR X f r ∧
  ∀ (σ : L2.St) (O : List (Nat × Addr)) (ρ : Slots) (pt p1 : Pot) (H H1 : Hp) (Q : VK) (x y : D) (v w : V), RS c O ρ σ H pt → Stp c.p H H1 p1 → RB c O H1 x v → RB c O H1 y w →
    Wg c W σ H1 (fun ds _ H' => ∀ l vs, H l = none → H' l = some (.lst vs) → c.RL (Hd (l :: hid c O) H') ds vs → Q (.ref l) H') (g x y p1) → r v w H1 Q
def binL (g : D → D → M (List D)) (fa fb : Slots → M D) : Slots → M (List D) := fun ρ => bnd (fa ρ) fun x => bnd (fb ρ) fun y => g x y
theorem dl_op {op : Operator} {g : D → D → M (List D)} {a b : Expr} {fa fb : Slots → M D} {pos : Pos} (o : OpL X c W (binaryOp op) g) (ha : PE X a (dB c W fa)) (hb : PE X b (dB c W fb)) : PE X (.BinOp a op b pos) (dL c W (binL g fa fb)) := by
  obtain ⟨r, h1, h2⟩ := o
  refine pe_imp (pe_op h1 ha hb) fun σ H Q ⟨O, ρ, pt, rs, q⟩ => ?_
  refine ⟨O, ρ, pt, rs, (Wg.bnd q).imp fun x p1 H1 _ s1 q v rv => ?_⟩
  have rs1 := rs.stp s1
  refine ⟨O, ρ, p1, rs1, (Wg.bnd q).imp fun y p2 H2 _ s2 q w rw => ?_⟩
  exact h2 σ O ρ pt p2 H H2 Q x y v w rs (s1.trans s2) (rv.stp rs1 s2) rw q
def lCat : D → D → M (List D)
  | .lst xs, .lst ys => if xs.length + ys.length ≤ 100000 then ret (xs ++ ys) else fail
  | _, _ => fail
theorem od_lCat : OpL X c W (binaryOp .Add) lCat := ⟨_, op_cat, fun σ O ρ pt p1 H H1 Q x y v w rs s1 rx ry q => by
  cases x with
  | lst xs =>
    cases y with
    | lst ys =>
      simp only [lCat] at q
      by_cases hz : xs.length + ys.length ≤ 100000
      · rw [if_pos hz] at q
        obtain ⟨a, vs, rfl, ha, ra⟩ := rx.lst
        obtain ⟨b, ws, rfl, hb, rb⟩ := ry.lst
        exact ⟨a, b, vs, ws, rfl, rfl, ha, hb, sz5 (by rw [← RL.len ra, ← RL.len rb]; exact hz), fun l hl => new_lst rs s1 (RL.app ra rb) hl q⟩
      · rw [if_neg hz] at q
        exact q.elim
    | _ => exact q.elim
  | _ => exact q.elim⟩
def boxM (g : D → D → M (List D)) : D → D → M D := fun x y => bnd (g x y) fun ds => ret (.lst ds)
/-- .. as a value -/
theorem OpL.d {f : Value → Value → Sem Value} {g : D → D → M (List D)} (o : OpL X c W f g) : OpD X c W f (boxM g) := by
  obtain ⟨r, h1, h2⟩ := o
  refine ⟨fun _ => r, ops_of h1, fun σ O ρ pt H Q x y v w rs rx ry q => h2 σ O ρ pt pt H H Q x y v w rs (Stp.refl rs.pot) rx ry ((Wg.bnd q).imp fun ds p1 H1 _ s1 q l vs hl h1 rl => ?_)⟩
  refine Wg.here q s1.pot _ ?_
  simp only [Cy.R, R]
  refine ⟨l, vs, rfl, ?_, RL.gr (Hd.sub fun a h => List.mem_cons_of_mem _ h) rl⟩
  rw [Hd.out (rs.fresh hl)]
  exact h1
theorem RL.nil_iff {K : PySem.W.Frag} {T : Tb} {p : Addr} {H : Hp} {ds : List D} {vs : List V} (h : RL K T p H ds vs) : ds = [] ↔ vs = [] := by
  have := RL.len h
  constructor
  · intro e; subst e; simpa using this.symm
  · intro e; subst e; simpa using this
theorem RB.tupR {O : List (Nat × Addr)} {H : Hp} {ds : List D} {v : V} (h : RB c O H (.tup ds) v) : c.R (Hd (hid c O) H) (.tup ds) v := by
  rcases h with h | ⟨_, _, _, _, e, _⟩ | ⟨_, _, _, _, e, _⟩
  · exact h
  · cases e
  · cases e
def tCat : D → D → M D
  | .tup xs, .tup ys => if xs.length + ys.length ≤ 100000 ∧ xs.isEmpty = false then ret (.tup (xs ++ ys)) else fail
  | _, _ => fail
theorem od_tCat (hK : c.K = X.K := by rfl) : OpD X c W (binaryOp .Add) tCat := ⟨_, ops_of op_catT, fun σ O ρ pt H Q x y v w rs rx ry q => by
  cases x with
  | tup xs =>
    cases y with
    | tup ys =>
      simp only [tCat] at q
      by_cases hz : xs.length + ys.length ≤ 100000 ∧ xs.isEmpty = false
      · rw [if_pos hz] at q
        obtain ⟨a, vs, rfl, ha, ra⟩ := rx.tup
        obtain ⟨b, ws, rfl, hb, rb⟩ := ry.tup
        rw [hK] at ha hb
        refine ⟨a, b, vs, ws, rfl, rfl, ha, hb, fun e => ?_, sz5 (by rw [← RL.len ra, ← RL.len rb]; exact hz.1), fun e => ?_, fun _ l hl => q _ (Stp.new rs.pot hl) _ (mk_tup rs hl (RL.app ra rb))⟩
        · have := (RL.nil_iff ra).mpr e
          subst this
          simp at hz
        · have := (RL.nil_iff rb).mpr e
          subst this
          rw [List.append_nil] at q
          exact Wg.here q rs.pot _ rx.tupR
      · rw [if_neg hz] at q
        exact q.elim
    | _ => exact q.elim
  | _ => exact q.elim⟩

/-! ### == and != of data -/
mutual
def toPy : D → Option PyData
  | .non => some .none
  | .bl b => some (.bool b)
  | .int i => some (.int i)
  | .str x => some (.str x)
  | .tup ds => (toPyL ds).map .tuple
  | .lst ds => (toPyL ds).map .list
  | _ => none
def toPyL : List D → Option (List PyData)
  | [] => some []
  | d :: ds => (toPy d).bind fun x => (toPyL ds).map fun xs => x :: xs
end
mutual
theorem toPy_dp {K : PySem.W.Frag} {T : Tb} {p : Addr} {H H' : Hp} (g : Gr H H') : ∀ {d : D} {v : V} {x : PyData}, R K T p H d v → toPy d = some x → Dp K H' v x
  | .non, _, _, h, e => by simp only [R] at h; simp only [toPy] at e; cases e; subst h; exact .non
  | .bl b, _, _, h, e => by simp only [R] at h; simp only [toPy] at e; cases e; subst h; exact .bl b
  | .int b, _, _, h, e => by simp only [R] at h; simp only [toPy] at e; cases e; subst h; exact .int b
  | .str b, _, _, h, e => by simp only [R] at h; simp only [toPy] at e; cases e; subst h; exact .str b
  | .tup ds, _, _, h, e => by
    simp only [R] at h
    simp only [toPy] at e
    obtain ⟨a, vs, rfl, s, r⟩ := h
    cases q : toPyL ds with
    | none => rw [q] at e; cases e
    | some xs => rw [q] at e; cases e; exact .tup (g.sqt s) (toPyL_dp g r q)
  | .lst ds, _, _, h, e => by
    simp only [R] at h
    simp only [toPy] at e
    obtain ⟨a, vs, rfl, s, r⟩ := h
    cases q : toPyL ds with
    | none => rw [q] at e; cases e
    | some xs => rw [q] at e; cases e; exact .lst (.inl (.inl (g _ _ s))) (toPyL_dp g r q)
  | .dct _, _, _, _, e | .obj _ _, _, _, _, e | .pot, _, _, _, e | .fn _, _, _, _, e | .cls _, _, _, _, e | .ty _, _, _, _, e => by simp only [toPy] at e; cases e
theorem toPyL_dp {K : PySem.W.Frag} {T : Tb} {p : Addr} {H H' : Hp} (g : Gr H H') : ∀ {d : List D} {v : List V} {x : List PyData}, RL K T p H d v → toPyL d = some x → DpAll K H' v x
  | [], _, _, h, e => by simp only [RL] at h; simp only [toPyL] at e; cases e; subst h; exact .nil
  | d :: ds, _, _, h, e => by
    simp only [RL] at h
    simp only [toPyL] at e
    obtain ⟨v, ws, rfl, r, rs⟩ := h
    cases q : toPy d with
    | none => rw [q] at e; cases e
    | some x =>
      rw [q] at e
      cases q2 : toPyL ds with
      | none => rw [q2] at e; cases e
      | some xs => rw [q2] at e; cases e; exact .cons (toPy_dp g r q) (toPyL_dp g rs q2)
end
theorem RB.dp {O : List (Nat × Addr)} {H : Hp} {d : D} {v : V} {x : PyData} (h : RB c O H d v) (e : toPy d = some x) : Dp c.K H v x := by
  rcases h with h | ⟨i, a, ds, vs, e1, ev, m, ha, rl⟩ | ⟨i, a, ds, vs, e1, ev, m, ha, rl⟩
  · exact toPy_dp Hd.le h e
  · subst e1
    subst ev
    simp only [toPy] at e
    cases q : toPyL ds with
    | none => rw [q] at e; cases e
    | some xs => rw [q] at e; cases e; exact .lst (.inl (.inl ha)) (toPyL_dp Hd.le rl q)
  · subst e1
    simp only [toPy] at e
    cases e
def eqP : D → D → Option Bool
  | .int i, .int j => some (decide (i = j))
  | .str i, .str j => some (decide (i = j))
  | .bl i, .bl j => some (decide (i = j))
  | .non, .non => some true
  | .non, .int _ | .non, .bl _ | .non, .str _ | .int _, .non | .bl _, .non | .str _, .non | .int _, .str _ | .str _, .int _ | .bl _, .str _ | .str _, .bl _ => some false
  | x, y => (toPy x).bind fun a => (toPy y).bind fun b => if SeqAt.shaped a && SeqAt.shaped b then some (PyData.eqv a b) else none
def dEq (x y : D) : Option D := (eqP x y).map .bl
def dNe (x y : D) : Option D := (eqP x y).map fun b => .bl (!b)
theorem eqP_ok {O : List (Nat × Addr)} {H : Hp} {x y : D} {v w : V} {b : Bool} (rx : RB c O H x v) (ry : RB c O H y w) (e : eqP x y = some b) : (scal v w = true ∧ b = decide (v = w)) ∨ ∃ d e, Dp c.K H v d ∧ Dp c.K H w e ∧ SeqAt.shaped d = true ∧ SeqAt.shaped e = true ∧ b = PyData.eqv d e := by
  unfold eqP at e
  split at e
  · cases e
    rw [rx.int, ry.int]
    exact .inl ⟨rfl, by simp⟩
  · cases e
    rw [rx.str, ry.str]
    exact .inl ⟨rfl, by simp⟩
  · cases e
    rw [rx.bl, ry.bl]
    exact .inl ⟨rfl, by simp⟩
  · cases e
    rw [rx.non, ry.non]
    exact .inl ⟨rfl, by simp⟩
  · cases e; rw [rx.non, ry.int]; exact .inl ⟨rfl, by simp⟩
  · cases e; rw [rx.non, ry.bl]; exact .inl ⟨rfl, by simp⟩
  · cases e; rw [rx.non, ry.str]; exact .inl ⟨rfl, by simp⟩
  · cases e; rw [rx.int, ry.non]; exact .inl ⟨rfl, by simp⟩
  · cases e; rw [rx.bl, ry.non]; exact .inl ⟨rfl, by simp⟩
  · cases e; rw [rx.str, ry.non]; exact .inl ⟨rfl, by simp⟩
  · cases e; rw [rx.int, ry.str]; exact .inl ⟨rfl, by simp⟩
  · cases e; rw [rx.str, ry.int]; exact .inl ⟨rfl, by simp⟩
  · cases e; rw [rx.bl, ry.str]; exact .inl ⟨rfl, by simp⟩
  · cases e; rw [rx.str, ry.bl]; exact .inl ⟨rfl, by simp⟩
  · cases q1 : toPy x with
    | none => rw [q1] at e; cases e
    | some d1 =>
      cases q2 : toPy y with
      | none => rw [q1, q2] at e; cases e
      | some d2 =>
        rw [q1, q2] at e
        simp only [Option.bind_some] at e
        split at e
        · rename_i hs
          rw [Bool.and_eq_true] at hs
          cases e
          exact .inr ⟨d1, d2, rx.dp q1, ry.dp q2, hs.1, hs.2, rfl⟩
        · cases e
theorem od_dEq {k : Nat} (hr : Room k X.A) (hK : c.K = X.K := by rfl) : OpD X c W (compareOp .Eq) (pu dEq) := opd_pu (op_eq.or (op_eqD hr.units)) fun O H x y z v w Q rx ry e q => by
  unfold dEq at e
  cases q1 : eqP x y with
  | none => rw [q1] at e; cases e
  | some b =>
    rw [q1] at e
    cases e
    rcases eqP_ok rx ry q1 with ⟨h1, h2⟩ | ⟨d, e, h1, h2, h3, h4, h5⟩
    · exact .inl ⟨h1, h2 ▸ q _ (by simp [Cy.R, R])⟩
    · rw [hK] at h1 h2
      exact .inr ⟨d, e, h1, h2, h3, h4, h5 ▸ q _ (by simp [Cy.R, R])⟩
theorem od_dNe {k : Nat} (hr : Room k X.A) (hK : c.K = X.K := by rfl) : OpD X c W (compareOp .NotEq) (pu dNe) := opd_pu (op_ne.or (op_neD hr.units)) fun O H x y z v w Q rx ry e q => by
  unfold dNe at e
  cases q1 : eqP x y with
  | none => rw [q1] at e; cases e
  | some b =>
    rw [q1] at e
    cases e
    rcases eqP_ok rx ry q1 with ⟨h1, h2⟩ | ⟨d, e, h1, h2, h3, h4, h5⟩
    · exact .inl ⟨h1, h2 ▸ q _ (by simp [Cy.R, R])⟩
    · rw [hK] at h1 h2
      exact .inr ⟨d, e, h1, h2, h3, h4, h5 ▸ q _ (by simp [Cy.R, R])⟩
/-! ### is None -/
def isNon : D → Bool
  | .non => true
  | _ => false
theorem isNon_ok {O : List (Nat × Addr)} {H : Hp} {x : D} {v : V} (h : RB c O H x v) : decide (v = .non) = isNon x := by
  have fin : ∀ {a : Addr}, v = .ref a → decide (v = .non) = false := fun e => by subst e; simp
  cases x with
  | non => rw [h.non]; rfl
  | bl b => rw [h.bl]; simp [isNon]
  | int i => rw [h.int]; simp [isNon]
  | str x => rw [h.str]; simp [isNon]
  | tup ds => obtain ⟨a, _, e, _⟩ := h.tup; exact fin e
  | lst ds => obtain ⟨a, _, e, _⟩ := h.lst; exact fin e
  | dct ds => obtain ⟨a, _, e, _⟩ := h.dct; exact fin e
  | obj k fs =>
    have q := h.obj
    simp only [Cy.R, R] at q
    obtain ⟨a, _, _, e, _⟩ := q
    exact fin e
  | pot | fn _ | cls _ =>
    rcases h with h | ⟨_, _, _, _, e, _⟩ | ⟨_, _, _, _, e, _⟩
    · simp only [Cy.R, R] at h; exact fin h
    · cases e
    · cases e
  | ty n =>
    rcases h with h | ⟨_, _, _, _, e, _⟩ | ⟨_, _, _, _, e, _⟩
    · simp only [Cy.R, R] at h; subst h; simp [isNon]
    · cases e
    · cases e
def isN : D → D → Option D
  | x, .non => some (.bl (isNon x))
  | _, _ => none
def notN : D → D → Option D
  | x, .non => some (.bl (!isNon x))
  | _, _ => none
theorem od_isN : OpD X c W (compareOp .Is) (pu isN) := opd_pu op_isN fun O H x y z v w Q rx ry e q => by
  cases y <;> first | (simp only [isN] at e; cases e; done) | skip
  simp only [isN] at e
  cases e
  exact ⟨ry.non, by rw [isNon_ok rx]; exact q _ (by simp [Cy.R, R])⟩
theorem od_notN : OpD X c W (compareOp .IsNot) (pu notN) := opd_pu op_notN fun O H x y z v w Q rx ry e q => by
  cases y <;> first | (simp only [notN] at e; cases e; done) | skip
  simp only [notN] at e
  cases e
  exact ⟨ry.non, by rw [isNon_ok rx]; exact q _ (by simp [Cy.R, R])⟩
/-! ### unary -/
def negE (f : Slots → M D) : Slots → M D := fun ρ => bnd (f ρ) fun d => match d with
  | .int i => ret (.int (-i))
  | _ => fail
theorem de_neg {a : Expr} {pos : Pos} {f : Slots → M D} (h : PE X a (dE c W f)) : PE X (.UnaryOp .USub a pos) (dE c W (negE f)) := by
  refine pe_imp (pe_un un_neg h) fun σ H Q ⟨O, ρ, pt, rs, q⟩ => ?_
  refine ⟨O, ρ, pt, rs, (Wg.bnd q).imp fun d p1 H1 _ s1 q v rv => ?_⟩
  cases d with
  | int i => exact ⟨i, by simpa [Cy.R, R] using rv, Wg.here q s1.pot _ (by simp [Cy.R, R])⟩
  | _ => exact q.elim
end
end DF

set_option Elab.async false
set_option linter.all false
set_option maxRecDepth 100000
set_option maxHeartbeats 4000000
namespace DF
open PySem L2
/-! ### statements -/
section
variable {X : Cx} {c : Cy} {W : WX} {σ : L2.St} {H H' : Hp} {O : List (Nat × Addr)} {ρ : Slots} {pt pt' : Pot}
theorem Mv.refl : Mv c O H O H := fun a o h e => ⟨h, e⟩
/-- what is wanted of the rest, from a later heap -/
theorem WO.from {E : Ends} {O1 : List (Nat × Addr)} {H1 : Hp} {r : Res Out} (m : Mv c O H O1 H1) (h : WO c W E O H r) : WO c W E O1 H1 r := by
  cases r with
  | ok o p =>
    cases o with
    | nx ρ' => exact fun O' σ' H' rs m' => h O' σ' H' rs (m.trans m')
    | bk ρ' => exact fun O' σ' H' rs m' => h O' σ' H' rs (m.trans m')
    | ct ρ' => exact fun O' σ' H' rs m' => h O' σ' H' rs (m.trans m')
    | rt d => exact h
  | exc e fs p => exact h
  | stuck => exact h
theorem Fin.of_stp (r : RS c O ρ σ H pt) (s : Stp c.p H H' pt') : Fin c H' pt' := (r.stp s).fin
/-- an expression, then what is done with it -/
theorem WO.bnd {α : Type} {E : Ends} {m : M α} {k : α → M Out} (r : RS c O ρ σ H pt) (h : WO c W E O H (DF.bnd m k pt)) : Wg c W σ H (fun a q H' => WO c W E O H' (k a q)) (m pt) := by
  unfold DF.bnd at h
  cases e : m pt with
  | ok a q =>
    rw [e] at h
    exact fun H' st => WO.from (st.mv r.hp) h
  | exc _ _ _ =>
    rw [e] at h
    exact fun cls dd H' f x => h cls dd σ H' f x
  | stuck =>
    rw [e] at h
    exact h
def seqS (f g : Slots → M Out) : Slots → M Out := fun ρ => bnd (f ρ) fun o => match o with
  | .nx ρ' => g ρ'
  | o => ret o
def nilS : Slots → M Out := fun ρ => ret (.nx ρ)
theorem dss_nil : PSs X [] (dS c W nilS) := pss_imp pss_nil fun E σ H ⟨O, ρ, pt, r, h⟩ => h O σ H r Mv.refl
theorem dss_cons {st : Stmt} {rest : List Stmt} {f g : Slots → M Out} (h1 : PS X st (dS c W f)) (h2 : PSs X rest (dS c W g)) : PSs X (st :: rest) (dS c W (seqS f g)) := by
  refine pss_imp (pss_cons h1 h2) fun E σ H ⟨O, ρ, pt, r, h⟩ => ⟨O, ρ, pt, r, ?_⟩
  unfold seqS DF.bnd at h
  cases e : f ρ pt with
  | ok o q =>
    rw [e] at h
    cases o with
    | nx ρ' => exact fun O' σ' H' rs m => ⟨O', ρ', q, rs, WO.from m h⟩
    | bk ρ' => exact h
    | ct ρ' => exact h
    | rt d => exact h
  | exc _ _ _ =>
    rw [e] at h
    exact h
  | stuck =>
    rw [e] at h
    exact h
theorem dss_one {st : Stmt} {f : Slots → M Out} (h1 : PS X st (dS c W f)) : PSs X [st] (dS c W f) := pss_one h1
theorem ds_pass {pos : Pos} : PS X (.Pass pos) (dS c W nilS) := ps_imp ps_pass fun E σ H ⟨O, ρ, pt, r, h⟩ => h O σ H r Mv.refl
def retS (f : Slots → M D) : Slots → M Out := fun ρ => bnd (f ρ) fun d => ret (.rt d)
theorem RS.out (r : RS c O ρ σ H pt) : Gr (Hd (hid c O) H) (Hd c.S H) := Hd.sub fun a h => List.mem_append_left _ h
theorem ds_ret {e : Expr} {f : Slots → M D} {pos : Pos} (h : PE X e (dE c W f)) : PS X (.Return (some e) pos) (dS c W (retS f)) := by
  refine ps_imp (ps_ret h) fun E σ H ⟨O, ρ, pt, r, h⟩ => ⟨O, ρ, pt, r, (WO.bnd r h).imp fun d p1 H1 _ s1 q v rv => ?_⟩
  exact q v H1 (Fin.of_stp r s1) (R.gr (r.stp s1).out rv)
def retNS : Slots → M Out := fun _ => ret (.rt .non)
theorem ds_retN {pos : Pos} : PS X (.Return none pos) (dS c W retNS) := ps_imp ps_retN fun E σ H ⟨O, ρ, pt, r, h⟩ => h .non H r.fin (by simp [Cy.R, R])
def dropS (f : Slots → M D) : Slots → M Out := fun ρ => bnd (f ρ) fun _ => ret (.nx ρ)
theorem ds_expr {e : Expr} {f : Slots → M D} {pos : Pos} (h : PE X e (dE c W f)) (hs : swapsWith e none pos.line X.env = pure false := by rfl) : PS X (.Expr e pos) (dS c W (dropS f)) := by
  refine ps_imp (ps_expr h hs) fun E σ H ⟨O, ρ, pt, r, h⟩ => ⟨O, ρ, pt, r, (WO.bnd r h).imp fun d p1 H1 _ s1 q v rv => ?_⟩
  exact q O σ H1 (r.stp s1) Mv.refl
def ifS (t : Slots → M Bool) (f g : Slots → M Out) : Slots → M Out := fun ρ => bnd (t ρ) fun b => if b then f ρ else g ρ
theorem ds_if {e : Expr} {t : Slots → M Bool} {a b : List Stmt} {f g : Slots → M Out} {pos : Pos} (h : PT X e (dT c W t)) (ha : PSs X a (dS c W f)) (hb : PSs X b (dS c W g)) : PS X (.If e a b pos) (dS c W (ifS t f g)) := by
  refine ps_imp (ps_if h ha hb) fun E σ H ⟨O, ρ, pt, r, h⟩ => ⟨O, ρ, pt, r, (WO.bnd r h).imp fun b p1 H1 _ s1 q => ?_⟩
  cases b with
  | true => exact ⟨O, ρ, p1, r.stp s1, q⟩
  | false => exact ⟨O, ρ, p1, r.stp s1, q⟩
/-- a statement that is not reached -/
theorem ds_never {st : Stmt} : PS X st (dS c W fun _ => fail) := ps_imp (ps_never (st := st)) fun E σ H ⟨O, ρ, pt, r, h⟩ => h.elim

/-! ### slots -/
theorem fil_mem {O : List (Nat × Addr)} {i : Nat} {q : Nat × Addr} (h : q ∈ O.filter fun q => decide (q.1 ≠ i)) : q ∈ O ∧ q.1 ≠ i := by
  obtain ⟨h1, h2⟩ := List.mem_filter.mp h
  exact ⟨h1, of_decide_eq_true h2⟩
theorem fil_sub {c : Cy} {O : List (Nat × Addr)} {i : Nat} : ∀ a ∈ hid c (O.filter fun q => decide (q.1 ≠ i)), a ∈ hid c O := fun a h => by
  rcases List.mem_append.mp h with h | h
  · exact List.mem_append_left _ h
  · obtain ⟨q, hq, e⟩ := List.mem_map.mp h
    exact List.mem_append_right _ (List.mem_map.mpr ⟨q, (fil_mem hq).1, e⟩)
theorem fil_nd {O : List (Nat × Addr)} {i : Nat} {β : Type} (f : Nat × Addr → β) (h : (O.map f).Nodup) : ((O.filter fun q => decide (q.1 ≠ i)).map f).Nodup :=
  List.Nodup.sublist (List.Sublist.map f List.filter_sublist) h
/-- fewer things are one's own: what stands in another slot stands -/
theorem SlotOk.fewer {i j : Nat} {x : Option (Option V)} {s : SV} (hj : j ≠ i) (h : SlotOk c O H j x s) : SlotOk c (O.filter fun q => decide (q.1 ≠ i)) H j x s := by
  have g : Gr (Hd (hid c O) H) (Hd (hid c (O.filter fun q => decide (q.1 ≠ i))) H) := Hd.sub fil_sub
  have keep : ∀ {a : Addr}, (j, a) ∈ O → (j, a) ∈ O.filter fun q => decide (q.1 ≠ i) := fun m => List.mem_filter.mpr ⟨m, decide_eq_true hj⟩
  cases s with
  | val d =>
    obtain ⟨v, e, r⟩ := h
    exact ⟨v, e, R.gr g r⟩
  | own ds =>
    obtain ⟨a, vs, m, e, q, r⟩ := h
    exact ⟨a, vs, keep m, e, q, RL.gr g r⟩
  | ownd ds =>
    obtain ⟨a, vs, m, e, q, r⟩ := h
    exact ⟨a, vs, keep m, e, q, RK.gr g r⟩
  | slf k fs =>
    obtain ⟨a, dx, vs, m, em, e, q, l, r⟩ := h
    exact ⟨a, dx, vs, keep m, em, e, q, l, RL.gr g r⟩
theorem fil_ow {ρ : Slots} {O : List (Nat × Addr)} (h : ∀ q ∈ O, ∃ s, ρ[q.1]? = some (some s) ∧ isOwn s = true) (i : Nat) (x : Option SV) : ∀ q ∈ O.filter (fun q => decide (q.1 ≠ i)), ∃ s, (ρ.set i x)[q.1]? = some (some s) ∧ isOwn s = true := fun q hq => by
  obtain ⟨h1, h2⟩ := fil_mem hq
  rw [List.getElem?_set_ne (Ne.symm h2)]
  exact h q h1
theorem RS.drop (r : RS c O ρ σ H pt) (i : Nat) : RS c (O.filter fun q => decide (q.1 ≠ i)) (ρ.set i none) σ H pt :=
  ⟨r.pot, r.ext, r.hp, r.hS, fun q hq => r.new q (fil_mem hq).1, fil_nd _ r.nd, fil_nd _ r.nf, by rw [List.length_set]; exact r.len, fil_ow r.ow i _, fun j s h => by
    by_cases e : j = i
    · subst e
      by_cases hl : j < ρ.length
      · rw [List.getElem?_set_self hl] at h; cases h
      · rw [List.getElem?_eq_none (by simpa using hl)] at h; cases h
    · rw [List.getElem?_set_ne (Ne.symm e)] at h
      exact (r.sl j s h).fewer e⟩
theorem Mv.fewer {i : Nat} : Mv c O H (O.filter fun q => decide (q.1 ≠ i)) H := fun a o h e => ⟨fun q => h (fil_sub a q), e⟩
/-- a value is stored -/
theorem RS.put {d : D} {v : V} (r : RS c O ρ σ H pt) (i : Nat) (hi : i < σ.length) (rv : c.R (Hd (hid c O) H) d v) : RS c (O.filter fun q => decide (q.1 ≠ i)) (ρ.set i (some (.val d))) (σ.set i (some v)) H pt := by
  have r1 := r.drop i
  refine ⟨r1.pot, r1.ext, r1.hp, r1.hS, r1.new, r1.nd, r1.nf, by rw [List.length_set, List.length_set]; exact r.len, fil_ow r.ow i _, fun j s h => ?_⟩
  by_cases e : j = i
  · subst e
    rw [List.getElem?_set_self (by rw [r.len]; exact hi)] at h
    cases h
    exact ⟨v, List.getElem?_set_self hi, R.gr (Hd.sub fil_sub) rv⟩
  · rw [List.getElem?_set_ne (Ne.symm e)] at h
    have q := r1.sl j s (by rw [List.getElem?_set_ne (Ne.symm e)]; exact h)
    rw [List.getElem?_set_ne (Ne.symm e)]
    exact q
def asgS (i : Nat) (f : Slots → M D) : Slots → M Out := fun ρ => bnd (f ρ) fun d => if i < ρ.length then ret (.nx (ρ.set i (some (.val d)))) else fail
theorem ds_asg {i : Nat} {x : Str} {e : Expr} {f : Slots → M D} {pos' pos : Pos} (hN : X.N.Nodup) (h : PE X e (dE c W f)) (hi : X.N[i]? = some x := by rfl) (hx : Loc X.env.scope x := by first | exact Or.inl rfl | exact Or.inr rfl) (hs : swapsWith e (some (.Name x pos')) pos.line X.env = pure false := by rfl)
    (hf : X.fn x = true ∨ X.env.scope.names.lookup x = some .local := by first | exact .inl rfl | exact .inr rfl | assumption) : PS X (.Assign [.Name x pos'] e pos) (dS c W (asgS i f)) := by
  refine ps_imp (ps_set hN hi hx h hs hf) fun E σ H ⟨O, ρ, pt, r, h⟩ => ⟨O, ρ, pt, r, (WO.bnd r h).imp fun d p1 H1 _ s1 q v rv => ?_⟩
  by_cases hl : i < ρ.length
  · rw [if_pos hl] at q
    exact q _ _ _ ((r.stp s1).put i (by rw [← r.len]; exact hl) rv) Mv.fewer
  · rw [if_neg hl] at q
    exact q.elim
/-- a list of one's own is stored: it may be changed -/
theorem RS.putOwn {ds : List D} {vs : List V} {l : Addr} (r : RS c O ρ σ H pt) {H1 : Hp} {p1 : Pot} (s1 : Stp c.p H H1 p1) (i : Nat) (hi : i < σ.length) (hl : H l = none) (h1 : H1 l = some (.lst vs)) (rl : c.RL (Hd (l :: hid c O) H1) ds vs) :
    RS c ((i, l) :: O.filter fun q => decide (q.1 ≠ i)) (ρ.set i (some (.own ds))) (σ.set i (some (.ref l))) H1 p1 ∧ Mv c O H ((i, l) :: O.filter fun q => decide (q.1 ≠ i)) H1 := by
  have nh : l ∉ hid c O := r.fresh hl
  have r1 := (r.stp s1).drop i
  have hid1 : ∀ a, a ∈ hid c ((i, l) :: O.filter fun q => decide (q.1 ≠ i)) → a = l ∨ a ∈ hid c O := fun a h => by
    rcases List.mem_append.mp h with h | h
    · exact .inr (List.mem_append_left _ h)
    · rcases List.mem_cons.mp (show a ∈ l :: (O.filter fun q => decide (q.1 ≠ i)).map (·.2) from h) with h | h
      · exact .inl h
      · exact .inr (fil_sub a (List.mem_append_right _ h))
  have mv : Mv c O H ((i, l) :: O.filter fun q => decide (q.1 ≠ i)) H1 := fun a o h e => ⟨fun q => (hid1 a q).elim (fun z => by rw [z, hl] at e; cases e) h, s1.keep a o (fun z => h (z ▸ r.pm)) e⟩
  have g0 : Gr (Hd (l :: hid c O) H1) (Hd (hid c ((i, l) :: O.filter fun q => decide (q.1 ≠ i))) H1) := Hd.sub fun a h => (hid1 a h).elim (fun z => z ▸ List.mem_cons_self) fun z => List.mem_cons_of_mem _ z
  have nl : l ∉ (O.filter fun q => decide (q.1 ≠ i)).map (·.2) := fun h => nh (fil_sub l (List.mem_append_right _ h))
  refine ⟨⟨s1.pot, r1.ext, r.hp, r1.hS, fun q hq => ?_, ?_, ?_, by rw [List.length_set, List.length_set]; exact r.len, fun q hq => ?_, fun j s h => ?_⟩, mv⟩
  · rcases List.mem_cons.mp hq with e | hq
    · subst e
      refine ⟨?_, fun z => ?_, fun z => nh (List.mem_append_left _ z), _, h1⟩
      · cases e : c.H0 l with
        | none => rfl
        | some o =>
          by_cases lp : l = c.p
          · exact absurd (lp ▸ r.pm) nh
          · rw [r.ext l o lp e] at hl; cases hl
      · have z' : l = c.p := z
        exact nh (z' ▸ r.pm)
    · exact r1.new q hq
  · exact List.nodup_cons.mpr ⟨nl, r1.nd⟩
  · refine List.nodup_cons.mpr ⟨fun h => ?_, r1.nf⟩
    obtain ⟨q, hq, e⟩ := List.mem_map.mp h
    exact (fil_mem hq).2 e
  · rcases List.mem_cons.mp hq with e | hq
    · subst e
      exact ⟨.own ds, List.getElem?_set_self (by rw [r.len]; exact hi), rfl⟩
    · exact fil_ow r.ow i _ q hq
  · by_cases e : j = i
    · subst e
      rw [List.getElem?_set_self (by rw [r.len]; exact hi)] at h
      cases h
      exact ⟨l, vs, List.mem_cons_self, List.getElem?_set_self hi, h1, RL.gr g0 rl⟩
    · rw [List.getElem?_set_ne (Ne.symm e)] at h
      rw [List.getElem?_set_ne (Ne.symm e)]
      have g : Gr (Hd (hid c O) H) (Hd (hid c ((i, l) :: O.filter fun q => decide (q.1 ≠ i))) H1) := mv.gr
      have keep : ∀ {a : Addr}, (j, a) ∈ O → (j, a) ∈ (i, l) :: O.filter fun q => decide (q.1 ≠ i) := fun m => List.mem_cons_of_mem _ (List.mem_filter.mpr ⟨m, decide_eq_true e⟩)
      have st : ∀ {a : Addr} {o : HO}, (j, a) ∈ O → H a = some o → H1 a = some o := fun m q => s1.keep _ _ (r.new _ m).2.1 q
      have q := r.sl j s h
      cases s with
      | val d =>
        obtain ⟨v, e, r⟩ := q
        exact ⟨v, e, R.gr g r⟩
      | own ds =>
        obtain ⟨a, vs, m, e, q, r⟩ := q
        exact ⟨a, vs, keep m, e, st m q, RL.gr g r⟩
      | ownd ds =>
        obtain ⟨a, vs, m, e, q, r⟩ := q
        exact ⟨a, vs, keep m, e, st m q, RK.gr g r⟩
      | slf k fs =>
        obtain ⟨a, dx, vs, m, em, e, q, l, r⟩ := q
        exact ⟨a, dx, vs, keep m, em, e, st m q, l, RL.gr g r⟩
def asgL (i : Nat) (f : Slots → M (List D)) : Slots → M Out := fun ρ => bnd (f ρ) fun ds => if i < ρ.length then ret (.nx (ρ.set i (some (.own ds)))) else fail
theorem ds_asgL {i : Nat} {x : Str} {e : Expr} {f : Slots → M (List D)} {pos' pos : Pos} (hN : X.N.Nodup) (h : PE X e (dL c W f)) (hi : X.N[i]? = some x := by rfl) (hx : Loc X.env.scope x := by first | exact Or.inl rfl | exact Or.inr rfl) (hs : swapsWith e (some (.Name x pos')) pos.line X.env = pure false := by rfl)
    (hf : X.fn x = true ∨ X.env.scope.names.lookup x = some .local := by first | exact .inl rfl | exact .inr rfl | assumption) : PS X (.Assign [.Name x pos'] e pos) (dS c W (asgL i f)) := by
  refine ps_imp (ps_set hN hi hx h hs hf) fun E σ H ⟨O, ρ, pt, r, h⟩ => ⟨O, ρ, pt, r, ?_⟩
  unfold asgL DF.bnd at h
  cases e : f ρ pt with
  | ok ds p1 =>
    rw [e] at h
    intro H1 s1 l vs hl h1 rl
    simp only at h
    by_cases hz : i < ρ.length
    · rw [if_pos hz] at h
      obtain ⟨rs, mv⟩ := r.putOwn s1 i (by rw [← r.len]; exact hz) hl h1 rl
      exact h _ _ _ rs mv
    · rw [if_neg hz] at h
      exact h.elim
  | exc _ _ _ =>
    rw [e] at h
    exact fun cls dd H' f x => h cls dd σ H' f x
  | stuck =>
    rw [e] at h
    exact h
theorem same_of {i : Nat} {a : Addr} {q : Nat × Addr} : ∀ {O : List (Nat × Addr)}, (O.map (·.2)).Nodup → (i, a) ∈ O → q ∈ O → q.2 = a → q = (i, a)
  | [], _, m, _, _ => nomatch m
  | z :: zs, nd, m, m2, e => by
    have nd' := List.nodup_cons.mp (show (z.2 :: zs.map (·.2)).Nodup from nd)
    rcases List.mem_cons.mp m with e1 | m
    · rcases List.mem_cons.mp m2 with e2 | m2
      · rw [e1, e2]
      · exact absurd (List.mem_map.mpr ⟨q, m2, by rw [e, ← e1]⟩) nd'.1
    · rcases List.mem_cons.mp m2 with e2 | m2
      · exact absurd (List.mem_map.mpr ⟨_, m, by rw [← e2]; exact e.symm⟩) nd'.1
      · exact same_of nd'.2 m m2 e
/-- from now on it is not changed any more -/
def frz1 (i : Nat) (ρ : Slots) : Slots := match ρ[i]? with
  | some (some (.own ds)) => ρ.set i (some (.val (.lst ds)))
  | some (some (.ownd ds)) => ρ.set i (some (.val (.dct ds)))
  | _ => ρ
theorem RS.frz (r : RS c O ρ σ H pt) (i : Nat) : ∃ O', RS c O' (frz1 i ρ) σ H pt ∧ Mv c O H O' H := by
  have low : ∀ {a : Addr}, (i, a) ∈ O → a ∉ hid c (O.filter fun q => decide (q.1 ≠ i)) := fun {a} m h => by
    rcases List.mem_append.mp h with h | h
    · exact (r.new _ m).2.2.1 h
    · obtain ⟨q, hq, e⟩ := List.mem_map.mp h
      obtain ⟨m2, n2⟩ := fil_mem hq
      have := same_of r.nd m m2 e
      exact n2 (by rw [this])
  unfold frz1
  split
  · rename_i ds e
    obtain ⟨a, vs, m, ev, ha, rl⟩ := r.sl i _ e
    refine ⟨_, ?_, Mv.fewer (i := i)⟩
    have r1 := r.drop i
    refine ⟨r1.pot, r1.ext, r1.hp, r1.hS, r1.new, r1.nd, r1.nf, by rw [List.length_set]; exact r.len, fil_ow r.ow i _, fun j s h => ?_⟩
    by_cases ej : j = i
    · subst ej
      rw [List.getElem?_set_self (List.getElem?_eq_some_iff.mp e).1] at h
      cases h
      refine ⟨_, ev, ?_⟩
      simp only [Cy.R, R]
      exact ⟨a, vs, rfl, by rw [Hd.out (low m)]; exact ha, RL.gr (Hd.sub fil_sub) rl⟩
    · rw [List.getElem?_set_ne (Ne.symm ej)] at h
      exact r1.sl j s (by rw [List.getElem?_set_ne (Ne.symm ej)]; exact h)
  · rename_i ds e
    obtain ⟨a, vs, m, ev, ha, rl⟩ := r.sl i _ e
    refine ⟨_, ?_, Mv.fewer (i := i)⟩
    have r1 := r.drop i
    refine ⟨r1.pot, r1.ext, r1.hp, r1.hS, r1.new, r1.nd, r1.nf, by rw [List.length_set]; exact r.len, fil_ow r.ow i _, fun j s h => ?_⟩
    by_cases ej : j = i
    · subst ej
      rw [List.getElem?_set_self (List.getElem?_eq_some_iff.mp e).1] at h
      cases h
      refine ⟨_, ev, ?_⟩
      simp only [Cy.R, R]
      exact ⟨a, vs, rfl, by rw [Hd.out (low m)]; exact ha, RK.gr (Hd.sub fil_sub) rl⟩
    · rw [List.getElem?_set_ne (Ne.symm ej)] at h
      exact r1.sl j s (by rw [List.getElem?_set_ne (Ne.symm ej)]; exact h)
  · exact ⟨O, r, Mv.refl⟩
theorem ds_frz {st : Stmt} {g : Slots → M Out} (i : Nat) (h : PS X st (dS c W g)) : PS X st (dS c W fun ρ => g (frz1 i ρ)) := by
  refine ps_imp h fun E σ H ⟨O, ρ, pt, r, q⟩ => ?_
  obtain ⟨O', r', m⟩ := r.frz i
  exact ⟨O', _, pt, r', WO.from m q⟩
end
end DF

set_option Elab.async false
set_option linter.all false
set_option maxRecDepth 100000
set_option maxHeartbeats 4000000
namespace DF
open PySem L2
/-! ### a def as a function of data -/
/-- what a call with the data ds comes to -/
def Wf (c : Cy) (H : Hp) (Q : VK) (E : XK) : Res D → Prop
  | .ok d pt => ∀ v H', Stp c.p H H' pt → c.R (Hd c.S H') d v → Q v H'
  | .exc e fs pt => ∀ cls dd H', Stp c.p H H' pt → RX c H' e fs cls dd → E cls dd H'
  | .stuck => False
def spF (K : PySem.W.Frag) (T : Tb) (n : Nat) (m : List D → M D) : Sp := fun vs H Q E => ∃ p S ds pt, p ∈ S ∧ (∀ a ∈ S, ∃ o, H a = some o) ∧ ds.length = n ∧ RL K T p (Hd S H) ds vs ∧ H p = some (potO pt) ∧ Wf ⟨K, T, p, S, H, 0⟩ H Q E (m ds pt)
/-- the slots at the entry -/
def ini (n : Nat) (ds : List D) : Slots := ds.map (fun d => some (.val d)) ++ List.replicate (n - ds.length) none
def fnM (n : Nat) (g : Slots → M Out) : List D → M D := fun ds => bnd (g (ini n ds)) fun o => match o with
  | .rt d => ret d
  | .nx _ => ret .non
  | _ => fail
section
variable {P : Program} {w : World} {K : PySem.W.Frag} {mg : Str → Option Value} {base : Heap} {T : Tb}
theorem ini_rs {c : Cy} {N : List Str} {ds : List D} {vs : List V} {pt : Pot} (hp : c.p ∈ c.S) (hS : ∀ a ∈ c.S, ∃ o, c.H0 a = some o) (rl : c.RL (Hd c.S c.H0) ds vs) (hpot : c.H0 c.p = some (potO pt)) (hl : ds.length ≤ N.length) :
    RS c [] (ini N.length ds) (L2.start N vs) c.H0 pt := by
  have lv := RL.len rl
  refine ⟨hpot, fun _ _ _ h => h, hp, hS, fun _ h => (nomatch h), .nil, .nil, ?_, fun _ h => (nomatch h), fun i s h => ?_⟩
  · unfold ini L2.start
    rw [List.length_append, List.length_append, List.length_map, List.length_map, List.length_replicate, List.length_replicate, lv]
  · have hh : hid c [] = c.S := List.append_nil _
    unfold ini at h
    unfold L2.start
    by_cases hi : i < ds.length
    · rw [List.getElem?_append_left (by rw [List.length_map]; exact hi), List.getElem?_map] at h
      cases e : ds[i]? with
      | none => rw [e] at h; cases h
      | some d =>
        rw [e] at h
        cases h
        obtain ⟨v, ev, rv⟩ := RL.getD rl e
        refine ⟨v, ?_, by rw [hh]; exact rv⟩
        rw [List.getElem?_append_left (by rw [List.length_map, ← lv]; exact hi), List.getElem?_map, ev]
        rfl
    · rw [List.getElem?_append_right (by rw [List.length_map]; omega), List.getElem?_replicate] at h
      split at h
      · cases h
      · cases h
/-- THE RULE for a def -/
theorem fnD {x qual : Str} {st : Stmt} {f : Addr} {fd : FuncData} {N ps : List Str} {k : Nat} {g : Slots → M Out} {dvs : List V} {kws : List (Str × V)} (F : FunD K x qual (defArgs st) (defBody st) (defScope st) dvs kws f fd) (S : FnScope N ps (defScope st)) (hl : ps.length ≤ N.length)
    (hb : ∀ (cdv : Value) (A : Around) (outer : List Env) (s : Shared) (H : Hp) (E : XK) (p : Addr) (S : List Addr), Room k (A.deeper (PyProof.Rows.envOfC qual (defScope st) s.heap.objs.size f cdv)) →
      PSs (cxOf (L2.CX P w) P w K mg base N qual (defScope st) f cdv A outer s H E) (defBody st) (dS ⟨K, T, p, S, H, 0⟩ (fun cls d _ H => E cls d H) g)) :
    FnOk P w K mg base (L2.CX P w) (k + 1) f fd ps (spF K T ps.length (fnM N.length g)) := by
  refine F.ok S (fun vs H Q E h => ?_) (fun cdv A outer s H vs Q E hr h => ?_)
  · obtain ⟨p, S, ds, pt, _, _, e, rl, _⟩ := h
    rw [← RL.len rl, e]
  · obtain ⟨p, S, ds, pt, hp, hS, e, rl, hpot, q⟩ := h
    refine ⟨_, hb cdv A outer s H E p S hr, ⟨[], _, pt, ini_rs (c := ⟨K, T, p, S, H, 0⟩) hp hS rl hpot (by rw [e]; exact hl), ?_⟩⟩
    unfold fnM DF.bnd at q
    cases e2 : g (ini N.length ds) pt with
    | ok o p1 =>
      rw [e2] at q
      cases o with
      | nx ρ' => exact fun O' σ' H' rs _ => q .non H' ⟨rs.ext, rs.pot⟩ (by simp [Cy.R, R])
      | rt d => exact fun v H' fi rv => q v H' ⟨fi.ext, fi.pot⟩ rv
      | bk ρ' => exact q.elim
      | ct ρ' => exact q.elim
    | exc _ _ _ =>
      rw [e2] at q
      exact fun cls dd σ' H' fi x => q cls dd H' ⟨fi.ext, fi.pot⟩ x
    | stuck =>
      rw [e2] at q
      exact q
end

/-! ### calls -/
section
variable {X : Cx} {c : Cy} {W : WX} {CX : CXT} {k : Nat} {f C : Addr} {fd : FuncData} {ps : List Str} {sp : Sp} {ds : List Value} {dvs : List V} {E : L2.St → XK} {x m : Str} {p pos apos : Pos} {e o : Expr} {es : List Expr} {ta : TE} {t : TA}
/-- the callee runs; what it lets out is wished for at the slots -/
theorem runAt {pins : List (Addr × Obj)} {σ : L2.St} {H : Hp} {s : Shared} {Q : VK} {us : List Value} {vs : List V} (F : FnOk X.prog X.w X.K X.mg X.base CX k f fd ps sp) (hr : Room k X.A) (hb : Binds X.K fd ps ds) (hd : Vals dvs ds) (hx : PassesAt CX X σ (E σ))
    (I : Inv X pins σ H s) (r : Vals vs us) (h : sp (vs ++ dvs) H Q (E σ)) : wpAny (model X.prog X.w) X.A (call (.ref f) us) (EP X pins σ Q) X.xe s := by
  have r2 := r.append hd
  have hl : (us ++ ds).length = ps.length := r2.length.symm.trans (F.len _ _ _ _ h)
  have go := F.run X.A X.stack s H ⟨us, []⟩ _ _ Q (E σ) hr I.env0 (hb s us I.kIn hl) r2 h
  refine wpAny_call (codeAny_mono go fun res s' hq => ?_)
  match res, hq with
  | .error e, hq => exact hx pins H s e s' I hq
  | .ok (.ret u), hq => exact I.after hq
def tCallA (sp : Sp) (dvs : List V) (E : L2.St → XK) (t : TA) : TE := fun σ H Q => t σ H fun vs H1 => sp (vs ++ dvs) H1 Q (E σ)
theorem pe_callA (F : FnOk X.prog X.w X.K X.mg X.base CX k f fd ps sp) (hr : Room k X.A) (hg : Gl X x) (hm : X.mg x = some (.ref f)) (hk : PySem.W.keepIn X.K (.ref f) = true) (hb : Binds X.K fd ps ds) (hd : Vals dvs ds) (hx : ∀ σ, PassesAt CX X σ (E σ)) (ha : PA X (e :: es) t)
    (hdb : (x == ("__debug__" : Str)) = false := by decide) (he : starEach (e :: es) X.env = (false, eval e X.env) :: starEach es X.env := by rfl) (hpl : (backTo pos (starEach es X.env)).any (·.1) = false := by rfl) : PE X (.Call (.Name x p) (e :: es) [] pos) (tCallA sp dvs E t) :=
  ⟨fun pins s σ H Q I h => wpAny_Call_Name_kw (ld_glob I hg hm (PySem.W.callWith_K (h₀ := X.base) I.ok.mod.kin hk (thn (ha.run pos pins s σ H _ I h) fun us s1 ⟨vs, H1, I1, r, q⟩ => ⟨I1.kIn, runAt F hr hb hd (hx σ) I1 r q⟩) he hpl) hdb)⟩
theorem pe_callA0 (F : FnOk X.prog X.w X.K X.mg X.base CX k f fd ps sp) (hr : Room k X.A) (hg : Gl X x) (hm : X.mg x = some (.ref f)) (hk : PySem.W.keepIn X.K (.ref f) = true) (hb : Binds X.K fd ps ds) (hd : Vals dvs ds) (hx : ∀ σ, PassesAt CX X σ (E σ))
    (hdb : (x == ("__debug__" : Str)) = false := by decide) : PE X (.Call (.Name x p) [] [] pos) (tCallA sp dvs E tNil) :=
  ⟨fun pins s σ H Q I h => wpAny_Call_Name_kw (ld_glob I hg hm (PySem.W.callWith_K0 I.kIn hk (runAt (us := []) F hr hb hd (hx σ) I .nil h)) hdb)⟩
def tMethA (C : Addr) (m : Str) (sp : Sp) (dvs : List V) (E : L2.St → XK) (ta : TE) (t : TA) : TE := fun σ H Q => ta σ H fun x H1 => ∃ a dx fs, x = .ref a ∧ H1 a = some (.ins C dx fs) ∧ fs.lookup m = none ∧ t σ H1 fun vs H2 => sp (.ref a :: (vs ++ dvs)) H2 Q (E σ)
theorem pe_methA {pl : Sem Bool} (he : PE X o ta) (cl : Cls X.K C) (hm : Meth X.K C m f) (F : FnOk X.prog X.w X.K X.mg X.base CX k f fd ps sp) (hr : Room k X.A) (hb : Binds X.K fd ps ds) (hd : Vals dvs ds) (hx : ∀ σ, PassesAt CX X σ (E σ)) (ha : PA X (e :: es) t)
    (hst : starEach (e :: es) X.env = (false, eval e X.env) :: starEach es X.env := by rfl) (hpl : (backTo pos (starEach es X.env)).any (·.1) = false := by rfl)
    (ht : eval (.Call (.Attribute o m apos) (e :: es) [] pos) X.env = (eval o X.env >>= fun ov => standAt apos.atName >>= fun _ => holding [ov] (getMethod ov m pl) >>= fun z => callWith pos z.1 z.2 (backTo pos (starEach (e :: es) X.env)) (backToKw pos (keywordEach [] X.env))) := by rfl) :
    PE X (.Call (.Attribute o m apos) (e :: es) [] pos) (tMethA C m sp dvs E ta t) := by
  refine ⟨fun pins s σ H Q I h => PySem.W.methodCall_KW (pl := pl) (thn (he.run pins s σ H _ I h) fun u s1 ⟨x, H1, I1, rx, a, dx, fs, ex, ea, l, q⟩ => ?_) ht⟩
  subst ex
  obtain rfl : u = Value.ref a := rx
  refine getmeth_ok I1 ea cl hm l (PySem.W.callWith_K (first := [.ref a]) (h₀ := X.base) I.ok.mod.kin hm.kp (thn (ha.run pos pins s1 σ H1 _ I1 q) fun us s2 ⟨vs, H2, I2, r, q2⟩ => ⟨I2.kIn, ?_⟩) hst hpl)
  exact runAt (us := .ref a :: us) (vs := .ref a :: vs) F hr hb hd (hx σ) I2 (.cons rfl r) q2
theorem pe_methA0 {pl : Sem Bool} (he : PE X o ta) (cl : Cls X.K C) (hm : Meth X.K C m f) (F : FnOk X.prog X.w X.K X.mg X.base CX k f fd ps sp) (hr : Room k X.A) (hb : Binds X.K fd ps ds) (hd : Vals dvs ds) (hx : ∀ σ, PassesAt CX X σ (E σ))
    (ht : eval (.Call (.Attribute o m apos) [] [] pos) X.env = (eval o X.env >>= fun ov => standAt apos.atName >>= fun _ => holding [ov] (getMethod ov m pl) >>= fun z => callWith pos z.1 z.2 (backTo pos (starEach [] X.env)) (backToKw pos (keywordEach [] X.env))) := by rfl) :
    PE X (.Call (.Attribute o m apos) [] [] pos) (tMethA C m sp dvs E ta tNil) := by
  refine ⟨fun pins s σ H Q I h => PySem.W.methodCall_KW (pl := pl) (thn (he.run pins s σ H _ I h) fun u s1 ⟨x, H1, I1, rx, a, dx, fs, ex, ea, l, q⟩ => ?_) ht⟩
  subst ex
  obtain rfl : u = Value.ref a := rx
  exact getmeth_ok I1 ea cl hm l (PySem.W.callWith_K0 (first := [.ref a]) I1.kIn hm.kp (runAt (us := [.ref a]) (vs := [.ref a]) F hr hb hd (hx σ) I1 (.cons rfl .nil) q))
def tMakeA (C : Addr) (sp : Sp) (dvs : List V) (E : L2.St → XK) (t : TA) : TE := fun σ H Q => t σ H fun vs H1 => ∀ x dx, H1 x = none → H1 dx = none → dx ≠ x →
  sp (.ref x :: (vs ++ dvs)) (upd (upd H1 dx (.own x)) x (.ins C dx [])) (fun v H2 => v = .non ∧ Q (.ref x) H2) (E σ)
theorem makeAt {pins : List (Addr × Obj)} {σ : L2.St} {H : Hp} {s : Shared} {Q : VK} {us : List Value} {vs : List V} (M : Mk X.K C f) (F : FnOk X.prog X.w X.K X.mg X.base CX k f fd ps sp) (hr : Room (k + 1) X.A) (hb : Binds X.K fd ps ds) (hd : Vals dvs ds) (hx : PassesAt CX X σ (E σ))
    (I : Inv X pins σ H s) (r : Vals vs us) (h : ∀ x dx, H x = none → H dx = none → dx ≠ x → sp (.ref x :: (vs ++ dvs)) (upd (upd H dx (.own x)) x (.ins C dx [])) (fun v H2 => v = .non ∧ Q (.ref x) H2) (E σ)) :
    wpAny (model X.prog X.w) X.A (call (.ref C) us) (EP X pins σ Q) X.xe s := by
  have hq := h (s.heap.objs.size + 1) s.heap.objs.size (I.hok.fresh (Nat.le_succ _)) (I.hok.fresh (Nat.le_refl _)) (Nat.ne_of_lt (Nat.lt_succ_self _))
  have J := Inv.made (C := C) I
  have r2 : Vals (V.ref (s.heap.objs.size + 1) :: (vs ++ dvs)) (Value.ref (s.heap.objs.size + 1) :: (us ++ ds)) := .cons rfl (r.append hd)
  have hl : (Value.ref (s.heap.objs.size + 1) :: us ++ ds).length = ps.length := r2.length.symm.trans (F.len _ _ _ _ hq)
  have go := F.run _ X.stack _ _ ⟨Value.ref (s.heap.objs.size + 1) :: us, []⟩ _ _ _ (E σ) (hr.make C us []) (J.env0.make C us []) (hb _ (Value.ref (s.heap.objs.size + 1) :: us) J.kIn hl) r2 hq
  refine wpAny_call (make_map (f := f) I.kIn M.makes M.init (beq_iff_eq.mp M.fn) (codeAny_mono go fun res s' hq' => ?_))
  match res, hq' with
  | .error e, hq' => exact hx pins _ _ e s' J hq'
  | .ok (.ret u), hq' =>
    obtain ⟨v, H', I3, rv, ev, q3⟩ := J.after hq'
    subst ev
    exact ⟨rv, ⟨V.ref (s.heap.objs.size + 1), H', I3, rfl, q3⟩⟩
theorem pe_makeA (M : Mk X.K C f) (F : FnOk X.prog X.w X.K X.mg X.base CX k f fd ps sp) (hr : Room (k + 1) X.A) (hg : Gl X x) (hm : X.mg x = some (.ref C)) (hb : Binds X.K fd ps ds) (hd : Vals dvs ds) (hx : ∀ σ, PassesAt CX X σ (E σ)) (ha : PA X (e :: es) t)
    (hdb : (x == ("__debug__" : Str)) = false := by decide) (he : starEach (e :: es) X.env = (false, eval e X.env) :: starEach es X.env := by rfl) (hpl : (backTo pos (starEach es X.env)).any (·.1) = false := by rfl) : PE X (.Call (.Name x p) (e :: es) [] pos) (tMakeA C sp dvs E t) :=
  ⟨fun pins s σ H Q I h => wpAny_Call_Name_kw (ld_glob I hg hm (PySem.W.callWith_K (h₀ := X.base) I.ok.mod.kin M.kp (thn (ha.run pos pins s σ H _ I h) fun us s1 ⟨vs, H1, I1, r, q⟩ => ⟨I1.kIn, makeAt M F hr hb hd (hx σ) I1 r q⟩) he hpl) hdb)⟩
theorem pe_makeA0 (M : Mk X.K C f) (F : FnOk X.prog X.w X.K X.mg X.base CX k f fd ps sp) (hr : Room (k + 1) X.A) (hg : Gl X x) (hm : X.mg x = some (.ref C)) (hb : Binds X.K fd ps ds) (hd : Vals dvs ds) (hx : ∀ σ, PassesAt CX X σ (E σ))
    (hdb : (x == ("__debug__" : Str)) = false := by decide) : PE X (.Call (.Name x p) [] [] pos) (tMakeA C sp dvs E tNil) :=
  ⟨fun pins s σ H Q I h => wpAny_Call_Name_kw (ld_glob I hg hm (PySem.W.callWith_K0 I.kIn M.kp (makeAt (us := []) M F hr hb hd (hx σ) I .nil h)) hdb)⟩
end

/-! ### the same of data -/
section
variable {X : Cx} {c : Cy} {W : WX} {k n : Nat} {f C : Addr} {fd : FuncData} {ps : List Str} {ds : List Value} {dvs : List V} {dd : List D} {x m : Str} {p pos apos : Pos} {e o : Expr} {es : List Expr} {fm : List D → M D} {fa : Slots → M (List D)} {fo : Slots → M D}
theorem RX.less {c c' : Cy} {H : Hp} {e : Nat} {fs : List D} {cls : Value} {dd : Option Addr} (h : RX c' H e fs cls dd) (hK : c'.K = c.K) (hT : c'.T = c.T) (hp : c'.p = c.p) (hS : ∀ a ∈ c.S, a ∈ c'.S) : RX c H e fs cls dd := by
  obtain ⟨K, T, p, S, H0, me⟩ := c
  obtain ⟨K', T', p', S', H0', me'⟩ := c'
  simp only at hK hT hp hS
  subst hK hT hp
  obtain ⟨e1, h⟩ := h
  refine ⟨e1, h.imp id fun ⟨d, vs, a1, a2, a3, a4, a5⟩ => ⟨d, vs, a1, fun q => a2 (hS d q), a3, a4, RL.gr (Hd.sub hS) a5⟩⟩
/-- what a call of data asks, from what is wanted of its outcome -/
theorem spF_of {σ : L2.St} {O : List (Nat × Addr)} {ρ : Slots} {pt : Pot} {H : Hp} {xs : List D} {vs : List V} {Q : VK} (rs : RS c O ρ σ H pt) (rl : c.RL (Hd (hid c O) H) xs vs) (hl : xs.length = n)
    (h : Wg c W σ H (fun d _ H' => ∀ v, c.R (Hd (hid c O) H') d v → Q v H') (fm xs pt)) : spF c.K c.T n fm vs H Q (WE W σ) := by
  refine ⟨c.p, hid c O, xs, pt, rs.pm, fun a h => rs.hidden h, hl, rl, rs.pot, ?_⟩
  cases e : fm xs pt with
  | ok d p1 =>
    rw [e] at h
    exact fun v H' st rv => h H' st v rv
  | exc k fs p1 =>
    rw [e] at h
    exact fun cls dd H' st rx => h cls dd H' (Fin.of_stp rs st) (RX.less rx rfl rfl rfl fun a h => List.mem_append_left _ h)
  | stuck =>
    rw [e] at h
    exact h
/-- data that stand in every heap: defaults -/
def Cst (c : Cy) (dd : List D) (dvs : List V) : Prop := ∀ H, c.RL H dd dvs
theorem Cst.nil : Cst c [] [] := fun _ => RL.nil
theorem Cst.int {i : Int} (h : Cst c dd dvs) : Cst c (.int i :: dd) (.int i :: dvs) := fun H => RL.cons (by simp [R]) (h H)
theorem Cst.non (h : Cst c dd dvs) : Cst c (.non :: dd) (.non :: dvs) := fun H => RL.cons (by simp [R]) (h H)
theorem Cst.bl {b : Bool} (h : Cst c dd dvs) : Cst c (.bl b :: dd) (.bl b :: dvs) := fun H => RL.cons (by simp [R]) (h H)
def callE (n : Nat) (fm : List D → M D) (dd : List D) (fa : Slots → M (List D)) : Slots → M D := fun ρ => bnd (fa ρ) fun ds => if (ds ++ dd).length = n then fm (ds ++ dd) else fail
theorem de_call (F : FnOk X.prog X.w X.K X.mg X.base (L2.CX X.prog X.w) k f fd ps (spF c.K c.T n fm)) (hr : Room k X.A) (tk : Takes X W) (hm : X.mg x = some (.ref f)) (hk : PySem.W.keepIn X.K (.ref f) = true) (hb : Binds X.K fd ps ds) (hd : Vals dvs ds) (hc : Cst c dd dvs) (ha : PA X (e :: es) (dA c W fa))
    (hg : Gl X x := by rfl) (hdb : (x == ("__debug__" : Str)) = false := by decide) (he : starEach (e :: es) X.env = (false, eval e X.env) :: starEach es X.env := by rfl) (hpl : (backTo pos (starEach es X.env)).any (·.1) = false := by rfl) :
    PE X (.Call (.Name x p) (e :: es) [] pos) (dE c W (callE n fm dd fa)) := by
  refine pe_imp (pe_callA F hr hg hm hk hb hd (passAt tk) ha hdb he hpl) fun σ H Q ⟨O, ρ, pt, r, q⟩ => ⟨O, ρ, pt, r, (Wg.bnd q).imp fun ds p1 H1 _ s1 q vs rvs => ?_⟩
  by_cases hz : (ds ++ dd).length = n
  · rw [if_pos hz] at q
    exact spF_of (r.stp s1) (RL.app rvs (hc _)) hz q
  · rw [if_neg hz] at q
    exact q.elim
theorem de_call0 (F : FnOk X.prog X.w X.K X.mg X.base (L2.CX X.prog X.w) k f fd ps (spF c.K c.T n fm)) (hr : Room k X.A) (tk : Takes X W) (hm : X.mg x = some (.ref f)) (hk : PySem.W.keepIn X.K (.ref f) = true) (hb : Binds X.K fd ps ds) (hd : Vals dvs ds) (hc : Cst c dd dvs)
    (hg : Gl X x := by rfl) (hdb : (x == ("__debug__" : Str)) = false := by decide) : PE X (.Call (.Name x p) [] [] pos) (dE c W (callE n fm dd nilA)) := by
  refine pe_imp (pe_callA0 F hr hg hm hk hb hd (passAt tk) hdb) fun σ H Q ⟨O, ρ, pt, r, q⟩ => ?_
  have q := Wg.here (Wg.bnd q) r.pot
  by_cases hz : ([] ++ dd).length = n
  · rw [if_pos hz] at q
    exact spF_of (vs := [] ++ dvs) r (hc _) hz q
  · rw [if_neg hz] at q
    exact q.elim
/-- a method of the class number kc -/
def methE (kc : Nat) (n : Nat) (fm : List D → M D) (dd : List D) (fo : Slots → M D) (fa : Slots → M (List D)) : Slots → M D := fun ρ => bnd (fo ρ) fun z => match z with
  | .obj j fs => if j = kc then bnd (fa ρ) fun ds => if (ds ++ dd).length + 1 = n then fm (.obj j fs :: (ds ++ dd)) else fail else fail
  | _ => fail
theorem no_attr {T : Tb} {kc : Nat} {m : Str} {vs : List V} (h : m ∉ T.names kc) : ((T.names kc).zip vs).lookup m = none := by
  generalize T.names kc = ns at h
  induction ns generalizing vs with
  | nil => rfl
  | cons a as ih =>
    cases vs with
    | nil => rfl
    | cons v vs =>
      show (match m == a with | true => _ | false => _) = _
      have : (m == a) = false := by
        rw [beq_eq_false_iff_ne]
        intro q
        exact h (q ▸ List.mem_cons_self)
      rw [this]
      exact ih fun q => h (List.mem_cons_of_mem _ q)
theorem de_meth {kc : Nat} {pl : Sem Bool} (ho : PE X o (dE c W fo)) (hC : c.T.cls kc = C) (hno : m ∉ c.T.names kc) (cl : Cls X.K C) (hm : Meth X.K C m f) (F : FnOk X.prog X.w X.K X.mg X.base (L2.CX X.prog X.w) k f fd ps (spF c.K c.T n fm)) (hr : Room k X.A) (tk : Takes X W) (hb : Binds X.K fd ps ds) (hd : Vals dvs ds) (hc : Cst c dd dvs) (ha : PA X (e :: es) (dA c W fa))
    (hst : starEach (e :: es) X.env = (false, eval e X.env) :: starEach es X.env := by rfl) (hpl : (backTo pos (starEach es X.env)).any (·.1) = false := by rfl)
    (ht : eval (.Call (.Attribute o m apos) (e :: es) [] pos) X.env = (eval o X.env >>= fun ov => standAt apos.atName >>= fun _ => holding [ov] (getMethod ov m pl) >>= fun z => callWith pos z.1 z.2 (backTo pos (starEach (e :: es) X.env)) (backToKw pos (keywordEach [] X.env))) := by rfl) :
    PE X (.Call (.Attribute o m apos) (e :: es) [] pos) (dE c W (methE kc n fm dd fo fa)) := by
  refine pe_imp (pe_methA (pl := pl) ho cl hm F hr hb hd (passAt tk) ha hst hpl ht) fun σ H Q ⟨O, ρ, pt, r, q⟩ => ⟨O, ρ, pt, r, (Wg.bnd q).imp fun z p1 H1 _ s1 qz v rv => ?_⟩
  cases z with
  | obj j fs =>
    simp only at qz
    by_cases hj : j = kc
    · rw [if_pos hj] at qz
      subst hj
      have rv' := rv
      simp only [Cy.R, R] at rv
      obtain ⟨a, dx, ws, rfl, ha, _, _⟩ := rv
      refine ⟨a, dx, _, rfl, by rw [← hC]; exact Hd.le _ _ ha, no_attr hno, ⟨O, ρ, p1, r.stp s1, (Wg.bnd qz).imp fun ds p2 H2 _ s2 q vs rvs => ?_⟩⟩
      by_cases hz : (ds ++ dd).length + 1 = n
      · rw [if_pos hz] at q
        exact spF_of ((r.stp s1).stp s2) (RL.cons (R.gr (s2.gr r.pm) rv') (RL.app rvs (hc _))) hz q
      · rw [if_neg hz] at q
        exact q.elim
    · rw [if_neg hj] at qz
      exact qz.elim
  | _ => exact qz.elim
theorem de_meth0 {kc : Nat} {pl : Sem Bool} (ho : PE X o (dE c W fo)) (hC : c.T.cls kc = C) (hno : m ∉ c.T.names kc) (cl : Cls X.K C) (hm : Meth X.K C m f) (F : FnOk X.prog X.w X.K X.mg X.base (L2.CX X.prog X.w) k f fd ps (spF c.K c.T n fm)) (hr : Room k X.A) (tk : Takes X W) (hb : Binds X.K fd ps ds) (hd : Vals dvs ds) (hc : Cst c dd dvs)
    (ht : eval (.Call (.Attribute o m apos) [] [] pos) X.env = (eval o X.env >>= fun ov => standAt apos.atName >>= fun _ => holding [ov] (getMethod ov m pl) >>= fun z => callWith pos z.1 z.2 (backTo pos (starEach [] X.env)) (backToKw pos (keywordEach [] X.env))) := by rfl) :
    PE X (.Call (.Attribute o m apos) [] [] pos) (dE c W (methE kc n fm dd fo nilA)) := by
  refine pe_imp (pe_methA0 (pl := pl) ho cl hm F hr hb hd (passAt tk) ht) fun σ H Q ⟨O, ρ, pt, r, q⟩ => ⟨O, ρ, pt, r, (Wg.bnd q).imp fun z p1 H1 _ s1 qz v rv => ?_⟩
  cases z with
  | obj j fs =>
    simp only at qz
    by_cases hj : j = kc
    · rw [if_pos hj] at qz
      subst hj
      have rv' := rv
      simp only [Cy.R, R] at rv
      obtain ⟨a, dx, ws, rfl, ha, _, _⟩ := rv
      refine ⟨a, dx, _, rfl, by rw [← hC]; exact Hd.le _ _ ha, no_attr hno, ?_⟩
      have q := Wg.here (Wg.bnd qz) s1.pot
      by_cases hz : (([] : List D) ++ dd).length + 1 = n
      · rw [if_pos hz] at q
        exact spF_of (vs := .ref a :: ([] ++ dvs)) (r.stp s1) (RL.cons rv' (hc _)) hz q
      · rw [if_neg hz] at q
        exact q.elim
    · rw [if_neg hj] at qz
      exact qz.elim
  | _ => exact qz.elim
end
end DF

set_option Elab.async false
set_option linter.all false
set_option maxRecDepth 100000
set_option maxHeartbeats 4000000
namespace DF
open PySem L2
/-! ### objects: made, their fields -/
structure StpI (p x : Addr) (H H' : Hp) (pt : Pot) : Prop where
  keep : ∀ a o, a ≠ p → a ≠ x → H a = some o → H' a = some o
  pot : H' p = some (potO pt)
def Wi (c : Cy) (kc : Nat) (x : Addr) (H : Hp) (Q : VK) (E : XK) : Res (List D) → Prop
  | .ok fs pt => ∀ H' dx fvs, StpI c.p x H H' pt → H' x = some (.ins (c.T.cls kc) dx ((c.T.names kc).zip fvs)) → fs.length = (c.T.names kc).length → c.RL (Hd (x :: c.S) H') fs fvs → Q .non H'
  | .exc e fs pt => ∀ cls dd H', StpI c.p x H H' pt → RX c H' e fs cls dd → E cls dd H'
  | .stuck => False
def spI (K : PySem.W.Frag) (T : Tb) (kc n : Nat) (m : List D → M (List D)) : Sp := fun vs H Q E => ∃ p S x dx ds ws pt, vs = .ref x :: ws ∧ p ∈ S ∧ (∀ a ∈ S, ∃ o, H a = some o) ∧ x ∉ S ∧ ds.length + 1 = n ∧ H x = some (.ins (T.cls kc) dx []) ∧
  RL K T p (Hd (x :: S) H) ds ws ∧ H p = some (potO pt) ∧ Wi ⟨K, T, p, S, H, x⟩ kc x H Q E (m ds pt)
def fldsOf (kc nf : Nat) : Slots → Option (List D)
  | some (.slf j fs) :: _ => if j = kc ∧ fs.length = nf then some fs else none
  | _ => none
def iniM (kc nf n : Nat) (g : Slots → M Out) : List D → M (List D) := fun ds => bnd (g (some (.slf kc []) :: ini n ds)) fun o => match o with
  | .nx ρ => opt (fldsOf kc nf ρ)
  | _ => fail
section
variable {P : Program} {w : World} {K : PySem.W.Frag} {mg : Str → Option Value} {base : Heap} {T : Tb}
theorem iniI_rs {c : Cy} {y : Str} {N : List Str} {ds : List D} {vs : List V} {pt : Pot} {H : Hp} {dx : Addr} {kc : Nat} (h0 : c.H0 = Hd [c.me] H) (hx : c.me ∉ c.S) (hp : c.p ∈ c.S) (hS : ∀ a ∈ c.S, ∃ o, H a = some o) (hi : H c.me = some (.ins (c.T.cls kc) dx []))
    (rl : c.RL (Hd (c.me :: c.S) H) ds vs) (hpot : H c.p = some (potO pt)) (hl : ds.length ≤ N.length) :
    RS c [(0, c.me)] (some (.slf kc []) :: ini N.length ds) (L2.start (y :: N) (.ref c.me :: vs)) H pt := by
  have lv := RL.len rl
  have eh : ∀ a, a ∈ hid c [(0, c.me)] → a ∈ c.me :: c.S := fun a h => (List.mem_append.mp h).elim (fun z => List.mem_cons_of_mem _ z) fun z => by
    have : a = c.me := by simpa using z
    rw [this]; exact List.mem_cons_self
  have hst : L2.start (y :: N) (.ref c.me :: vs) = some (.ref c.me) :: L2.start N vs := by
    unfold L2.start
    simp [Nat.succ_sub_succ]
  rw [hst]
  refine ⟨hpot, fun a o n h => ?_, hp, fun a h => ?_, fun q hq => ?_, ?_, ?_, ?_, fun q hq => ⟨.slf kc [], by rw [List.mem_singleton.mp hq]; rfl, rfl⟩, fun i s h => ?_⟩
  · rw [h0] at h
    exact (Hd.sees h).2
  · exact hS a h
  · have e : q = (0, c.me) := by simpa using hq
    subst e
    refine ⟨?_, fun z => hx (show c.me ∈ c.S from (show c.me = c.p from z) ▸ hp), hx, _, hi⟩
    rw [h0]
    exact Hd.in_ List.mem_cons_self
  · simp
  · simp
  · simp only [List.length_cons]
    unfold ini L2.start
    simp [lv]
  · cases i with
    | zero =>
      simp only [List.getElem?_cons_zero] at h
      cases h
      exact ⟨c.me, dx, [], List.mem_cons_self, rfl, rfl, by simpa using hi, Nat.zero_le _, RL.nil⟩
    | succ i =>
      simp only [List.getElem?_cons_succ] at h ⊢
      unfold ini at h
      unfold L2.start
      by_cases hi : i < ds.length
      · rw [List.getElem?_append_left (by rw [List.length_map]; exact hi), List.getElem?_map] at h
        cases e : ds[i]? with
        | none => rw [e] at h; cases h
        | some d =>
          rw [e] at h
          cases h
          obtain ⟨v, ev, rv⟩ := RL.getD rl e
          refine ⟨v, ?_, R.gr (Hd.sub eh) rv⟩
          rw [List.getElem?_append_left (by rw [List.length_map, ← lv]; exact hi), List.getElem?_map, ev]
          rfl
      · rw [List.getElem?_append_right (by rw [List.length_map]; omega), List.getElem?_replicate] at h
        split at h
        · cases h
        · cases h
/-- THE RULE for an __init__ -/
theorem fnI {x qual y : Str} {st : Stmt} {f : Addr} {fd : FuncData} {N ps : List Str} {k kc : Nat} {g : Slots → M Out} {dvs : List V} {kws : List (Str × V)} (F : FunD K x qual (defArgs st) (defBody st) (defScope st) dvs kws f fd) (S : FnScope (y :: N) (y :: ps) (defScope st)) (hl : ps.length ≤ N.length)
    (hb : ∀ (cdv : Value) (A : Around) (outer : List Env) (s : Shared) (H H0 : Hp) (E : XK) (p me : Addr) (S : List Addr), Room k (A.deeper (PyProof.Rows.envOfC qual (defScope st) s.heap.objs.size f cdv)) →
      PSs (cxOf (L2.CX P w) P w K mg base (y :: N) qual (defScope st) f cdv A outer s H E) (defBody st) (dS ⟨K, T, p, S, H0, me⟩ (fun cls d _ H => E cls d H) g))
    {nf : Nat} (hnf : nf = (T.names kc).length) : FnOk P w K mg base (L2.CX P w) (k + 1) f fd (y :: ps) (spI K T kc (y :: ps).length (iniM kc nf N.length g)) := by
  refine F.ok S (fun vs H Q E h => ?_) (fun cdv A outer s H vs Q E hr h => ?_)
  · obtain ⟨p, S, x, dx, ds, ws, pt, rfl, _, _, _, e, _, rl, _⟩ := h
    rw [List.length_cons, ← RL.len rl, e]
  · obtain ⟨p, S, x, dx, ds, ws, pt, rfl, hp, hS, hx, e, hi, rl, hpot, q⟩ := h
    have le : ds.length ≤ N.length := by
      simp only [List.length_cons] at e
      omega
    refine ⟨_, hb cdv A outer s H (Hd [x] H) E p x S hr, ⟨[(0, x)], _, pt, iniI_rs (c := ⟨K, T, p, S, Hd [x] H, x⟩) (N := N) rfl hx hp hS hi rl hpot le, ?_⟩⟩
    unfold iniM DF.bnd at q
    have keepI : ∀ {H' : Hp} {p1 : Pot}, Fin ⟨K, T, p, S, Hd [x] H, x⟩ H' p1 → StpI p x H H' p1 := fun fi => ⟨fun a o n1 n2 h => fi.ext a o n1 (by
      show Hd [x] H a = some o
      rw [Hd.out (fun z => n2 (List.mem_singleton.mp z))]
      exact h), fi.pot⟩
    cases e2 : g (some (.slf kc []) :: ini N.length ds) pt with
    | ok o p1 =>
      rw [e2] at q
      cases o with
      | nx ρ' =>
        intro O' σ' H' rs _
        simp only at q
        cases ef : fldsOf kc nf ρ' with
        | none => rw [ef] at q; exact q.elim
        | some fs =>
          rw [ef] at q
          unfold fldsOf at ef
          split at ef
          · rename_i j fs' rest
            split at ef
            · rename_i hj
              cases ef
              obtain ⟨hj, hf⟩ := hj
              subst hj
              obtain ⟨a, dx', vs', m, em, _, ha, _, rl'⟩ := rs.sl 0 _ rfl
              have em' : a = x := em
              subst em'
              refine q H' dx' vs' (keepI rs.fin) ha (hf.trans hnf) (RL.gr (Hd.sub fun b hb => ?_) rl')
              rcases List.mem_cons.mp hb with z | z
              · rw [z]; exact List.mem_append_right _ (List.mem_map.mpr ⟨_, m, rfl⟩)
              · exact List.mem_append_left _ z
            · cases ef
          · cases ef
      | rt d => exact q.elim
      | bk ρ' => exact q.elim
      | ct ρ' => exact q.elim
    | exc _ _ _ =>
      rw [e2] at q
      exact fun cls dd σ' H' fi x => q cls dd H' (keepI fi) x
    | stuck =>
      rw [e2] at q
      exact q
end
section
variable {X : Cx} {c : Cy} {W : WX} {σ : L2.St} {H H' : Hp} {O : List (Nat × Addr)} {ρ : Slots} {pt pt' : Pot}
/-- what is one's own is changed -/
theorem RS.mut (r : RS c O ρ σ H pt) {i : Nat} {a : Addr} {o : HO} {s' : SV} (m : (i, a) ∈ O) (h : (Gr (Hd (hid c O) H) (Hd (hid c O) (upd H a o))) → SlotOk c O (upd H a o) i σ[i]? s') (hi : i < ρ.length) (ho : isOwn s' = true := by rfl) :
    RS c O (ρ.set i (some s')) σ (upd H a o) pt ∧ Mv c O H O (upd H a o) := by
  have ah : a ∈ hid c O := List.mem_append_right _ (List.mem_map.mpr ⟨_, m, rfl⟩)
  have ap : c.p ≠ a := fun z => (r.new _ m).2.1 z.symm
  have g : Gr (Hd (hid c O) H) (Hd (hid c O) (upd H a o)) := fun b u e => by
    obtain ⟨h1, h2⟩ := Hd.sees e
    rw [Hd.out h1, upd_ne (fun z : b = a => h1 (z ▸ ah))]
    exact h2
  refine ⟨⟨by rw [upd_ne ap]; exact r.pot, fun b u n e => ?_, r.hp, fun b hb => ?_, fun q hq => ?_, r.nd, r.nf, by rw [List.length_set]; exact r.len, fun q hq => ?_, fun j s hj => ?_⟩, fun b u h1 h2 => ⟨h1, by rw [upd_ne (fun z : b = a => h1 (z ▸ ah))]; exact h2⟩⟩
  · rw [upd_ne (fun z => by rw [z, (r.new _ m).1] at e; cases e)]
    exact r.ext b u n e
  · obtain ⟨u, e⟩ := r.hS b hb
    by_cases z : b = a
    · exact ⟨o, by rw [z, upd_same]⟩
    · exact ⟨u, by rw [upd_ne z]; exact e⟩
  · obtain ⟨h1, h2, h4, u, h3⟩ := r.new q hq
    refine ⟨h1, h2, h4, ?_⟩
    by_cases z : q.2 = a
    · exact ⟨o, by rw [z, upd_same]⟩
    · exact ⟨u, by rw [upd_ne z]; exact h3⟩
  · by_cases e : q.1 = i
    · rw [e]
      exact ⟨s', List.getElem?_set_self hi, ho⟩
    · rw [List.getElem?_set_ne (Ne.symm e)]
      exact r.ow q hq
  · by_cases e : j = i
    · subst e
      rw [List.getElem?_set_self hi] at hj
      cases hj
      exact h g
    · rw [List.getElem?_set_ne (Ne.symm e)] at hj
      have q := r.sl j s hj
      have ne : ∀ {b : Addr}, (j, b) ∈ O → b ≠ a := fun mb z => by
        have := same_of r.nd m mb z
        cases this
        exact e rfl
      cases s with
      | val d =>
        obtain ⟨v, e, r⟩ := q
        exact ⟨v, e, R.gr g r⟩
      | own ds =>
        obtain ⟨b, vs, m, e, q, r⟩ := q
        exact ⟨b, vs, m, e, by rw [upd_ne (ne m)]; exact q, RL.gr g r⟩
      | ownd ds =>
        obtain ⟨b, vs, m, e, q, r⟩ := q
        exact ⟨b, vs, m, e, by rw [upd_ne (ne m)]; exact q, RK.gr g r⟩
      | slf k fs =>
        obtain ⟨b, dx, vs, m, em, e, q, l, r⟩ := q
        exact ⟨b, dx, vs, m, em, e, by rw [upd_ne (ne m)]; exact q, l, RL.gr g r⟩
theorem putF_new {f : Str} {y : V} : ∀ {fs : List (Str × V)}, f ∉ fs.map (·.1) → putF f y fs = fs ++ [(f, y)]
  | [], _ => rfl
  | (g, v) :: fs, h => by
    have h1 : f ≠ g := fun e => h (by rw [e]; exact List.mem_cons_self)
    show (if g = f then _ else (g, v) :: putF f y fs) = _
    rw [if_neg (Ne.symm h1), putF_new fun q => h (List.mem_cons_of_mem _ q)]
    rfl
theorem zip_put {ns : List Str} {vs : List V} {f : Str} {y : V} (nd : ns.Nodup) (h : ns[vs.length]? = some f) : putF f y (ns.zip vs) = ns.zip (vs ++ [y]) := by
  have hl := (List.getElem?_eq_some_iff.mp h).1
  induction ns generalizing vs with
  | nil => simp at hl
  | cons n ns ih =>
    cases vs with
    | nil =>
      simp at h
      subst h
      simp [putF]
    | cons v vs =>
      simp only [List.length_cons, List.getElem?_cons_succ] at h
      have nd' := List.nodup_cons.mp nd
      have hn : n ≠ f := fun e => nd'.1 (e ▸ List.mem_of_getElem? h)
      have hl' := (List.getElem?_eq_some_iff.mp h).1
      show (if n = f then _ else (n, v) :: putF f y (ns.zip vs)) = _
      rw [if_neg hn, ih nd'.2 h hl']
      rfl
/-- self.f = e, the field number ix -/
def fldS (i kc ix : Nat) (f : Slots → M D) : Slots → M Out := fun ρ => bnd (f ρ) fun d => match ρ[i]? with
  | some (some (.slf k fs)) => if k = kc ∧ fs.length = ix then ret (.nx (ρ.set i (some (.slf k (fs ++ [d]))))) else fail
  | _ => fail
theorem ds_fld {i kc ix : Nat} {x f : Str} {C : Addr} {e : Expr} {g : Slots → M D} {p1 p2 pos : Pos} (h : PE X e (dE c W g)) (hC : c.T.cls kc = C) (cl : Cls X.K C) (hno : NoAttr X.K C f) (nd : (c.T.names kc).Nodup) (hf : (c.T.names kc)[ix]? = some f) (hsz : (c.T.names kc).length < 1000)
    (hN : X.N[i]? = some x := by rfl) (hv : Vis X.env.scope x := by first | exact Or.inl rfl | exact Or.inr (Or.inl rfl)) (hd : (x == ("__debug__" : Str)) = false := by decide) (hcd : (x == ("__classdict__" : Str)) = false := by decide)
    (hs : swapsWith e (some (.Attribute (.Name x p1) f p2)) pos.line X.env = pure false := by rfl) : PS X (.Assign [.Attribute (.Name x p1) f p2] e pos) (dS c W (fldS i kc ix g)) := by
  refine ps_imp (ps_fld (pe_var (i := i) hN hv hd hcd) h hs) fun E σ H ⟨O, ρ, pt, r, h⟩ => ⟨O, ρ, pt, r, (WO.bnd r h).imp fun d p1 H1 _ s1 q v rv => ?_⟩
  have r1 := r.stp s1
  revert q
  match hρ : ρ[i]? with
  | some (some (.slf k fs)) =>
    intro q
    simp only at q
    by_cases hz : k = kc ∧ fs.length = ix
    · rw [if_pos hz] at q
      obtain ⟨rfl, rfl⟩ := hz
      obtain ⟨a, dx, vs, m, em, ev, ha, hl, rl⟩ := r1.sl i _ hρ
      have lv := RL.len rl
      refine ⟨_, ev, a, C, dx, _, rfl, by rw [← hC]; exact ha, cl, hno, by rw [List.length_zip]; omega, ?_⟩
      rw [← hC, zip_put nd (by rw [← lv]; exact hf)]
      have hi : i < ρ.length := (List.getElem?_eq_some_iff.mp hρ).1
      have hle : (fs ++ [d]).length ≤ (c.T.names k).length := by
        have := (List.getElem?_eq_some_iff.mp hf).1
        rw [List.length_append]
        simp only [List.length_cons, List.length_nil]
        omega
      obtain ⟨rs, mv⟩ := r1.mut (s' := .slf k (fs ++ [d])) m (o := .ins (c.T.cls k) dx ((c.T.names k).zip (vs ++ [v]))) (fun gr => ⟨a, dx, vs ++ [v], m, em, ev, upd_same, hle, RL.app (RL.gr gr rl) (RL.one (R.gr gr rv))⟩) hi
      exact q _ _ _ rs mv
    · rw [if_neg hz] at q
      exact q.elim
  | some (some (.val _)) => exact fun q => q.elim
  | some (some (.own _)) => exact fun q => q.elim
  | some (some (.ownd _)) => exact fun q => q.elim
  | some none => exact fun q => q.elim
  | none => exact fun q => q.elim
/-- C(e, ..) -/
def makeE (kc n : Nat) (m : List D → M (List D)) (dd : List D) (fa : Slots → M (List D)) : Slots → M D := fun ρ => bnd (fa ρ) fun ds => if (ds ++ dd).length + 1 = n then bnd (m (ds ++ dd)) fun fs => ret (.obj kc fs) else fail
theorem spI_of {kc n : Nat} {m : List D → M (List D)} {xs : List D} {vs : List V} {Q : VK} {x dx : Addr} {C : Addr} (rs : RS c O ρ σ H pt) (rl : c.RL (Hd (hid c O) H) xs vs) (hl : xs.length + 1 = n) (hC : c.T.cls kc = C) (hx : H x = none) (hdx : H dx = none) (ne : dx ≠ x)
    (h : Wg c W σ H (fun d _ H' => ∀ v, c.R (Hd (hid c O) H') d v → Q v H') (bnd (m xs) (fun fs => ret (.obj kc fs)) pt)) :
    spI c.K c.T kc n m (.ref x :: vs) (upd (upd H dx (.own x)) x (.ins C dx [])) (fun v H2 => v = .non ∧ Q (.ref x) H2) (WE W σ) := by
  have g0 : Gr H (upd (upd H dx (.own x)) x (.ins C dx [])) := fun a o e => by
    rw [upd_ne (ne_of_none e hx), upd_ne (ne_of_none e hdx)]
    exact e
  have xh : x ∉ hid c O := rs.fresh hx
  have h := Wg.bnd h
  refine ⟨c.p, hid c O, x, dx, xs, vs, pt, rfl, rs.pm, fun a ha => let ⟨o, e⟩ := rs.hidden ha; ⟨o, g0 _ _ e⟩, xh, hl, by rw [hC]; exact upd_same, RL.gr (fun a o e => ?_) rl, g0 _ _ rs.pot, ?_⟩
  · obtain ⟨h1, h2⟩ := Hd.sees e
    rw [Hd.out (fun z => (List.mem_cons.mp z).elim (ne_of_none h2 hx) h1)]
    exact g0 _ _ h2
  · have step : ∀ {H' : Hp} {p1 : Pot}, StpI c.p x (upd (upd H dx (.own x)) x (.ins C dx [])) H' p1 → Stp c.p H H' p1 := fun st => ⟨fun a o n e => st.keep a o n (ne_of_none e hx) (g0 _ _ e), st.pot⟩
    cases e : m xs pt with
    | ok fs p1 =>
      rw [e] at h
      intro H' dx' fvs st hx' hn rf
      refine ⟨rfl, Wg.here (h H' (step st)) st.pot _ ?_⟩
      simp only [Cy.R, R]
      exact ⟨x, dx', fvs, rfl, by rw [Hd.out xh]; exact hx', hn, RL.gr (Hd.sub fun b hb => List.mem_cons_of_mem _ hb) rf⟩
    | exc k fs p1 =>
      rw [e] at h
      exact fun cls dd H' st rx => h cls dd H' (Fin.of_stp rs (step st)) (RX.less rx rfl rfl rfl fun a h => List.mem_append_left _ h)
    | stuck =>
      rw [e] at h
      exact h
variable {k n kc : Nat} {f C : Addr} {fd : FuncData} {ps : List Str} {ds : List Value} {dvs : List V} {dd : List D} {x m : Str} {p pos apos : Pos} {e o : Expr} {es : List Expr} {fm : List D → M (List D)} {fa : Slots → M (List D)} {fo : Slots → M D}
theorem de_make (M : Mk X.K C f) (F : FnOk X.prog X.w X.K X.mg X.base (L2.CX X.prog X.w) k f fd ps (spI c.K c.T kc n fm)) (hr : Room (k + 1) X.A) (tk : Takes X W) (hm : X.mg x = some (.ref C)) (hC : c.T.cls kc = C) (hb : Binds X.K fd ps ds) (hd : Vals dvs ds) (hc : Cst c dd dvs) (ha : PA X (e :: es) (dA c W fa))
    (hg : Gl X x := by rfl) (hdb : (x == ("__debug__" : Str)) = false := by decide) (he : starEach (e :: es) X.env = (false, eval e X.env) :: starEach es X.env := by rfl) (hpl : (backTo pos (starEach es X.env)).any (·.1) = false := by rfl) :
    PE X (.Call (.Name x p) (e :: es) [] pos) (dE c W (makeE kc n fm dd fa)) := by
  refine pe_imp (pe_makeA M F hr hg hm hb hd (passAt tk) ha hdb he hpl) fun σ H Q ⟨O, ρ, pt, r, q⟩ => ⟨O, ρ, pt, r, (Wg.bnd q).imp fun ds p1 H1 _ s1 q vs rvs => ?_⟩
  by_cases hz : (ds ++ dd).length + 1 = n
  · rw [if_pos hz] at q
    exact fun x dx h1 h2 h3 => spI_of (r.stp s1) (RL.app rvs (hc _)) hz hC h1 h2 h3 q
  · rw [if_neg hz] at q
    exact q.elim
theorem de_make0 (M : Mk X.K C f) (F : FnOk X.prog X.w X.K X.mg X.base (L2.CX X.prog X.w) k f fd ps (spI c.K c.T kc n fm)) (hr : Room (k + 1) X.A) (tk : Takes X W) (hm : X.mg x = some (.ref C)) (hC : c.T.cls kc = C) (hb : Binds X.K fd ps ds) (hd : Vals dvs ds) (hc : Cst c dd dvs)
    (hg : Gl X x := by rfl) (hdb : (x == ("__debug__" : Str)) = false := by decide) : PE X (.Call (.Name x p) [] [] pos) (dE c W (makeE kc n fm dd nilA)) := by
  refine pe_imp (pe_makeA0 M F hr hg hm hb hd (passAt tk) hdb) fun σ H Q ⟨O, ρ, pt, r, q⟩ => ?_
  have q := Wg.here (Wg.bnd q) r.pot
  by_cases hz : (([] : List D) ++ dd).length + 1 = n
  · rw [if_pos hz] at q
    exact fun x dx h1 h2 h3 => spI_of (vs := [] ++ dvs) r (hc _) hz hC h1 h2 h3 q
  · rw [if_neg hz] at q
    exact q.elim
/-- e.f, the field number ix of the class kc -/
def getE (kc ix : Nat) (fo : Slots → M D) : Slots → M D := fun ρ => bnd (fo ρ) fun z => match z with
  | .obj j fs => if j = kc then opt fs[ix]? else fail
  | _ => fail
theorem zip_look {ns : List Str} {vs : List V} {f : Str} {v : V} {ix : Nat} (nd : ns.Nodup) (h : ns[ix]? = some f) (hv : vs[ix]? = some v) : (ns.zip vs).lookup f = some v := by
  induction ns generalizing vs ix with
  | nil => simp at h
  | cons n ns ih =>
    cases vs with
    | nil => simp at hv
    | cons w vs =>
      have nd' := List.nodup_cons.mp nd
      cases ix with
      | zero =>
        simp at h hv
        subst h hv
        simp [List.lookup]
      | succ ix =>
        simp at h hv
        have hn : f ≠ n := fun e => nd'.1 (e ▸ List.mem_of_getElem? h)
        show (match f == n with | true => _ | false => _) = _
        rw [beq_eq_false_iff_ne.mpr hn]
        exact ih nd'.2 h hv
theorem de_get {kc ix : Nat} {f : Str} (ho : PE X o (dE c W fo)) (hC : c.T.cls kc = C) (cl : Cls X.K C) (hno : NoAttr X.K C f) (nd : (c.T.names kc).Nodup) (hf : (c.T.names kc)[ix]? = some f) (hb : attributeBase o f X.env (eval o X.env) = eval o X.env := by rfl) :
    PE X (.Attribute o f pos) (dE c W (getE kc ix fo)) := by
  refine pe_imp (pe_fld ho hb) fun σ H Q ⟨O, ρ, pt, r, q⟩ => ⟨O, ρ, pt, r, (Wg.bnd q).imp fun z p1 H1 _ s1 qz v rv => ?_⟩
  cases z with
  | obj j fs =>
    simp only at qz
    by_cases hj : j = kc
    · rw [if_pos hj] at qz
      subst hj
      simp only [Cy.R, R] at rv
      obtain ⟨a, dx, ws, rfl, ha, _, rl⟩ := rv
      obtain ⟨d, ed, qd⟩ := Wg.opt qz s1.pot
      obtain ⟨v, ev, rv⟩ := RL.getD rl ed
      exact ⟨a, C, dx, _, v, rfl, by rw [← hC]; exact Hd.le _ _ ha, cl, hno, zip_look nd hf ev, qd v rv⟩
    · rw [if_neg hj] at qz
      exact qz.elim
  | _ => exact qz.elim
/-- of two readings the one that applies -/
def orF (f g : Slots → M D) : Slots → M D := fun ρ pt => match f ρ pt with
  | .stuck => g ρ pt
  | r => r
theorem de_or2 {f g : Slots → M D} (h : PE X e (dE c W f)) (h' : PE X e (dE c W g)) : PE X e (dE c W (orF f g)) := by
  refine pe_imp (pe_or2 h h') fun σ H Q ⟨O, ρ, pt, r, q⟩ => ?_
  unfold orF at q
  cases e : f ρ pt with
  | stuck =>
    rw [e] at q
    exact .inr ⟨O, ρ, pt, r, q⟩
  | ok d p =>
    rw [e] at q
    exact .inl ⟨O, ρ, pt, r, by rw [e]; exact q⟩
  | exc k fs p =>
    rw [e] at q
    exact .inl ⟨O, ρ, pt, r, by rw [e]; exact q⟩
/-- a property of the class kc; its getter raises nothing -/
def noX {α : Type} (m : M α) : M α := fun pt => match m pt with
  | .exc _ _ _ => .stuck
  | r => r
def propE (kc : Nat) (fm : List D → M D) (fo : Slots → M D) : Slots → M D := fun ρ => bnd (fo ρ) fun z => match z with
  | .obj j fs => if j = kc then noX (fm [.obj j fs]) else fail
  | _ => fail
theorem spF_ofN {n : Nat} {fm : List D → M D} {xs : List D} {vs : List V} {Q : VK} (rs : RS c O ρ σ H pt) (rl : c.RL (Hd (hid c O) H) xs vs) (hl : xs.length = n)
    (h : Wg c W σ H (fun d _ H' => ∀ v, c.R (Hd (hid c O) H') d v → Q v H') (noX (fm xs) pt)) : spF c.K c.T n fm vs H Q E0 := by
  refine ⟨c.p, hid c O, xs, pt, rs.pm, fun a h => rs.hidden h, hl, rl, rs.pot, ?_⟩
  unfold noX at h
  cases e : fm xs pt with
  | ok d p1 =>
    rw [e] at h
    exact fun v H' st rv => h H' st v rv
  | exc k fs p1 =>
    rw [e] at h
    exact h.elim
  | stuck =>
    rw [e] at h
    exact h
theorem de_prop {fm : List D → M D} {y : Str} {pa g : Addr} (ho : PE X o (dE c W fo)) (hC : c.T.cls kc = C) (cl : Cls X.K C) (hp : PropOf X.K C y pa g) (F : FnOk X.prog X.w X.K X.mg X.base (L2.CX X.prog X.w) k g fd ps (spF c.K c.T 1 fm)) (hr : Room (k + 1) X.A) (hb : Binds X.K fd ps [])
    (hab : attributeBase o y X.env (eval o X.env) = eval o X.env := by rfl) : PE X (.Attribute o y pos) (dE c W (propE kc fm fo)) := by
  refine pe_imp (pe_prop (E := E0) ho cl hp F hr hb .nil (passL (X := X.nox)) hab) fun σ H Q ⟨O, ρ, pt, r, q⟩ => ⟨O, ρ, pt, r, (Wg.bnd q).imp fun z p1 H1 _ s1 qz v rv => ?_⟩
  cases z with
  | obj j fs =>
    simp only at qz
    by_cases hj : j = kc
    · rw [if_pos hj] at qz
      subst hj
      have rv' := rv
      simp only [Cy.R, R] at rv
      obtain ⟨a, dx, ws, rfl, ha, _, rl⟩ := rv
      exact ⟨a, dx, _, rfl, by rw [← hC]; exact Hd.le _ _ ha, spF_ofN (r.stp s1) (RL.one rv') rfl qz⟩
    · rw [if_neg hj] at qz
      exact qz.elim
  | _ => exact qz.elim
end
end DF

set_option Elab.async false
set_option linter.all false
set_option maxRecDepth 100000
set_option maxHeartbeats 4000000
namespace DF
open PySem L2
/-! ### kinds of values -/
/-- what isinstance and comparisons look up of a class of the text -/
structure ClsI (K : PySem.W.Frag) (C : Addr) : Prop where
  cl : Cls K C
  ha : PySem.W.findIn K (.ref C) "__class__" = some (some (.builtin "object.__class__"))
  hn : PySem.W.specialIn K (.builtin "object.__class__") "__get__" = some (some (.builtin "getset_descriptor.__get__"))
  htk : PySem.W.takesIn K (.builtin "object.__class__") = some true
  hm : PySem.W.mroIn K C (.type "object") = some true
def tag (T : Tb) (nC : Nat) : D → Option Value
  | .non => some (.type "NoneType")
  | .bl _ => some (.type "bool")
  | .int _ => some (.type "int")
  | .str _ => some (.type "str")
  | .lst _ => some (.type "list")
  | .tup _ => some (.type "tuple")
  | .dct _ => some (.type "dict")
  | .obj k _ => if k < nC then some (.ref (T.cls k)) else none
  | _ => none
/-- a kind of value that is told: a built-in one, or one of the first nC classes -/
def knd (nC : Nat) : D → Option (Sum String Nat)
  | .non => some (.inl "NoneType")
  | .bl _ => some (.inl "bool")
  | .int _ => some (.inl "int")
  | .str _ => some (.inl "str")
  | .lst _ => some (.inl "list")
  | .tup _ => some (.inl "tuple")
  | .dct _ => some (.inl "dict")
  | .obj k _ => if k < nC then some (.inr k) else none
  | _ => none
def tagV (T : Tb) : Sum String Nat → Value
  | .inl n => .type n
  | .inr k => .ref (T.cls k)
theorem tag_knd (T : Tb) (nC : Nat) (x : D) : tag T nC x = (knd nC x).map (tagV T) := by
  cases x <;> first | rfl | (simp only [tag, knd]; split <;> rfl)
def tagB : List String := ["NoneType", "bool", "int", "str", "list", "tuple", "dict"]
section
variable {X : Cx} {c : Cy} {W : WX} {σ : L2.St} {H H' : Hp} {O : List (Nat × Addr)} {ρ : Slots} {pt pt' : Pot} {nC : Nat}
theorem tag_ok {x : D} {v : V} {t : Value} (hC : ∀ k, k < nC → ClsI X.K (c.T.cls k)) (hK : c.K = X.K) (h : RB c O H x v) (e : tag c.T nC x = some t) : TyX X.K H v t := by
  cases x with
  | non => simp only [tag] at e; cases e; rw [h.non]; exact .base .non
  | bl b => simp only [tag] at e; cases e; rw [h.bl]; exact .base (.bl b)
  | int b => simp only [tag] at e; cases e; rw [h.int]; exact .base (.int b)
  | str b => simp only [tag] at e; cases e; rw [h.str]; exact .base (.str b)
  | lst ds =>
    simp only [tag] at e; cases e
    obtain ⟨a, vs, rfl, ha, _⟩ := h.lst
    exact .base (.lst ha)
  | dct ds =>
    simp only [tag] at e; cases e
    obtain ⟨a, vs, rfl, ha, _⟩ := h.dct
    exact .base (.dK ha)
  | tup ds =>
    simp only [tag] at e; cases e
    obtain ⟨a, vs, rfl, ha, _⟩ := h.tup
    rcases ha with (ha | ⟨o, ha⟩) | ⟨o, its, n, h1, h2, _⟩
    · exact .base (.tup ha)
    · exact .fTuple ha
    · exact .kTuple (by rw [← hK]; exact h1) h2
  | obj k fs =>
    simp only [tag] at e
    split at e
    · rename_i hk
      cases e
      have q := h.obj
      simp only [Cy.R, R] at q
      obtain ⟨a, dx, vs, rfl, ha, _, _⟩ := q
      have I := hC k hk
      exact .base (.ins (Hd.le _ _ ha) I.cl I.ha I.hn I.htk I.hm)
    · cases e
  | pot => simp only [tag] at e; cases e
  | fn _ => simp only [tag] at e; cases e
  | cls _ => simp only [tag] at e; cases e
  | ty _ => simp only [tag] at e; cases e

/-! ### operators on values that are kept -/
def OpV (X : Cx) (c : Cy) (W : WX) (f : Value → Value → Sem Value) (g : D → D → M D) : Prop := ∃ r : L2.St → R2, OpS X f r ∧
  ∀ (σ : L2.St) (O : List (Nat × Addr)) (ρ : Slots) (pt : Pot) (H : Hp) (Q : VK) (x y : D) (v w : V), RS c O ρ σ H pt → c.R (Hd (hid c O) H) x v → c.R (Hd (hid c O) H) y w →
    Wg c W σ H (fun d _ H' => ∀ v, c.R (Hd (hid c O) H') d v → Q v H') (g x y pt) → r σ v w H Q
theorem OpD.v {f : Value → Value → Sem Value} {g : D → D → M D} (o : OpD X c W f g) : OpV X c W f g := by
  obtain ⟨r, h1, h2⟩ := o
  exact ⟨r, h1, fun σ O ρ pt H Q x y v w rs rx ry q => h2 σ O ρ pt H Q x y v w rs (.inl rx) (.inl ry) q⟩
theorem OpV.or {f : Value → Value → Sem Value} {g h : D → D → M D} (a : OpV X c W f g) (b : OpV X c W f h) : OpV X c W f (orM g h) := by
  obtain ⟨r, r1, r2⟩ := a
  obtain ⟨r', r1', r2'⟩ := b
  refine ⟨_, r1.or r1', fun σ O ρ pt H Q x y v w rs rx ry q => ?_⟩
  unfold orM at q
  cases e : g x y pt with
  | stuck =>
    rw [e] at q
    exact .inr (r2' σ O ρ pt H Q x y v w rs rx ry q)
  | ok d p =>
    rw [e] at q
    exact .inl (r2 σ O ρ pt H Q x y v w rs rx ry (by rw [e]; exact q))
  | exc k fs p =>
    rw [e] at q
    exact .inl (r2 σ O ρ pt H Q x y v w rs rx ry (by rw [e]; exact q))
theorem OpV.use {f : Value → Value → Sem Value} {g : D → D → M D} {fa fb : Slots → M D} (o : OpV X c W f g) : ∃ r : L2.St → R2, OpS X f r ∧ ∀ σ H Q, dE c W (binE g fa fb) σ H Q → dE c W fa σ H fun x H1 => dE c W fb σ H1 fun y H2 => r σ x y H2 Q := by
  obtain ⟨r, h1, h2⟩ := o
  refine ⟨r, h1, fun σ H Q ⟨O, ρ, pt, rs, q⟩ => ?_⟩
  refine ⟨O, ρ, pt, rs, (Wg.bnd q).imp fun x p1 H1 _ s1 q v rv => ?_⟩
  have rs1 := rs.stp s1
  refine ⟨O, ρ, p1, rs1, (Wg.bnd q).imp fun y p2 H2 _ s2 q w rw => ?_⟩
  exact h2 σ O ρ p2 H2 Q x y v w (rs1.stp s2) (R.gr (s2.gr rs.pm) rv) rw q
theorem de_opV {op : Operator} {g : D → D → M D} {a b : Expr} {fa fb : Slots → M D} {pos : Pos} (o : OpV X c W (binaryOp op) g) (ha : PE X a (dE c W fa)) (hb : PE X b (dE c W fb)) : PE X (.BinOp a op b pos) (dE c W (binE g fa fb)) := by
  obtain ⟨r, h1, h2⟩ := OpV.use (fa := fa) (fb := fb) o
  exact ⟨fun pins s σ H Q I h => wpAny_BinOp (binT ha hb I (h2 σ H Q h) fun v u s2 x y H2 I2 rx ry q => h1 pins s2 σ H2 x y v u Q I2 rx ry q)⟩
theorem de_cmpV {op : CmpOp} {g : D → D → M D} {a b : Expr} {fa fb : Slots → M D} {pos : Pos} (o : OpV X c W (compareOp op) g) (ha : PE X a (dE c W fa)) (hb : PE X b (dE c W fb)) (hm : behindInMarks op b = false := by first | exact nomark _ | rfl) : PE X (.Compare a [op] [b] pos) (dE c W (binE g fa fb)) := by
  obtain ⟨r, h1, h2⟩ := OpV.use (fa := fa) (fb := fb) o
  exact ⟨fun pins s σ H Q I h => wpAny_Compare1 (binT ha hb I (h2 σ H Q h) fun v u s2 x y H2 I2 rx ry q => h1 pins s2 σ H2 x y v u Q I2 rx ry q) hm⟩
theorem dt_cmpV {op : CmpOp} {g : D → D → M D} {a b : Expr} {fa fb : Slots → M D} {pos : Pos} (o : OpV X c W (compareOp op) g) (ha : PE X a (dE c W fa)) (hb : PE X b (dE c W fb)) (hm : behindInMarks op b = false := by first | exact nomark _ | rfl) : PT X (.Compare a [op] [b] pos) (dT c W (testE (binE g fa fb))) := by
  obtain ⟨r, h1, h2⟩ := OpV.use (fa := fa) (fb := fb) o
  refine ⟨fun pins s σ H Q I ⟨O, ρ, pt, rs, q⟩ => ?_⟩
  have q1 : dE c W (binE g fa fb) σ H (fun x H' => ∃ k, x = .bl k ∧ Q k H') := ⟨O, ρ, pt, rs, (Wg.bnd q).imp fun d p1 H1 _ s1 q v rv => by
    obtain ⟨b, ed, q2⟩ := asB_ok q s1.pot
    subst ed
    exact ⟨b, by simpa [Cy.R, R] using rv, q2⟩⟩
  refine wpAny_isTrue_Compare1 (thn (ha.run pins s σ H _ I (h2 σ H _ q1)) fun v s1 ⟨x, H1, I1, r1, q1⟩ => thn (hb.run pins s1 σ H1 _ I1 q1) fun u s2 ⟨y, H2, I2, r2, q2⟩ => thn (h1 pins s2 σ H2 x y v u _ I2 r1 r2 q2) fun z s3 ⟨t, H3, I3, r3, k, e, q3⟩ => ?_) hm
  subst e
  cases r3
  exact wpAny_truthy_bool ⟨H3, I3, q3⟩

/-! ### operators of the text's own classes -/
variable {CX : CXT} {k n kc : Nat} {f C : Addr} {fd : FuncData} {ps : List Str} {fm : List D → M D} {sp : Sp} {E : L2.St → XK}
/-- the callee runs somewhere below -/
theorem runSub {A : Around} {pins : List (Addr × Obj)} {s : Shared} {Q : VK} {us : List Value} {vs : List V} (F : FnOk X.prog X.w X.K X.mg X.base CX k f fd ps sp) (hr : Room k A) (hfr : A.frames = X.A.frames) (hb : Binds X.K fd ps []) (hx : PassesAt CX X σ (E σ))
    (I : Inv X pins σ H s) (r : Vals vs us) (h : sp vs H Q (E σ)) : wpAny (model X.prog X.w) A (call (.ref f) us) (EP X pins σ Q) X.xe s := by
  have hl : us.length = ps.length := r.length.symm.trans (F.len _ _ _ _ h)
  have b := hb s us I.kIn (by rw [List.append_nil]; exact hl)
  rw [List.append_nil] at b
  have e := I.env0
  have e0 : Env0 X.prog X.w X.K X.mg X.base A X.stack s H := ⟨hfr.trans e.frames, e.mod, e.bs, e.bsz, e.funs, e.frf, e.hok, e.bare⟩
  refine wpAny_call (codeAny_mono (F.run A X.stack s H ⟨us, []⟩ us vs Q (E σ) hr e0 b r h) fun res s' hq => ?_)
  match res, hq with
  | .error e, hq => exact hx pins H s e s' I hq
  | .ok (.ret u), hq => exact I.after hq
theorem not_ni {v : V} {u : Value} (r : RelV v u) : u ≠ .notImplemented := fun e => by
  subst e
  cases v with
  | int i => obtain ⟨_, z⟩ := r; cases z
  | str i => obtain ⟨_, z⟩ := r; cases z
  | byt i => obtain ⟨_, z⟩ := r; cases z
  | flt i => obtain ⟨_, z⟩ := r; cases z
  | _ => cases r
theorem cmpBack {pins : List (Addr × Obj)} {Q : VK} {u : Value} {s' : Shared} (h : EP X pins σ Q u s') : PySem.W.CmpBack (EP X pins σ Q) u s' := by
  obtain ⟨v, H', I, r, q⟩ := h
  have := not_ni r
  unfold PySem.W.CmpBack
  split
  · exact this rfl
  · exact ⟨v, H', I, r, q⟩
/-- an instance of the class: what the library's rules ask -/
theorem inst_at {pins : List (Addr × Obj)} {s : Shared} {a dx : Addr} {fs : List (Str × V)} (I : Inv X pins σ H s) (e : H a = some (.ins C dx fs)) : ∃ ox od, PySem.W.InstAt s.heap a ox C (some od) := by
  obtain ⟨mA, J, _⟩ := ins_get I.hok e
  obtain ⟨od, J, _⟩ := J.look
  exact ⟨_, od, J⟩
/-- what an own method is asked with: the object, and any value whose kind is told -/
def ownM (nC kc : Nat) (fm : List D → M D) : D → D → M D := fun x y => match x with
  | .obj j fs => if j = kc ∧ (knd nC y).isSome then fm [.obj j fs, y] else fail
  | _ => fail
/-- the reading of an own method of two -/
def rOwn (X : Cx) (c : Cy) (W : WX) (nC kc : Nat) (fm : List D → M D) (C : Addr) : L2.St → R2 := fun σ v w H Q => ∃ a dx fs t, v = .ref a ∧ H a = some (.ins C dx fs) ∧ TyX X.K H w t ∧ (∃ n ∈ tagB, t = .type n) ∧ spF c.K c.T 2 fm [v, w] H Q (WE W σ)
def rOwn2 (X : Cx) (c : Cy) (W : WX) (nC kc : Nat) (fm : List D → M D) (C : Addr) : L2.St → R2 := fun σ v w H Q => ∃ a dx fs b dy gs k, v = .ref a ∧ H a = some (.ins C dx fs) ∧ w = .ref b ∧ k < nC ∧ H b = some (.ins (c.T.cls k) dy gs) ∧ TyX X.K H w (.ref (c.T.cls k)) ∧ spF c.K c.T 2 fm [v, w] H Q (WE W σ)
theorem own_use (hCs : ∀ k, k < nC → ClsI X.K (c.T.cls k)) (hK : c.K = X.K) (hC : c.T.cls kc = C) {x y : D} {v w : V} {Q : VK} (rs : RS c O ρ σ H pt) (rx : c.R (Hd (hid c O) H) x v) (ry : c.R (Hd (hid c O) H) y w)
    (q : Wg c W σ H (fun d _ H' => ∀ v, c.R (Hd (hid c O) H') d v → Q v H') (ownM nC kc fm x y pt)) : rOwn X c W nC kc fm C σ v w H Q ∨ rOwn2 X c W nC kc fm C σ v w H Q := by
  cases x with
  | obj j fs =>
    simp only [ownM] at q
    by_cases hj : j = kc ∧ (knd nC y).isSome
    · rw [if_pos hj] at q
      obtain ⟨rfl, ht⟩ := hj
      have ht : (tag c.T nC y).isSome = true := by rw [tag_knd, Option.isSome_map]; exact ht
      obtain ⟨t, et⟩ := Option.isSome_iff_exists.mp ht
      have ty := tag_ok hCs hK (.inl ry) et
      have sp : spF c.K c.T 2 fm [v, w] H Q (WE W σ) := spF_of rs (RL.cons rx (RL.one ry)) rfl q
      simp only [Cy.R, R] at rx
      obtain ⟨a, dx, vs, rfl, ha, _, _⟩ := rx
      have ha' : H a = some (.ins C dx ((c.T.names j).zip vs)) := by rw [← hC]; exact Hd.le _ _ ha
      cases y with
      | obj k gs =>
        simp only [tag] at et
        split at et
        · rename_i hk
          cases et
          simp only [Cy.R, R] at ry
          obtain ⟨b, dy, ws, rfl, hb, _, _⟩ := ry
          exact .inr ⟨a, dx, _, b, dy, _, k, rfl, ha', rfl, hk, Hd.le _ _ hb, ty, sp⟩
        · cases et
      | non => simp only [tag] at et; cases et; exact .inl ⟨a, dx, _, _, rfl, ha', ty, ⟨_, by simp [tagB], rfl⟩, sp⟩
      | bl _ => simp only [tag] at et; cases et; exact .inl ⟨a, dx, _, _, rfl, ha', ty, ⟨_, by simp [tagB], rfl⟩, sp⟩
      | int _ => simp only [tag] at et; cases et; exact .inl ⟨a, dx, _, _, rfl, ha', ty, ⟨_, by simp [tagB], rfl⟩, sp⟩
      | str _ => simp only [tag] at et; cases et; exact .inl ⟨a, dx, _, _, rfl, ha', ty, ⟨_, by simp [tagB], rfl⟩, sp⟩
      | lst _ => simp only [tag] at et; cases et; exact .inl ⟨a, dx, _, _, rfl, ha', ty, ⟨_, by simp [tagB], rfl⟩, sp⟩
      | tup _ => simp only [tag] at et; cases et; exact .inl ⟨a, dx, _, _, rfl, ha', ty, ⟨_, by simp [tagB], rfl⟩, sp⟩
      | dct _ => simp only [tag] at et; cases et; exact .inl ⟨a, dx, _, _, rfl, ha', ty, ⟨_, by simp [tagB], rfl⟩, sp⟩
      | pot => simp only [tag] at et; cases et
      | fn _ => simp only [tag] at et; cases et
      | cls _ => simp only [tag] at et; cases et
      | ty _ => simp only [tag] at et; cases et
    · rw [if_neg hj] at q
      exact q.elim
  | _ => exact q.elim
/-- what the order of the two sides asks of a class: no kind of value stands below it -/
structure CmpI (X : Cx) (T : Tb) (nC : Nat) (C : Addr) : Prop where
  nb : ∀ n ∈ tagB, PySem.W.subIn X.K (.type n) (.ref C) = some false
  no : ∀ k, k < nC → PySem.W.notFirst X.K C (.ref (T.cls k)) = true
theorem CmpI.nf {T : Tb} (h : CmpI X T nC C) {n : String} (hn : n ∈ tagB) : PySem.W.notFirst X.K C (.type n) = true := by
  unfold PySem.W.notFirst
  rw [h.nb n hn]
  simp
theorem ov_eq (hCs : ∀ k, k < nC → ClsI X.K (c.T.cls k)) (hK : c.K = X.K) (hC : c.T.cls kc = C) (ci : CmpI X c.T nC C) (hs : PySem.W.findIn X.K (.ref C) "__eq__" = some (some (.ref f))) (hf : PySem.W.isFn X.K (.ref f) = true)
    (F : FnOk X.prog X.w X.K X.mg X.base (L2.CX X.prog X.w) k f fd ps (spF c.K c.T 2 fm)) (hr : Room k X.A) (hb : Binds X.K fd ps []) (tk : Takes X W) : OpV X c W (compareOp .Eq) (ownM nC kc fm) := by
  refine ⟨fun σ v w H Q => rOwn X c W nC kc fm C σ v w H Q ∨ rOwn2 X c W nC kc fm C σ v w H Q, fun pins s σ H x y v u Q I rx ry q => ?_, fun σ O ρ pt H Q x y v w rs rx ry q => own_use hCs hK hC rs rx ry q⟩
  have go : ∀ {a : Addr} {t : Value}, x = .ref a → v = .ref a → TyX X.K H y t → PySem.W.notFirst X.K C t = true → (∃ dx fs, H a = some (.ins C dx fs)) → spF c.K c.T 2 fm [x, y] H Q (WE W σ) → wpAny (model X.prog X.w) X.A (compareOp .Eq v u) (EP X pins σ Q) X.xe s := by
    intro a t ex ev ty nf ⟨dx, fs, ha⟩ sp
    subst ex ev
    obtain ⟨ox, od, J⟩ := inst_at I ha
    obtain ⟨m, hF⟩ := I.fr
    obtain ⟨P, Z, p, _⟩ := kit_of I ry ty
    refine PySem.W.cmp_K (op := .Eq) hr.units0 hF I.ok.mod.kin J (Z.ty _ _ I.kIn p) nf hs hf ?_
    exact wpAny_mono (runSub (E := WE W) F hr rfl hb (passAt tk σ) I (.cons rx (.cons ry .nil)) sp) (fun r s' h => cmpBack h) fun _ _ z => z
  rcases q with ⟨a, dx, fs, t, e1, ha, ty, ⟨n, hn, et⟩, sp⟩ | ⟨a, dx, fs, b, dy, gs, j, e1, ha, e2, hj, _, ty, sp⟩
  · subst e1 et
    cases rx
    exact go rfl rfl ty (ci.nf hn) ⟨dx, fs, ha⟩ sp
  · subst e1
    cases rx
    exact go rfl rfl ty (ci.no j hj) ⟨dx, fs, ha⟩ sp
end
end DF

set_option Elab.async false
set_option linter.all false
set_option maxRecDepth 100000
set_option maxHeartbeats 4000000
namespace DF
open PySem L2
section
variable {prog : Program} {w : World} {A : Around} {E : Value → Shared → Prop} {s : Shared} {K : PySem.W.Frag} {x C L f : Addr} {h₀ : Heap} {m : Str → Option Value} {ox : Obj} {od : Option Obj} {b tb : Value}
theorem ne_bind (self : Value) : bindSpecial (.builtin "object.__ne__") self = pure (.builtin "object.__ne__", [self]) :=
  (Slot.of (T := "object") (name := "__ne__") (owner := "object") (n := "__ne__") (by rw [typeLookup_type, builtinLookup_eq_fast]; kernel_rfl) (by decide +kernel) (by decide +kernel) (by decide +kernel)
    (.inl (by decide +kernel)) (by rw [isSubtype_type]; kernel_rfl)).bind self
theorem ne_plain : plainId "object.__ne__" = true := by decide +kernel
/-- != of an own class that has == alone -/
theorem ne_own {Q : Value → Shared → Prop} (hu : A.in1.units < cLine) (hu0 : A.units < cLine) (F : PyProof.Rows.Fr h₀ L s.heap m) (X₀ : K.In h₀) (I : PySem.W.InstAt s.heap x ox C od) (hb : PySem.W.Looks (model prog w) s.heap (typeOf b) tb) (hn : PySem.W.notFirst K C tb = true)
    (hne : PySem.W.findIn K (.ref C) "__ne__" = some (some (.builtin "object.__ne__"))) (ho : PySem.W.subIn K (.ref C) (.type "object") = some true)
    (hs : PySem.W.findIn K (.ref C) "__eq__" = some (some (.ref f))) (hf : PySem.W.isFn K (.ref f) = true)
    (h : wpAny (model prog w) A.in1 (call (.ref f) [.ref x, b]) (fun v s' => ∃ r, v = .bool r ∧ Q (.bool (!r)) s') E s) : wpAny (model prog w) A (richCompare .NotEq (.ref x) b) Q E s := by
  have X := X₀.keeps F.keep
  have eqs : wpAny (model prog w) A.in1 (callSpecialIfBound? (.ref x) "__eq__" [b]) (fun r s' => ∃ z, r = some (.bool z) ∧ Q (.bool (!z)) s') E s :=
    PySem.W.ifBound_K X I hs hf (wpAny_mono h (fun v s' ⟨r, e, q⟩ => ⟨r, by rw [e], q⟩) fun _ _ e => e)
  have hi : PySem.W.Looks (model prog w) s.heap (isInstance (.ref x) (.type "object")) true := I.type.andThen (PySem.W.looks_subIn X ho)
  have run : wpAny (model prog w) A (call (.builtin "object.__ne__") [.ref x, b]) (fun v s' => ∃ z, v = .bool (!z) ∧ Q (.bool (!z)) s') E s := by
    refine wpAny_call (codeAny_call_builtin ne_plain PySem.F.cmpEntry_ne (@PySem.W.check_slot (model prog w) _ _ _ "object.__ne__" "object" "__ne__" (.ref x) [b] [] _ PySem.F.cmpKind_ne PySem.F.cmpSplit_ne hi (PySem.F.cmpArgs_ne _ _) ?_))
    unfold Builtin.«object.__ne__»
    refine wpAny_bind (m := PySem.slotArgs "__ne__" 1 ⟨[.ref x, b], []⟩) (wpAny_pure ?_)
    refine wpAny_bind (wpAny_cRoomFor hu ?_)
    refine wpAny_bind (wpAny_mono eqs (fun r s' hr => ?_) fun _ _ e => e)
    obtain ⟨z, rfl, q⟩ := hr
    refine wpAny_bind (wpAny_truthy_bool ?_)
    exact wpAny_pure ⟨z, rfl, q⟩
  have one : wpAny (model prog w) A (tryCompare (.ref x) "__ne__" b) (fun r s' => ∃ v, r = some v ∧ Q v s') E s := by
    unfold tryCompare
    refine wpAny_bind (m := callSpecialIfBound? (.ref x) "__ne__" [b]) ?_
    simp only [callSpecialIfBound?, bindSpecialIfBound?]
    refine wpAny_holding (wpAny_bind (wpAny_bind (wpAny_bind (I.type.here ((PySem.W.looks_findIn X hne).here ?_)))))
    refine wpAny_bind (wpAny_askSetting (wpAny_ite ?_))
    have fin : wpAny (model prog w) A (call (.builtin "object.__ne__") ([.ref x] ++ [b]) >>= fun v => pure (some v)) (fun r s' => wpAny (model prog w) A (match r with | some .notImplemented | none => pure none | some v => pure (some v)) (fun r s' => ∃ v, r = some v ∧ Q v s') E s') E s :=
      wpAny_bind (wpAny_mono run (fun v s' ⟨z, e, q⟩ => by subst e; exact wpAny_pure (wpAny_pure ⟨_, rfl, q⟩)) fun _ _ e => e)
    split
    · rw [ne_bind]
      exact wpAny_bind (wpAny_pure (wpAny_pure fin))
    · rw [ne_bind]
      exact wpAny_tryCatch (wpAny_bind (wpAny_pure (wpAny_pure fin)))
  unfold richCompare
  simp only [oneThing_ref]
  refine wpAny_holding (wpAny_bind (wpAny_cRoomFor hu0 ?_))
  refine wpAny_bind (I.type.here (wpAny_bind (hb.here ?_)))
  split
  · rename_i q
    have e : PySem.W.subIn K tb (.ref C) = some false := by
      rcases Bool.or_eq_true_iff.mp hn with e | e
      · rw [beq_iff_eq.mp e] at q; simp at q
      · exact beq_iff_eq.mp e
    refine wpAny_bind ((PySem.W.looks_subIn X e).here ?_)
    simp only [Bool.false_eq_true, if_false]
    refine wpAny_bind (wpAny_mono one (fun r s' z => ?_) fun _ _ e => e)
    obtain ⟨v, rfl, hq⟩ := z
    exact wpAny_pure hq
  · refine wpAny_bind (wpAny_pure ?_)
    simp only [Bool.false_eq_true, if_false]
    refine wpAny_bind (wpAny_mono one (fun r s' z => ?_) fun _ _ e => e)
    obtain ⟨v, rfl, hq⟩ := z
    exact wpAny_pure hq
end
section
variable {prog : Program} {w : World} {A : Around} {E : Value → Shared → Prop} {s : Shared} {K : PySem.W.Frag} {x C L f : Addr} {h₀ : Heap} {m : Str → Option Value} {ox : Obj} {od : Option Obj} {T : String}
/-- x + b where b is of a built-in kind, its type as it is looked up -/
theorem own_binT {op : Operator} {b : Value} {fo ro rc : Option Value} {Q : Value → Shared → Prop} (F : PyProof.Rows.Fr h₀ L s.heap m) (X₀ : K.In h₀) (I : PySem.W.InstAt s.heap x ox C od) (hb : PySem.W.Looks (model prog w) s.heap (typeOf b) (.type T)) (hc : PySem.W.selfFirst K C = true)
    (hs : PySem.W.findIn K (.ref C) (PySem.dunder op.info.2) = some (some (.ref f))) (hf : PySem.W.isFn K (.ref f) = true) (hr : PySem.W.findIn K (.ref C) (dunderR op.info.2) = some rc) (hp : rc = none ∨ ∃ g : Addr, rc = some (.ref g))
    (h1 : PySem.W.findIn K (.type T) (PySem.dunder op.info.2) = some fo) (h2 : PySem.W.findIn K (.type T) (dunderR op.info.2) = some ro) (hsub : PySem.W.subIn K (.type T) (.ref C) = some false)
    (h : wpAny (model prog w) A (call (.ref f) [.ref x, b]) (PySem.W.CmpBack Q) E s) : wpAny (model prog w) A (binaryOp op (.ref x) b) Q E s := by
  have X := X₀.keeps F.keep
  obtain ⟨cd, rest, hcd, hm⟩ := PySem.W.ksp_first hc
  rcases hi : op.info with ⟨sym, nm'⟩
  rw [hi] at hs hr h1 h2
  dsimp only at hs hr h1 h2
  have one := PySem.W.ksp_try X I hs hf h
  obtain ⟨hh, g, d, tt, os⟩ := s
  have y1 : PySem.W.Looks (model prog w) hh (typeOf (.ref x)) (.ref C) := I.type
  have y3 : PySem.W.Looks (model prog w) hh (fillsNumberSlot (.ref C) nm') true := PySem.W.fills_K X hcd hm hs
  have y4 := PySem.W.ksp_fillsT (M := model prog w) (nm := nm') X h1 h2
  have y5 : PySem.W.Looks (model prog w) hh (isSubtype (.type T) (.ref C)) false := PySem.W.looks_subIn X hsub
  have y6 : PySem.W.Looks (model prog w) hh (numberSlotInPython (.ref C) nm') true := PySem.W.ksp_inPy X hs hr hp
  have y7 : PySem.W.Looks (model prog w) hh (numberSlotInPython (.type T) nm') false := PySem.W.Looks.of_pure rfl
  have y8 : PySem.W.Looks (model prog w) hh (typeLookup (.type T) (dunderR nm')) ro := PySem.W.looks_findIn X h2
  generalize ((fo.isSome && !isSeqSlot fo) || (ro.isSome && !isSeqSlot ro)) = right at y4
  have hne : (Value.ref C == Value.type T) = false := Bool.eq_false_iff.mpr fun q => by cases beq_iff_eq.mp q
  simp only [binaryOp, hi]
  refine wpAny_holding (wpAny_bind ?_)
  unfold binaryOp1
  refine wpAny_bind (y1.at (wpAny_bind (hb.at (wpAny_bind (y3.at ?_)))))
  simp only [hne, Bool.false_eq_true, if_false]
  cases right with
  | false =>
    refine wpAny_bind (y4.at ?_)
    simp only [Bool.and_false, Bool.false_eq_true, if_false, Bool.false_and]
    refine wpAny_bind (wpAny_pure ?_)
    simp only [Bool.false_eq_true, if_false, if_true]
    refine wpAny_bind (m := tryMethod (.ref x) _ b) (wpAny_mono one (fun r s' hr' => ?_) fun _ _ e => e)
    obtain ⟨v, rfl, hq⟩ := hr'
    exact wpAny_pure (wpAny_pure hq)
  | true =>
    refine wpAny_bind (y4.at ?_)
    simp only [Bool.and_self, if_true]
    refine wpAny_bind (y5.at ?_)
    simp only [Bool.false_eq_true, if_false, Bool.not_false, Bool.and_self, if_true]
    refine wpAny_bind (y6.at ?_)
    simp only [if_true]
    refine wpAny_bind (y7.at ?_)
    simp only [Bool.not_false, if_true]
    refine wpAny_bind (y8.at ?_)
    refine wpAny_bind (m := tryMethod (.ref x) _ b) (wpAny_mono one (fun r s' hr' => ?_) fun _ _ e => e)
    obtain ⟨v, rfl, hq⟩ := hr'
    exact wpAny_pure (wpAny_pure hq)
end
section
variable {X : Cx} {c : Cy} {W : WX} {k n kc nC : Nat} {f C : Addr} {fd : FuncData} {ps : List Str} {fm : List D → M D}
def notB : D → M D
  | .bl b => ret (.bl (!b))
  | _ => fail
/-- != where the class has == alone: the callee tells True or False -/
def neM (nC kc : Nat) (fm : List D → M D) : D → D → M D := fun x y => bnd (ownM nC kc fm x y) notB
theorem ov_ne (hCs : ∀ k, k < nC → ClsI X.K (c.T.cls k)) (hK : c.K = X.K) (hC : c.T.cls kc = C) (ci : CmpI X c.T nC C) (hne : PySem.W.findIn X.K (.ref C) "__ne__" = some (some (.builtin "object.__ne__"))) (ho : PySem.W.subIn X.K (.ref C) (.type "object") = some true)
    (hs : PySem.W.findIn X.K (.ref C) "__eq__" = some (some (.ref f))) (hf : PySem.W.isFn X.K (.ref f) = true)
    (F : FnOk X.prog X.w X.K X.mg X.base (L2.CX X.prog X.w) k f fd ps (spF c.K c.T 2 fm)) (hr : Room (k + 1) X.A) (hb : Binds X.K fd ps []) (tk : Takes X W) : OpV X c W (compareOp .NotEq) (neM nC kc fm) := by
  refine ⟨fun σ v w H Q => rOwn X c W nC kc fm C σ v w H (fun z H' => ∃ b, z = .bl b ∧ Q (.bl (!b)) H') ∨ rOwn2 X c W nC kc fm C σ v w H (fun z H' => ∃ b, z = .bl b ∧ Q (.bl (!b)) H'), fun pins s σ H x y v u Q I rx ry q => ?_, fun σ O ρ pt H Q x y v w rs rx ry q => ?_⟩
  · have go : ∀ {a : Addr} {t : Value}, x = .ref a → v = .ref a → TyX X.K H y t → PySem.W.notFirst X.K C t = true → (∃ dx fs, H a = some (.ins C dx fs)) → spF c.K c.T 2 fm [x, y] H (fun z H' => ∃ b, z = .bl b ∧ Q (.bl (!b)) H') (WE W σ) →
        wpAny (model X.prog X.w) X.A (compareOp .NotEq v u) (EP X pins σ Q) X.xe s := by
      intro a t ex ev ty nf ⟨dx, fs, ha⟩ sp
      subst ex ev
      obtain ⟨ox, od, J⟩ := inst_at I ha
      obtain ⟨m, hF⟩ := I.fr
      obtain ⟨P, Z, p, _⟩ := kit_of I ry ty
      refine ne_own hr.in1.units0 hr.units0 hF I.ok.mod.kin J (Z.ty _ _ I.kIn p) nf hne ho hs hf ?_
      refine wpAny_mono (runSub (E := WE W) F hr.in1 rfl hb (passAt tk σ) I (.cons rx (.cons ry .nil)) sp) (fun r s' h => ?_) fun _ _ z => z
      obtain ⟨z, H', I', rz, b, e, q⟩ := h
      subst e
      cases rz
      exact ⟨b, rfl, .bl (!b), H', I', rfl, q⟩
    rcases q with ⟨a, dx, fs, t, e1, ha, ty, ⟨n, hn, et⟩, sp⟩ | ⟨a, dx, fs, b, dy, gs, j, e1, ha, e2, hj, _, ty, sp⟩
    · subst e1 et
      cases rx
      exact go rfl rfl ty (ci.nf hn) ⟨dx, fs, ha⟩ sp
    · subst e1
      cases rx
      exact go rfl rfl ty (ci.no j hj) ⟨dx, fs, ha⟩ sp
  · refine own_use hCs hK hC rs rx ry ((Wg.bnd q).imp fun d p1 H1 _ s1 q v rv => ?_)
    cases d with
    | bl b => exact ⟨b, by simpa [Cy.R, R] using rv, Wg.here q s1.pot _ (by simp [Cy.R, R])⟩
    | _ => exact q.elim
/-- + - * .. of an own class: the right side one of it, or of a built-in kind -/
theorem ov_bin {op : Operator} {rc : Option Value} (hCs : ∀ k, k < nC → ClsI X.K (c.T.cls k)) (hK : c.K = X.K) (hC : c.T.cls kc = C) (hn1 : ∀ k, k < nC → c.T.cls k = C) (ci : CmpI X c.T nC C) (sf : PySem.W.selfFirst X.K C = true) (hs : PySem.W.findIn X.K (.ref C) (PySem.dunder op.info.2) = some (some (.ref f))) (hf : PySem.W.isFn X.K (.ref f) = true)
    (hr1 : PySem.W.findIn X.K (.ref C) (dunderR op.info.2) = some rc) (hp : rc = none ∨ ∃ g : Addr, rc = some (.ref g)) (hT : ∀ n ∈ tagB, ∃ fo ro, PySem.W.findIn X.K (.type n) (PySem.dunder op.info.2) = some fo ∧ PySem.W.findIn X.K (.type n) (dunderR op.info.2) = some ro)
    (F : FnOk X.prog X.w X.K X.mg X.base (L2.CX X.prog X.w) k f fd ps (spF c.K c.T 2 fm)) (hr : Room k X.A) (hb : Binds X.K fd ps []) (tk : Takes X W) : OpV X c W (binaryOp op) (ownM nC kc fm) := by
  refine ⟨fun σ v w H Q => rOwn X c W nC kc fm C σ v w H Q ∨ rOwn2 X c W nC kc fm C σ v w H Q, fun pins s σ H x y v u Q I rx ry q => ?_, fun σ O ρ pt H Q x y v w rs rx ry q => own_use hCs hK hC rs rx ry q⟩
  have call1 : ∀ {a : Addr}, x = .ref a → spF c.K c.T 2 fm [x, y] H Q (WE W σ) → v = .ref a → wpAny (model X.prog X.w) X.A (call (.ref f) [.ref a, u]) (PySem.W.CmpBack (EP X pins σ Q)) X.xe s := fun ex sp ev => by
    subst ex ev
    exact wpAny_mono (runSub (E := WE W) F hr rfl hb (passAt tk σ) I (.cons rx (.cons ry .nil)) sp) (fun r s' h => cmpBack h) fun _ _ z => z
  obtain ⟨m, hF⟩ := I.fr
  rcases q with ⟨a, dx, fs, t, e1, ha, ty, ⟨n, hn, et⟩, sp⟩ | ⟨a, dx, fs, b, dy, gs, j, e1, ha, e2, hj, hb2, ty, sp⟩
  · subst e1 et
    cases rx
    obtain ⟨ox, od, J⟩ := inst_at I ha
    obtain ⟨P, Z, p, _⟩ := kit_of I ry ty
    obtain ⟨fo, ro, t1, t2⟩ := hT n hn
    exact own_binT hF I.ok.mod.kin J (Z.ty _ _ I.kIn p) sf hs hf hr1 hp t1 t2 (ci.nb n hn) (call1 rfl sp rfl)
  · subst e1 e2
    cases rx
    cases ry
    obtain ⟨ox, od, J⟩ := inst_at I ha
    obtain ⟨oy, oe, J2⟩ := inst_at I hb2
    refine PySem.W.binop_K hF I.ok.mod.kin J ?_ sf hs hf (call1 rfl sp rfl)
    rw [← hn1 j hj]
    exact J2.type
/-- -x of an own class -/
def unM (kc : Nat) (fm : List D → M D) : D → M D
  | .obj j fs => if j = kc then fm [.obj j fs] else fail
  | _ => fail
def unE (g : D → M D) (f : Slots → M D) : Slots → M D := fun ρ => bnd (f ρ) g
theorem de_negO {a : Expr} {pos : Pos} {fo : Slots → M D} (h : PE X a (dE c W fo)) (hC : c.T.cls kc = C) (hs : PySem.W.findIn X.K (.ref C) "__neg__" = some (some (.ref f))) (hf : PySem.W.isFn X.K (.ref f) = true)
    (F : FnOk X.prog X.w X.K X.mg X.base (L2.CX X.prog X.w) k f fd ps (spF c.K c.T 1 fm)) (hr : Room k X.A) (hb : Binds X.K fd ps []) (tk : Takes X W) : PE X (.UnaryOp .USub a pos) (dE c W (unE (unM kc fm) fo)) := by
  refine ⟨fun pins s σ H Q I ⟨O, ρ, pt, r, q⟩ => PyProof.Rows.UnaryOp_ (thn (h.run pins s σ H (fun x H1 => ∃ a dx fs, x = .ref a ∧ H1 a = some (.ins C dx fs) ∧ spF c.K c.T 1 fm [x] H1 Q (WE W σ)) I ⟨O, ρ, pt, r, (Wg.bnd q).imp fun z p1 H1 _ s1 qz v rv => ?_⟩) fun v s1 ⟨x, H1, I1, r1, a, dx, fs, e1, ha, sp⟩ => ?_)⟩
  · cases z with
    | obj j fs =>
      simp only [unM] at qz
      by_cases hj : j = kc
      · rw [if_pos hj] at qz
        subst hj
        have sp := spF_of (r.stp s1) (RL.one rv) rfl qz
        simp only [Cy.R, R] at rv
        obtain ⟨a, dx, ws, rfl, ha, _, rl⟩ := rv
        exact ⟨a, dx, _, rfl, by rw [← hC]; exact Hd.le _ _ ha, sp⟩
      · rw [if_neg hj] at qz
        exact qz.elim
    | _ => exact qz.elim
  · subst e1
    cases r1
    obtain ⟨ox, od, J⟩ := inst_at I1 ha
    obtain ⟨m, hF⟩ := I1.fr
    exact PySem.W.ksp_neg hF I1.ok.mod.kin J hs hf (runSub (E := WE W) F hr rfl hb (passAt tk σ) I1 (vs := [.ref a]) (.cons (show RelV (.ref a) (.ref a) from rfl) .nil) sp)
end
end DF

set_option Elab.async false
set_option linter.all false
set_option maxRecDepth 100000
set_option maxHeartbeats 4000000
namespace DF
open PySem L2
/-! ### built-in calls -/
def RBL (c : Cy) (O : List (Nat × Addr)) (H : Hp) : List D → List V → Prop
  | [], vs => vs = []
  | d :: ds, vs => ∃ v ws, vs = v :: ws ∧ RB c O H d v ∧ RBL c O H ds ws
/-- arguments that are looked at alone -/
def dAB (c : Cy) (W : WX) (f : Slots → M (List D)) : TA := fun σ H Q => ∃ O ρ pt, RS c O ρ σ H pt ∧ Wg c W σ H (fun d _ H' => ∀ v, RBL c O H' d v → Q v H') (f ρ pt)
section
variable {X : Cx} {c : Cy} {W : WX} {x : Str} {p pos apos : Pos} {e o : Expr} {es : List Expr} {id T : String} {fa : Slots → M (List D)} {nC : Nat}
theorem RBL.stp {O : List (Nat × Addr)} {ρ : Slots} {σ : L2.St} {H H' : Hp} {pt pt' : Pot} (r : RS c O ρ σ H pt) (st : Stp c.p H H' pt') : ∀ {ds : List D} {vs : List V}, RBL c O H ds vs → RBL c O H' ds vs
  | [], _, h => h
  | _ :: _, _, ⟨v, ws, e, h, hs⟩ => ⟨v, ws, e, h.stp r st, RBL.stp r st hs⟩
theorem dab_nil : PA X [] (dAB c W nilA) := pa_imp pa_nil fun σ H Q ⟨O, ρ, pt, rs, q⟩ => Wg.here q rs.pot [] rfl
theorem dab_cons {f : Slots → M D} {g : Slots → M (List D)} (h : PE X e (dB c W f)) (hs : PA X es (dAB c W g)) (hst : starEach (e :: es) X.env = (false, eval e X.env) :: starEach es X.env := by rfl) : PA X (e :: es) (dAB c W (consA f g)) := by
  refine pa_imp (pa_cons h hs hst) fun σ H Q ⟨O, ρ, pt, r, q⟩ => ?_
  refine ⟨O, ρ, pt, r, (Wg.bnd q).imp fun d p1 H1 _ s1 q v rv => ?_⟩
  have r1 := r.stp s1
  refine ⟨O, ρ, p1, r1, (Wg.bnd q).imp fun ds p2 H2 _ s2 q vs rvs => ?_⟩
  exact Wg.here q s2.pot _ ⟨v, vs, rfl, rv.stp r1 s2, rvs⟩
def CallS (X : Cx) (f : Value) (r : L2.St → List V → Hp → VK → Prop) : Prop := ∀ (pins : List (Addr × Obj)) (s : Shared) (σ : L2.St) (H : Hp) (xs : List V) (us : List Value) (Q : VK),
  Inv X pins σ H s → Vals xs us → r σ xs H Q → wpAny (model X.prog X.w) X.A (call f us) (EP X pins σ Q) X.xe s
theorem calls_of {f : Value} {r : List V → Hp → VK → Prop} (h : CallR X f r) : CallS X f fun _ => r := fun pins s σ H xs us Q => h pins s σ H xs us Q
def CallD (X : Cx) (c : Cy) (W : WX) (f : Value) (g : List D → M D) : Prop := ∃ r, CallS X f r ∧
  ∀ (σ : L2.St) (O : List (Nat × Addr)) (ρ : Slots) (pt : Pot) (H : Hp) (Q : VK) (xs : List D) (vs : List V), RS c O ρ σ H pt → RBL c O H xs vs → Wg c W σ H (fun d _ H' => ∀ v, c.R (Hd (hid c O) H') d v → Q v H') (g xs pt) → r σ vs H Q
/-- .. which makes a new list -/
def CallN (X : Cx) (c : Cy) (W : WX) (f : Value) (g : List D → M (List D)) : Prop := ∃ r, CallS X f r ∧
  ∀ (σ : L2.St) (O : List (Nat × Addr)) (ρ : Slots) (pt p1 : Pot) (H H1 : Hp) (Q : VK) (xs : List D) (vs : List V), RS c O ρ σ H pt → Stp c.p H H1 p1 → RBL c O H1 xs vs →
    Wg c W σ H1 (fun ds _ H' => ∀ l vs, H l = none → H' l = some (.lst vs) → c.RL (Hd (l :: hid c O) H') ds vs → Q (.ref l) H') (g xs p1) → r σ vs H1 Q
def orC (g h : List D → M D) : List D → M D := fun x pt => match g x pt with
  | .stuck => h x pt
  | r => r
theorem CallD.or {f : Value} {g h : List D → M D} (a : CallD X c W f g) (b : CallD X c W f h) : CallD X c W f (orC g h) := by
  obtain ⟨r, r1, r2⟩ := a
  obtain ⟨r', r1', r2'⟩ := b
  refine ⟨fun σ vs H Q => r σ vs H Q ∨ r' σ vs H Q, fun pins s σ H xs us Q I rv q => q.elim (r1 pins s σ H xs us Q I rv) (r1' pins s σ H xs us Q I rv), fun σ O ρ pt H Q xs vs rs rx q => ?_⟩
  unfold orC at q
  cases e : g xs pt with
  | stuck =>
    rw [e] at q
    exact .inr (r2' σ O ρ pt H Q xs vs rs rx q)
  | ok d p =>
    rw [e] at q
    exact .inl (r2 σ O ρ pt H Q xs vs rs rx (by rw [e]; exact q))
  | exc k fs p =>
    rw [e] at q
    exact .inl (r2 σ O ρ pt H Q xs vs rs rx (by rw [e]; exact q))
def bltE {α : Type} (g : List D → M α) (fa : Slots → M (List D)) : Slots → M α := fun ρ => bnd (fa ρ) g
theorem de_blt {g : List D → M D} (hc : CallD X c W (.builtin id) g) (hm : X.mg x = none) (hv : bootBuiltins x = some (.builtin id)) (ha : PA X (e :: es) (dAB c W fa)) (hg : Gl X x := by rfl) (hn : x ≠ "__name__" := by decide) (hdb : (x == ("__debug__" : Str)) = false := by decide)
    (he : starEach (e :: es) X.env = (false, eval e X.env) :: starEach es X.env := by rfl) (hpl : (backTo pos (starEach es X.env)).any (·.1) = false := by rfl) : PE X (.Call (.Name x p) (e :: es) [] pos) (dE c W (bltE g fa)) := by
  obtain ⟨r, h1, h2⟩ := hc
  refine ⟨fun pins s σ H Q I ⟨O, ρ, pt, rs, q⟩ => wpAny_Call_Name_kw (ld_blt I hg hm hv (PyProof.Rows.callWith_builtin1 (thn (ha.run pos pins s σ H (fun vs H1 => r σ vs H1 Q) I ⟨O, ρ, pt, rs, (Wg.bnd q).imp fun xs p1 H1 _ s1 q vs rv => ?_⟩) fun us s1 ⟨vs, H1, I1, r1, q1⟩ => h1 pins s1 σ H1 vs us Q I1 r1 q1) he hpl) hn hdb)⟩
  exact h2 σ O ρ p1 H1 Q xs vs (rs.stp s1) rv q
theorem de_blt_ty {g : List D → M D} (hc : CallD X c W (.type T) g) (hm : X.mg x = none) (hv : bootBuiltins x = some (.type T)) (ha : PA X (e :: es) (dAB c W fa)) (hg : Gl X x := by rfl) (hn : x ≠ "__name__" := by decide) (hdb : (x == ("__debug__" : Str)) = false := by decide)
    (he : starEach (e :: es) X.env = (false, eval e X.env) :: starEach es X.env := by rfl) (hpl : (backTo pos (starEach es X.env)).any (·.1) = false := by rfl) : PE X (.Call (.Name x p) (e :: es) [] pos) (dE c W (bltE g fa)) := by
  obtain ⟨r, h1, h2⟩ := hc
  refine ⟨fun pins s σ H Q I ⟨O, ρ, pt, rs, q⟩ => wpAny_Call_Name_kw (ld_blt I hg hm hv (PyProof.Rows.callWith_type1 (thn (ha.run pos pins s σ H (fun vs H1 => r σ vs H1 Q) I ⟨O, ρ, pt, rs, (Wg.bnd q).imp fun xs p1 H1 _ s1 q vs rv => ?_⟩) fun us s1 ⟨vs, H1, I1, r1, q1⟩ => h1 pins s1 σ H1 vs us Q I1 r1 q1) he hpl) hn hdb)⟩
  exact h2 σ O ρ p1 H1 Q xs vs (rs.stp s1) rv q
theorem dl_blt {g : List D → M (List D)} (hc : CallN X c W (.builtin id) g) (hm : X.mg x = none) (hv : bootBuiltins x = some (.builtin id)) (ha : PA X (e :: es) (dAB c W fa)) (hg : Gl X x := by rfl) (hn : x ≠ "__name__" := by decide) (hdb : (x == ("__debug__" : Str)) = false := by decide)
    (he : starEach (e :: es) X.env = (false, eval e X.env) :: starEach es X.env := by rfl) (hpl : (backTo pos (starEach es X.env)).any (·.1) = false := by rfl) : PE X (.Call (.Name x p) (e :: es) [] pos) (dL c W (bltE g fa)) := by
  obtain ⟨r, h1, h2⟩ := hc
  refine ⟨fun pins s σ H Q I ⟨O, ρ, pt, rs, q⟩ => wpAny_Call_Name_kw (ld_blt I hg hm hv (PyProof.Rows.callWith_builtin1 (thn (ha.run pos pins s σ H (fun vs H1 => r σ vs H1 Q) I ⟨O, ρ, pt, rs, (Wg.bnd q).imp fun xs p1 H1 _ s1 q vs rv => ?_⟩) fun us s1 ⟨vs, H1, I1, r1, q1⟩ => h1 pins s1 σ H1 vs us Q I1 r1 q1) he hpl) hn hdb)⟩
  exact h2 σ O ρ pt p1 H H1 Q xs vs rs s1 rv q
theorem dl_blt_ty {g : List D → M (List D)} (hc : CallN X c W (.type T) g) (hm : X.mg x = none) (hv : bootBuiltins x = some (.type T)) (ha : PA X (e :: es) (dAB c W fa)) (hg : Gl X x := by rfl) (hn : x ≠ "__name__" := by decide) (hdb : (x == ("__debug__" : Str)) = false := by decide)
    (he : starEach (e :: es) X.env = (false, eval e X.env) :: starEach es X.env := by rfl) (hpl : (backTo pos (starEach es X.env)).any (·.1) = false := by rfl) : PE X (.Call (.Name x p) (e :: es) [] pos) (dL c W (bltE g fa)) := by
  obtain ⟨r, h1, h2⟩ := hc
  refine ⟨fun pins s σ H Q I ⟨O, ρ, pt, rs, q⟩ => wpAny_Call_Name_kw (ld_blt I hg hm hv (PyProof.Rows.callWith_type1 (thn (ha.run pos pins s σ H (fun vs H1 => r σ vs H1 Q) I ⟨O, ρ, pt, rs, (Wg.bnd q).imp fun xs p1 H1 _ s1 q vs rv => ?_⟩) fun us s1 ⟨vs, H1, I1, r1, q1⟩ => h1 pins s1 σ H1 vs us Q I1 r1 q1) he hpl) hn hdb)⟩
  exact h2 σ O ρ pt p1 H H1 Q xs vs rs s1 rv q
/-- a built-in without effects -/
def pu1 (g : List D → Option D) : List D → M D := fun xs => opt (g xs)
theorem cd_pu {f : Value} {g : List D → Option D} {r : List V → Hp → VK → Prop} (h : CallR X f r)
    (ok : ∀ (O : List (Nat × Addr)) (H : Hp) (xs : List D) (z : D) (vs : List V) (Q : VK), RBL c O H xs vs → g xs = some z → (∀ v', c.R (Hd (hid c O) H) z v' → Q v' H) → r vs H Q) : CallD X c W f (pu1 g) :=
  ⟨_, calls_of h, fun σ O ρ pt H Q xs vs rs rx q => by
    obtain ⟨z, e, q⟩ := Wg.opt q rs.pot
    exact ok O H xs z vs Q rx e q⟩
theorem RBL.one {O : List (Nat × Addr)} {H : Hp} {d : D} {vs : List V} (h : RBL c O H [d] vs) : ∃ v, vs = [v] ∧ RB c O H d v := by
  obtain ⟨v, ws, rfl, h, rfl⟩ := h
  exact ⟨v, rfl, h⟩
theorem RBL.two {O : List (Nat × Addr)} {H : Hp} {d d' : D} {vs : List V} (h : RBL c O H [d, d'] vs) : ∃ v w, vs = [v, w] ∧ RB c O H d v ∧ RB c O H d' w := by
  obtain ⟨v, ws, rfl, h, w, zs, rfl, h', rfl⟩ := h
  exact ⟨v, w, rfl, h, h'⟩
def absF : List D → Option D
  | [.int i] => some (.int (if i < 0 then -i else i))
  | _ => none
theorem cd_abs : CallD X c W (.builtin "abs") (pu1 absF) := cd_pu call_abs fun O H xs z vs Q rx e q => by
  unfold absF at e
  split at e
  · cases e
    obtain ⟨v, rfl, h⟩ := rx.one
    rw [h.int]
    exact ⟨_, rfl, q _ (by simp [Cy.R, R])⟩
  · cases e
def max2F : List D → Option D
  | [.int i, .int j] => some (.int (if j > i then j else i))
  | _ => none
theorem cd_max2 (hc : X.calm = true) : CallD X c W (.builtin "max") (pu1 max2F) := cd_pu (call_max2 hc) fun O H xs z vs Q rx e q => by
  unfold max2F at e
  split at e
  · cases e
    obtain ⟨v, w, rfl, h, h'⟩ := rx.two
    rw [h.int, h'.int]
    exact ⟨_, _, rfl, q _ (by simp [Cy.R, R])⟩
  · cases e
def min2F : List D → Option D
  | [.int i, .int j] => some (.int (if j < i then j else i))
  | _ => none
theorem cd_min2 (hc : X.calm = true) : CallD X c W (.builtin "min") (pu1 min2F) := cd_pu (call_min2 hc) fun O H xs z vs Q rx e q => by
  unfold min2F at e
  split at e
  · cases e
    obtain ⟨v, w, rfl, h, h'⟩ := rx.two
    rw [h.int, h'.int]
    exact ⟨_, _, rfl, q _ (by simp [Cy.R, R])⟩
  · cases e
def intF : List D → Option D
  | [.int i] => some (.int i)
  | [.bl b] => some (.int (if b then 1 else 0))
  | _ => none
theorem cd_int : CallD X c W (.type "int") (pu1 intF) := cd_pu call_int1 fun O H xs z vs Q rx e q => by
  unfold intF at e
  split at e
  · cases e
    obtain ⟨v, rfl, h⟩ := rx.one
    rw [h.int]
    exact .inl ⟨_, rfl, q _ (by simp [Cy.R, R])⟩
  · cases e
    obtain ⟨v, rfl, h⟩ := rx.one
    rw [h.bl]
    exact .inr ⟨_, rfl, q _ (by simp [Cy.R, R])⟩
  · cases e
def strF : List D → Option D
  | [.int i] => if i.natAbs.log2 < 1920 then some (.str (toString i)) else none
  | _ => none
theorem cd_strI : CallD X c W (.type "str") (pu1 strF) := cd_pu call_str_int fun O H xs z vs Q rx e q => by
  unfold strF at e
  split at e
  · split at e
    · rename_i hz
      cases e
      obtain ⟨v, rfl, h⟩ := rx.one
      rw [h.int]
      exact ⟨_, rfl, hz, q _ (by simp [Cy.R, R])⟩
    · cases e
  · cases e
def lenF : List D → Option D
  | [.lst ds] => some (.int ds.length)
  | [.tup ds] => some (.int ds.length)
  | [.str x] => if x.length ≤ 1000000 then some (.int x.length) else none
  | _ => none
theorem cd_len (hK : c.K = X.K := by rfl) : CallD X c W (.builtin "len") (pu1 lenF) := cd_pu call_len fun O H xs z vs Q rx e q => by
  unfold lenF at e
  split at e
  · cases e
    obtain ⟨v, rfl, h⟩ := rx.one
    obtain ⟨a, vs, rfl, ha, rl⟩ := h.lst
    exact ⟨_, _, rfl, .inl ⟨vs, .inl (.inl ha), RL.len rl⟩, q _ (by simp [Cy.R, R])⟩
  · cases e
    obtain ⟨v, rfl, h⟩ := rx.one
    obtain ⟨a, vs, rfl, ha, rl⟩ := h.tup
    exact ⟨_, _, rfl, .inr ⟨vs, by rw [← hK]; exact ha, RL.len rl⟩, q _ (by simp [Cy.R, R])⟩
  · split at e
    · rename_i hz
      cases e
      obtain ⟨v, rfl, h⟩ := rx.one
      rw [h.str]
      exact ⟨_, _, rfl, ⟨Nat.le_trans hz (by decide), rfl⟩, q _ (by simp [Cy.R, R])⟩
    · cases e
  · cases e
/-- isinstance(x, C): the answers by the kind of x -/
def isiE (nC : Nat) (ans : Sum String Nat → Option Bool) (fo : Slots → M D) : Slots → M D := fun ρ => bnd (fo ρ) fun x => opt (((knd nC x).bind ans).map .bl)
theorem de_isi {y : Str} {ce : Expr} {cv : V} {u : Value} {ans : Sum String Nat → Option Bool} {fo : Slots → M D} (hCs : ∀ k, k < nC → ClsI X.K (c.T.cls k)) (ho : PE X e (dB c W fo)) (hce : PE X ce (tC cv)) (hu : ClsV cv u) (ha : ∀ t b, ans t = some b → PySem.W.kitOne X.K (tagV c.T t) u = some b)
    (hm : X.mg y = none) (hv : bootBuiltins y = some (.builtin "isinstance")) (hK : c.K = X.K := by rfl) (hg : Gl X y := by rfl) (hn : y ≠ "__name__" := by decide) (hdb : (y == ("__debug__" : Str)) = false := by decide)
    (he : starEach [e, ce] X.env = (false, eval e X.env) :: starEach [ce] X.env := by rfl) (he2 : starEach [ce] X.env = (false, eval ce X.env) :: starEach [] X.env := by rfl) (hpl : (backTo pos (starEach [ce] X.env)).any (·.1) = false := by rfl) :
    PE X (.Call (.Name y p) [e, ce] [] pos) (dE c W (isiE nC ans fo)) := by
  refine pe_imp (pe_callB call_isi hg hm hv (pa_cons ho (pa_cons hce pa_nil he2) he) hn hdb he hpl) fun σ H Q ⟨O, ρ, pt, r, q⟩ => ⟨O, ρ, pt, r, (Wg.bnd q).imp fun z p1 H1 _ s1 q v rv => ?_⟩
  obtain ⟨d, ed, q⟩ := Wg.opt q s1.pot
  cases ek : knd nC z with
  | none => rw [ek] at ed; cases ed
  | some t =>
    rw [ek] at ed
    simp only [Option.bind_some] at ed
    cases eb : ans t with
    | none => rw [eb] at ed; cases ed
    | some b =>
      rw [eb] at ed
      cases ed
      have ty := tag_ok (nC := nC) hCs hK rv (t := tagV c.T t) (by rw [tag_knd, ek]; rfl)
      exact ⟨v, cv, _, u, b, rfl, hu, ty, ha t b eb, q _ (by simp [Cy.R, R])⟩
/-! ### tuple(..), list(..) -/
def seqOf : List D → Option (List D)
  | [.lst ds] => some ds
  | [.tup ds] => some ds
  | _ => none
def listF : List D → M (List D) := fun xs => opt (seqOf xs)
theorem seq_of {O : List (Nat × Addr)} {H : Hp} {xs ds : List D} {vs : List V} (rx : RBL c O H xs vs) (e : seqOf xs = some ds) : ∃ a ws, vs = [.ref a] ∧ c.RL (Hd (hid c O) H) ds ws ∧ (SqL c.K H a ws ∨ (SqT c.K H a ws ∧ c.R (Hd (hid c O) H) (.tup ds) (.ref a))) := by
  unfold seqOf at e
  split at e
  · cases e
    obtain ⟨v, rfl, h⟩ := rx.one
    obtain ⟨a, vs, rfl, ha, rl⟩ := h.lst
    exact ⟨a, vs, rfl, rl, .inl (.inl (.inl ha))⟩
  · cases e
    obtain ⟨v, rfl, h⟩ := rx.one
    have h' := h.tupR
    obtain ⟨a, vs, rfl, ha, rl⟩ := h.tup
    exact ⟨a, vs, rfl, rl, .inr ⟨ha, h'⟩⟩
  · cases e
theorem cn_list (hK : c.K = X.K := by rfl) : CallN X c W (.type "list") listF := ⟨_, calls_of call_list_of, fun σ O ρ pt p1 H H1 Q xs vs rs s1 rx q => by
  cases e : seqOf xs with
  | none =>
    unfold listF at q
    rw [e] at q
    exact q.elim
  | some ds =>
    unfold listF at q
    rw [e] at q
    obtain ⟨a, ws, rfl, rl, h⟩ := seq_of rx e
    rw [hK] at h
    exact ⟨a, ws, rfl, h.imp id (·.1), fun l hl => new_lst rs s1 rl hl q⟩⟩
def tupF : List D → M D := fun xs => bnd (listF xs) fun ds => ret (.tup ds)
theorem cd_tuple (hK : c.K = X.K := by rfl) : CallD X c W (.type "tuple") tupF := ⟨_, calls_of call_tuple_of, fun σ O ρ pt H Q xs vs rs rx q => by
  cases e : seqOf xs with
  | none =>
    unfold tupF listF at q
    rw [e] at q
    exact q.elim
  | some ds =>
    unfold tupF listF at q
    rw [e] at q
    obtain ⟨a, ws, rfl, rl, h⟩ := seq_of rx e
    rw [hK] at h
    refine ⟨a, ws, rfl, ?_⟩
    rcases h with h | ⟨h, h'⟩
    · exact .inl ⟨h, fun l hl => q _ (Stp.new rs.pot hl) _ (mk_tup rs hl rl)⟩
    · exact .inr ⟨h, Wg.here q rs.pot _ h'⟩⟩
end
end DF

set_option Elab.async false
set_option linter.all false
set_option maxRecDepth 100000
set_option maxHeartbeats 4000000
namespace DF
open PySem L2
/-! ### what is walked -/
/-- the item x that stands for d, in the heap H' behind H: whatever is hidden now, if what stood open at H1 stands open -/
def Yg (c : Cy) (S : List Addr) (H1 H H' : Hp) (d : D) (x : V) : Prop := Gr H H' ∧ ∀ S' : List Addr, Gr (Hd S H1) (Hd S' H) → (∀ a ∈ S', ∃ o, H a = some o) → c.R (Hd S' H') d x
def Yl (c : Cy) (S : List Addr) (J : It) (items : List D) (H1 : Hp) : Prop := ∀ H, (∀ a o, a ∉ S → H1 a = some o → H a = some o) →
  (∀ i d, items[i]? = some d → J.go i H ∧ ∀ x H', J.yld i H x H' → Yg c S H1 H H' d x) ∧ ∀ i, items.length ≤ i → J.stop i H
def dI (c : Cy) (W : WX) (f : Slots → M (List D)) : TI := fun σ H Rk => ∃ O ρ pt, RS c O ρ σ H pt ∧ Wg c W σ H (fun items _ H' => ∀ J, Yl c (hid c O) J items H' → Rk J H') (f ρ pt)
section
variable {X : Cx} {c : Cy} {W : WX} {σ : L2.St} {H H1 H' : Hp} {O : List (Nat × Addr)} {ρ : Slots} {pt pt' : Pot} {e e2 iter tg : Expr} {p pos : Pos}
theorem pi_imp {t t' : TI} (h : PI X tg iter t) (i : ∀ σ H R, t' σ H R → t σ H R) : PI X tg iter t' := ⟨fun pins s σ H R I q => h.run pins s σ H R I (i σ H R q)⟩
theorem pi_or {t t' : TI} (h : PI X tg iter t) (h' : PI X tg iter t') : PI X tg iter (fun σ H R => t σ H R ∨ t' σ H R) := ⟨fun pins s σ H R I q => q.elim (h.run pins s σ H R I) (h'.run pins s σ H R I)⟩
theorem Yg.at {S : List Addr} {d : D} {x : V} (h : c.R (Hd S H1) d x) : Yg c S H1 H H d x := ⟨Gr.refl H, fun S' g _ => R.gr g h⟩
theorem RL.at {K : PySem.W.Frag} {T : Tb} {p : Addr} {ds : List D} {vs : List V} {i : Nat} {d : D} {x : V} (h : RL K T p H ds vs) (e : ds[i]? = some d) (ex : vs[i]? = some x) : R K T p H d x := by
  obtain ⟨v, ev, r⟩ := RL.getD h e
  rw [ex] at ev
  cases ev
  exact r
theorem RL.ix {K : PySem.W.Frag} {T : Tb} {p : Addr} {ds : List D} {vs : List V} {i : Nat} {d : D} (h : RL K T p H ds vs) (e : ds[i]? = some d) : ∃ v, vs[i]? = some v := let ⟨v, ev, _⟩ := RL.getD h e; ⟨v, ev⟩
/-- what stands open is read as before -/
theorem open_l {S : List Addr} {K : PySem.W.Frag} {a : Addr} {vs : List V} (k : ∀ a o, a ∉ S → H1 a = some o → H a = some o) (h : Hd S H1 a = some (.lst vs)) : SqL K H a vs := .inl (.inl (k a _ (Hd.sees h).1 (Hd.sees h).2))
theorem open_t {S : List Addr} {K : PySem.W.Frag} {a : Addr} {vs : List V} (k : ∀ a o, a ∉ S → H1 a = some o → H a = some o) (h : SqT K (Hd S H1) a vs) : SqT K H a vs :=
  Gr.sqt (H := Hd S H1) (fun a o e => k a o (Hd.sees e).1 (Hd.sees e).2) h
/-- two readings of one list -/
theorem sql_same {a : Addr} {xs ys : List V} {K : PySem.W.Frag} (h : H a = some (.lst xs)) (h' : SqL K H a ys) (hK : ∀ o, K.lookup a = some o → H a = none) : xs = ys := by
  rcases h' with (h' | ⟨o, h'⟩) | ⟨o, _, _, h', _⟩
  · rw [h] at h'; cases h'; rfl
  · rw [h] at h'; cases h'
  · rw [hK o h'] at h; cases h
theorem yl_list {S : List Addr} {a : Addr} {ds : List D} {vs : List V} (h : Hd S H1 a = some (.lst vs)) (rl : c.RL (Hd S H1) ds vs) : Yl c S (Itl c.K a) ds H1 := fun H k => by
  have q : SqL c.K H a vs := open_l k h
  refine ⟨fun i d e => ?_, fun i hi => ⟨vs, q, by rw [← RL.len rl]; exact hi⟩⟩
  obtain ⟨v, ev⟩ := RL.ix rl e
  refine ⟨⟨vs, v, q, ev⟩, fun x H' y => ?_⟩
  obtain ⟨e1, y⟩ := y
  subst e1
  exact Yg.at (RL.at rl e (y vs q))
theorem yl_tup {S : List Addr} {a : Addr} {ds : List D} {vs : List V} (h : SqT c.K (Hd S H1) a vs) (rl : c.RL (Hd S H1) ds vs) : Yl c S (Itt c.K a) ds H1 := fun H k => by
  have q : SqT c.K H a vs := open_t k h
  refine ⟨fun i d e => ?_, fun i hi => ⟨vs, q, by rw [← RL.len rl]; exact hi⟩⟩
  obtain ⟨v, ev⟩ := RL.ix rl e
  refine ⟨⟨vs, v, q, ev⟩, fun x H' y => ?_⟩
  obtain ⟨e1, y⟩ := y
  subst e1
  exact Yg.at (RL.at rl e (y vs q))
def chars (x : Str) : List D := x.cps.toList.map fun n => .str ⟨#[n]⟩
theorem yl_str {S : List Addr} {x : Str} : Yl c S (Its x) (chars x) H1 := fun H k => by
  refine ⟨fun i d e => ?_, fun i hi => ?_⟩
  · unfold chars at e
    rw [List.getElem?_map] at e
    cases en : x.cps.toList[i]? with
    | none => rw [en] at e; cases e
    | some n =>
      rw [en] at e
      cases e
      have hi : i < x.cps.size := by simpa using (List.getElem?_eq_some_iff.mp en).1
      refine ⟨hi, fun v H' y => ?_⟩
      obtain ⟨e1, m, em, ev⟩ := y
      subst e1 ev
      have : x.cps.toList[i]? = some m := by simpa using em
      rw [en] at this
      cases this
      exact Yg.at (by simp [Cy.R, R])
  · show x.cps.size ≤ i
    simpa [chars] using hi
theorem yl_range {S : List Addr} {lo : Int} {n : Nat} : Yl c S (Itr lo n) ((List.range n).map fun (k : Nat) => .int (lo + (k : Int))) H1 := fun H k => by
  refine ⟨fun i d e => ?_, fun i hi => ?_⟩
  · rw [List.getElem?_map] at e
    cases en : (List.range n)[i]? with
    | none => rw [en] at e; cases e
    | some m =>
      rw [en] at e
      cases e
      have hi : i < n := by simpa using (List.getElem?_eq_some_iff.mp en).1
      have hm : m = i := by
        rw [List.getElem?_range hi] at en
        cases en; rfl
      subst hm
      refine ⟨hi, fun x H' y => ?_⟩
      obtain ⟨e1, ex⟩ := y
      subst e1 ex
      exact Yg.at (by simp [Cy.R, R])
  · show n ≤ i
    simpa using hi
/-- a new pair -/
theorem Yg.pair {S : List Addr} {T : Addr} {d d' : D} {x y : V} (hT : H T = none) (hx : c.R (Hd S H1) d x) (hy : c.R (Hd S H1) d' y) : Yg c S H1 H (upd H T (.tup [x, y])) (.tup [d, d']) (.ref T) := by
  refine ⟨fun a o e => by rw [upd_ne (ne_of_none e hT)]; exact e, fun S' g hS => ?_⟩
  have nT : T ∉ S' := fun q => by
    obtain ⟨o, e⟩ := hS T q
    rw [hT] at e; cases e
  have g2 : Gr (Hd S H1) (Hd S' (upd H T (.tup [x, y]))) := g.trans (Hd.new hT)
  simp only [Cy.R, R]
  exact ⟨T, [x, y], rfl, .inl (.inl (Hd.at_new nT)), RL.cons (R.gr g2 hx) (RL.one (R.gr g2 hy))⟩
def pairs : List D → List D → List D := fun xs ys => List.zipWith (fun x y => .tup [x, y]) xs ys
theorem pairs_at {xs ys : List D} {i : Nat} {d : D} (e : (pairs xs ys)[i]? = some d) : ∃ x y, xs[i]? = some x ∧ ys[i]? = some y ∧ d = .tup [x, y] := by
  unfold pairs at e
  rw [List.getElem?_zipWith] at e
  cases e1 : xs[i]? with
  | none => rw [e1] at e; simp at e
  | some x =>
    cases e2 : ys[i]? with
    | none => rw [e1, e2] at e; simp at e
    | some y =>
      rw [e1, e2] at e
      cases e
      exact ⟨x, y, rfl, rfl, rfl⟩
theorem yl_zip {S : List Addr} {a b : Addr} {ds es : List D} {vs ws : List V} (h : Hd S H1 a = some (.lst vs)) (rl : c.RL (Hd S H1) ds vs) (h' : Hd S H1 b = some (.lst ws)) (rl' : c.RL (Hd S H1) es ws) : Yl c S (Itz c.K a b) (pairs ds es) H1 := fun H k => by
  have q : SqL c.K H a vs := open_l k h
  have q' : SqL c.K H b ws := open_l k h'
  refine ⟨fun i d e => ?_, fun i hi => ⟨vs, ws, q, q', ?_⟩⟩
  · obtain ⟨x, y, ex, ey, rfl⟩ := pairs_at e
    obtain ⟨v, ev⟩ := RL.ix rl ex
    obtain ⟨w, ew⟩ := RL.ix rl' ey
    refine ⟨⟨vs, ws, v, w, q, q', ev, ew⟩, fun z H' yy => ?_⟩
    obtain ⟨T, x1, y1, rfl, hT, rfl, f1, f2⟩ := yy
    exact Yg.pair hT (RL.at rl ex (f1 vs q)) (RL.at rl' ey (f2 ws q'))
  · unfold pairs at hi
    rw [List.length_zipWith, RL.len rl, RL.len rl'] at hi
    omega
theorem yl_zipT {S : List Addr} {a b : Addr} {ds es : List D} {vs ws : List V} (h : SqT c.K (Hd S H1) a vs) (rl : c.RL (Hd S H1) ds vs) (h' : SqT c.K (Hd S H1) b ws) (rl' : c.RL (Hd S H1) es ws) : Yl c S (RZ.ItzT c.K a b) (pairs ds es) H1 := fun H k => by
  have q : SqT c.K H a vs := open_t k h
  have q' : SqT c.K H b ws := open_t k h'
  refine ⟨fun i d e => ?_, fun i hi => ⟨vs, ws, q, q', ?_⟩⟩
  · obtain ⟨x, y, ex, ey, rfl⟩ := pairs_at e
    obtain ⟨v, ev⟩ := RL.ix rl ex
    obtain ⟨w, ew⟩ := RL.ix rl' ey
    refine ⟨⟨vs, ws, v, w, q, q', ev, ew⟩, fun z H' yy => ?_⟩
    obtain ⟨T, x1, y1, rfl, hT, rfl, f1, f2⟩ := yy
    exact Yg.pair hT (RL.at rl ex (f1 vs q)) (RL.at rl' ey (f2 ws q'))
  · unfold pairs at hi
    rw [List.length_zipWith, RL.len rl, RL.len rl'] at hi
    omega
def enums (ds : List D) : List D := pairs ((List.range ds.length).map fun (k : Nat) => .int (k : Int)) ds
theorem yl_enum {S : List Addr} {a : Addr} {ds : List D} {vs : List V} (h : Hd S H1 a = some (.lst vs)) (rl : c.RL (Hd S H1) ds vs) : Yl c S (Ite c.K a) (enums ds) H1 := fun H k => by
  have q : SqL c.K H a vs := open_l k h
  refine ⟨fun i d e => ?_, fun i hi => ⟨vs, q, ?_⟩⟩
  · obtain ⟨x, y, ex, ey, rfl⟩ := pairs_at e
    rw [List.getElem?_map] at ex
    have hi : i < ds.length := (List.getElem?_eq_some_iff.mp ey).1
    rw [List.getElem?_range hi] at ex
    cases ex
    obtain ⟨w, ew⟩ := RL.ix rl ey
    refine ⟨⟨vs, w, q, ew⟩, fun z H' yy => ?_⟩
    obtain ⟨T, x1, rfl, hT, rfl, f1⟩ := yy
    exact Yg.pair hT (by simp [Cy.R, R]) (RL.at rl ey (f1 vs q))
  · unfold enums pairs at hi
    rw [List.length_zipWith, List.length_map, List.length_range, RL.len rl] at hi
    omega
/-- the items of a value -/
def itemsOf : D → Option (List D)
  | .lst ds => some ds
  | .tup ds => some ds
  | .str x => some (chars x)
  | _ => none
def itE (f : Slots → M D) : Slots → M (List D) := fun ρ => bnd (f ρ) fun d => opt (itemsOf d)
theorem di_val {f : Slots → M D} (h : PE X e (dE c W f)) (hK : c.K = X.K := by rfl) : PI X tg e (dI c W (itE f)) := by
  refine pi_imp (pi_or (pi_list h) (pi_or (pi_tup h) (pi_str h))) fun σ H Rk ⟨O, ρ, pt, r, q⟩ => ?_
  have q := Wg.bnd q
  cases e1 : f ρ pt with
  | ok d p1 =>
    cases d with
    | lst ds =>
      refine .inl ⟨O, ρ, pt, r, ?_⟩
      rw [e1] at q ⊢
      intro H1 s1 v rv
      have qq := Wg.here (q H1 s1) s1.pot
      simp only [Cy.R, R] at rv
      obtain ⟨a, vs, rfl, ha, rl⟩ := rv
      refine ⟨a, rfl, ⟨vs, .inl (.inl (Hd.le _ _ ha))⟩, ?_⟩
      rw [← hK]
      exact qq _ (yl_list ha rl)
    | tup ds =>
      refine .inr (.inl ⟨O, ρ, pt, r, ?_⟩)
      rw [e1] at q ⊢
      intro H1 s1 v rv
      have qq := Wg.here (q H1 s1) s1.pot
      simp only [Cy.R, R] at rv
      obtain ⟨a, vs, rfl, ha, rl⟩ := rv
      refine ⟨a, rfl, ⟨vs, by rw [← hK]; exact Hd.le.sqt ha⟩, ?_⟩
      rw [← hK]
      exact qq _ (yl_tup ha rl)
    | str x =>
      refine .inr (.inr ⟨O, ρ, pt, r, ?_⟩)
      rw [e1] at q ⊢
      intro H1 s1 v rv
      have qq := Wg.here (q H1 s1) s1.pot
      exact ⟨x, by simpa [Cy.R, R] using rv, qq _ yl_str⟩
    | _ =>
      rw [e1] at q
      first
        | exact False.elim (q _ (Stp.refl (r.stp ⟨fun a o _ h => h, r.pot⟩).pot))
        | (refine .inl ⟨O, ρ, pt, r, ?_⟩; rw [e1]; intro H1 s1; exact (q H1 s1).elim)
  | exc k fs p1 =>
    refine .inl ⟨O, ρ, pt, r, ?_⟩
    rw [e1] at q ⊢
    exact q
  | stuck =>
    rw [e1] at q
    exact q.elim
/-- range(n), range(a, b) -/
def rng1 : List D → Option (List D)
  | [.int j] => if -(2 ^ 62) ≤ j ∧ j < 2 ^ 62 then some ((List.range j.toNat).map fun (k : Nat) => .int (0 + (k : Int))) else none
  | _ => none
def rng2 : List D → Option (List D)
  | [.int i, .int j] => if -(2 ^ 62) ≤ i ∧ i < 2 ^ 62 ∧ -(2 ^ 62) ≤ j ∧ j < 2 ^ 62 then some ((List.range (j - i).toNat).map fun (k : Nat) => .int (i + (k : Int))) else none
  | _ => none
def itA (g : List D → Option (List D)) (fa : Slots → M (List D)) : Slots → M (List D) := fun ρ => bnd (fa ρ) fun ds => opt (g ds)
theorem di_range1 {fa : Slots → M (List D)} (ha : PA X [e] (dAB c W fa)) (hm : X.mg "range" = none) (hg : Gl X "range" := by rfl) (hs : starEach [e] X.env = [(false, eval e X.env)] := by rfl) : PI X tg (.Call (.Name "range" p) [e] [] pos) (dI c W (itA rng1 fa)) := by
  refine pi_imp (pi_range1 hg hm ha hs) fun σ H Rk ⟨O, ρ, pt, r, q⟩ => ⟨O, ρ, pt, r, (Wg.bnd q).imp fun ds p1 H1 _ s1 q vs rv => ?_⟩
  obtain ⟨items, ei, q⟩ := Wg.opt q s1.pot
  unfold rng1 at ei
  split at ei
  · split at ei
    · rename_i hz
      cases ei
      obtain ⟨v, rfl, h⟩ := rv.one
      rw [h.int]
      exact ⟨_, rfl, hz.1, hz.2, q _ yl_range⟩
    · cases ei
  · cases ei
theorem di_range2 {fa : Slots → M (List D)} (ha : PA X [e, e2] (dAB c W fa)) (hm : X.mg "range" = none) (hg : Gl X "range" := by rfl) (hs : starEach [e, e2] X.env = [(false, eval e X.env), (false, eval e2 X.env)] := by rfl) (hs2 : starEach [e2] X.env = [(false, eval e2 X.env)] := by rfl) :
    PI X tg (.Call (.Name "range" p) [e, e2] [] pos) (dI c W (itA rng2 fa)) := by
  refine pi_imp (pi_range2 hg hm ha hs hs2) fun σ H Rk ⟨O, ρ, pt, r, q⟩ => ⟨O, ρ, pt, r, (Wg.bnd q).imp fun ds p1 H1 _ s1 q vs rv => ?_⟩
  obtain ⟨items, ei, q⟩ := Wg.opt q s1.pot
  unfold rng2 at ei
  split at ei
  · split at ei
    · rename_i hz
      cases ei
      obtain ⟨v, w, rfl, h, h'⟩ := rv.two
      rw [h.int, h'.int]
      exact ⟨_, _, rfl, hz, q _ yl_range⟩
    · cases ei
  · cases ei
/-- zip(xs, ys): two lists, or two tuples -/
def zipA : List D → Option (List D)
  | [.lst xs, .lst ys] => some (pairs xs ys)
  | [.tup xs, .tup ys] => some (pairs xs ys)
  | _ => none
theorem rl_two {K : PySem.W.Frag} {T : Tb} {p : Addr} {H : Hp} {d d' : D} {vs : List V} (h : RL K T p H [d, d'] vs) : ∃ v w, vs = [v, w] ∧ R K T p H d v ∧ R K T p H d' w := by
  simp only [RL] at h
  obtain ⟨v, ws, rfl, h1, w, zs, rfl, h2, rfl⟩ := h
  exact ⟨v, w, rfl, h1, h2⟩
theorem rl_one {K : PySem.W.Frag} {T : Tb} {p : Addr} {H : Hp} {d : D} {vs : List V} (h : RL K T p H [d] vs) : ∃ v, vs = [v] ∧ R K T p H d v := by
  simp only [RL] at h
  obtain ⟨v, ws, rfl, h1, rfl⟩ := h
  exact ⟨v, rfl, h1⟩
theorem di_zip {fa : Slots → M (List D)} {elts : List Expr} {kk : Nat} {tpos : Pos} (ha : PA X [e, e2] (dA c W fa)) (hm : X.mg "zip" = none) (hK : c.K = X.K := by rfl) (hg : Gl X "zip" := by rfl) (hs : starEach [e, e2] X.env = (false, eval e X.env) :: starEach [e2] X.env := by rfl)
    (hpl : (backTo pos (starEach [e2] X.env)).any (·.1) = false := by rfl) : PI X (.Tuple elts kk tpos) (.Call (.Name "zip" p) [e, e2] [] pos) (dI c W (itA zipA fa)) := by
  refine pi_imp (RZ.pi_zipA hg hm ha hs hpl) fun σ H Rk ⟨O, ρ, pt, r, q⟩ => ⟨O, ρ, pt, r, (Wg.bnd q).imp fun ds p1 H1 _ s1 q vs rv => ?_⟩
  obtain ⟨items, ei, q⟩ := Wg.opt q s1.pot
  unfold zipA at ei
  split at ei
  · cases ei
    obtain ⟨v, w, rfl, h1, h2⟩ := rl_two rv
    simp only [R] at h1 h2
    obtain ⟨a, xs, rfl, ha, ra⟩ := h1
    obtain ⟨b, ys, rfl, hb, rb⟩ := h2
    refine ⟨a, b, xs, ys, rfl, .inl ⟨.inl (.inl (Hd.le _ _ ha)), .inl (.inl (Hd.le _ _ hb)), ?_⟩⟩
    rw [← hK]
    exact q _ (yl_zip ha ra hb rb)
  · cases ei
    obtain ⟨v, w, rfl, h1, h2⟩ := rl_two rv
    simp only [R] at h1 h2
    obtain ⟨a, xs, rfl, ha, ra⟩ := h1
    obtain ⟨b, ys, rfl, hb, rb⟩ := h2
    refine ⟨a, b, xs, ys, rfl, .inr ⟨by rw [← hK]; exact Hd.le.sqt ha, by rw [← hK]; exact Hd.le.sqt hb, ?_⟩⟩
    rw [← hK]
    exact q _ (yl_zipT ha ra hb rb)
  · cases ei
def enumA : List D → Option (List D)
  | [.lst xs] => some (enums xs)
  | _ => none
theorem di_enum {fa : Slots → M (List D)} {elts : List Expr} {kk : Nat} {tpos : Pos} (ha : PA X [e] (dA c W fa)) (hm : X.mg "enumerate" = none) (hK : c.K = X.K := by rfl) (hg : Gl X "enumerate" := by rfl) (hs : starEach [e] X.env = [(false, eval e X.env)] := by rfl) :
    PI X (.Tuple elts kk tpos) (.Call (.Name "enumerate" p) [e] [] pos) (dI c W (itA enumA fa)) := by
  refine pi_imp (pi_enum hg hm ha hs) fun σ H Rk ⟨O, ρ, pt, r, q⟩ => ⟨O, ρ, pt, r, (Wg.bnd q).imp fun ds p1 H1 _ s1 q vs rv => ?_⟩
  obtain ⟨items, ei, q⟩ := Wg.opt q s1.pot
  unfold enumA at ei
  split at ei
  · cases ei
    obtain ⟨v, rfl, h1⟩ := rl_one rv
    simp only [R] at h1
    obtain ⟨a, xs, rfl, ha, ra⟩ := h1
    refine ⟨a, xs, rfl, .inl (.inl (Hd.le _ _ ha)), ?_⟩
    rw [← hK]
    exact q _ (yl_enum ha ra)
  · cases ei

/-! ### targets -/
theorem wipe_at {σ : L2.St} {vs : List Nat} {j : Nat} (h : j ∈ vs) : (wipe σ vs)[j]? = if j < σ.length then some none else none := by
  by_cases hl : j < σ.length
  · rw [if_pos hl]
    have hw : j < (wipe σ vs).length := by rw [wipe_length]; exact hl
    cases e : (wipe σ vs)[j]? with
    | none => rw [List.getElem?_eq_none_iff] at e; omega
    | some o =>
      cases o with
      | none => rfl
      | some x => exact absurd h (wipe_some e).2
  · rw [if_neg hl, List.getElem?_eq_none_iff, wipe_length]
    omega
theorem wipe_set {σ : L2.St} {vs : List Nat} {i : Nat} {x : Option V} (h : i ∈ vs) : wipe (σ.set i x) vs = wipe σ vs := by
  apply List.ext_getElem?
  intro j
  by_cases hj : j ∈ vs
  · rw [wipe_at hj, wipe_at hj, List.length_set]
  · rw [wipe_out hj, wipe_out hj, List.getElem?_set_ne (fun e : i = j => hj (e ▸ h))]
/-- a target takes a value -/
def dG (c : Cy) (vs : List Nat) (tgf : D → Slots → Option Slots) : TG := fun v σ H Q => ∃ O ρ pt d ρ', RS c O ρ σ H pt ∧ c.R (Hd (hid c O) H) d v ∧ tgf d ρ = some ρ' ∧ ∀ O' σ', RS c O' ρ' σ' H pt → Mv c O H O' H → wipe σ' vs = wipe σ vs → (∀ q ∈ O, q.1 ∉ vs → q ∈ O') → Q σ' H
def tgN (i : Nat) : D → Slots → Option Slots := fun d ρ => if i < ρ.length then some (ρ.set i (some (.val d))) else none
theorem pg_imp {t t' : TG} (h : PG X tg t) (i : ∀ v σ H Q, t' v σ H Q → t v σ H Q) : PG X tg t' := ⟨fun pins s σ H v u Q I r q => h.run pins s σ H v u Q I r (i v σ H Q q)⟩
theorem dg_name {i : Nat} {x : Str} {vs : List Nat} (hN : X.N.Nodup) (hv : i ∈ vs) (hi : X.N[i]? = some x := by rfl) (hx : Loc X.env.scope x := by first | exact Or.inl rfl | exact Or.inr rfl)
    (hf : X.fn x = true ∨ X.env.scope.names.lookup x = some .local := by first | exact .inl rfl | exact .inr rfl | assumption) : PG X (.Name x pos) (dG c vs (tgN i)) := by
  refine pg_imp (pg_name (i := i) hN hi hx hf) fun v σ H Q ⟨O, ρ, pt, d, ρ', rs, rv, e, q⟩ => ?_
  unfold tgN at e
  split at e
  · rename_i hl
    cases e
    exact q _ _ (rs.put i (by rw [← rs.len]; exact hl) rv) Mv.fewer (wipe_set hv) fun q hq hn => List.mem_filter.mpr ⟨hq, decide_eq_true fun z => hn (z ▸ hv)⟩
  · cases e
def tgs : List (D → Slots → Option Slots) → List D → Slots → Option Slots
  | [], [], ρ => some ρ
  | t :: ts, d :: ds, ρ => (t d ρ).bind (tgs ts ds)
  | _, _, _ => none
def dGs (c : Cy) (vs : List Nat) (ts : List (D → Slots → Option Slots)) : TGs := fun xs σ H Q => ∃ O ρ pt ds ρ', RS c O ρ σ H pt ∧ c.RL (Hd (hid c O) H) ds xs ∧ tgs ts ds ρ = some ρ' ∧ ∀ O' σ', RS c O' ρ' σ' H pt → Mv c O H O' H → wipe σ' vs = wipe σ vs → (∀ q ∈ O, q.1 ∉ vs → q ∈ O') → Q σ' H
theorem pgs_imp {es : List Expr} {t t' : TGs} (h : PGs X es t) (i : ∀ v σ H Q, t' v σ H Q → t v σ H Q) : PGs X es t' := ⟨fun pins s σ H v u Q I r q => h.run pins s σ H v u Q I r (i v σ H Q q)⟩
theorem dgs_nil {vs : List Nat} : PGs X [] (dGs c vs []) := pgs_imp pgs_nil fun xs σ H Q ⟨O, ρ, pt, ds, ρ', rs, rl, e, q⟩ => by
  cases ds with
  | nil =>
    simp only [tgs] at e
    cases e
    exact ⟨by simpa [Cy.RL, RL] using rl, q O σ rs Mv.refl rfl fun q hq _ => hq⟩
  | cons d ds => simp [tgs] at e
theorem dgs_cons {e : Expr} {es : List Expr} {vs : List Nat} {t : D → Slots → Option Slots} {ts : List (D → Slots → Option Slots)} (h : PG X e (dG c vs t)) (hs : PGs X es (dGs c vs ts)) (ha : (assignEach (e :: es) X.env).map (·.2) = assign e X.env :: (assignEach es X.env).map (·.2) := by rfl) : PGs X (e :: es) (dGs c vs (t :: ts)) := by
  refine pgs_imp (pgs_cons h hs ha) fun xs σ H Q ⟨O, ρ, pt, ds, ρ', rs, rl, e, q⟩ => ?_
  cases ds with
  | nil => simp [tgs] at e
  | cons d ds =>
    simp only [Cy.RL, RL] at rl
    obtain ⟨v, ws, rfl, rv, rl⟩ := rl
    simp only [tgs] at e
    cases e1 : t d ρ with
    | none => rw [e1] at e; cases e
    | some ρ1 =>
      rw [e1] at e
      refine ⟨v, ws, rfl, O, ρ, pt, d, ρ1, rs, rv, e1, fun O1 σ1 rs1 mv1 w1 k1 => ?_⟩
      exact ⟨O1, ρ1, pt, ds, ρ', rs1, RL.gr mv1.gr rl, e, fun O2 σ2 rs2 mv2 w2 k2 => q O2 σ2 rs2 (mv1.trans mv2) (w2.trans w1) fun z hz hn => k2 z (k1 z hz hn) hn⟩
def tgT (ts : List (D → Slots → Option Slots)) : D → Slots → Option Slots := fun d ρ => match d with
  | .tup ds => tgs ts ds ρ
  | _ => none
theorem tgs_len : ∀ {ts : List (D → Slots → Option Slots)} {ds : List D} {ρ ρ' : Slots}, tgs ts ds ρ = some ρ' → ds.length = ts.length
  | [], [], _, _, _ => rfl
  | [], _ :: _, _, _, e => by simp [tgs] at e
  | _ :: _, [], _, _, e => by simp [tgs] at e
  | t :: ts, d :: ds, ρ, ρ', e => by
    simp only [tgs] at e
    cases e1 : t d ρ with
    | none => rw [e1] at e; cases e
    | some ρ1 =>
      rw [e1] at e
      simp only [List.length_cons]
      rw [tgs_len (ts := ts) e]
theorem dg_tup {es : List Expr} {kk : Nat} {vs : List Nat} {ts : List (D → Slots → Option Slots)} (hc : X.calm = true) (h : PGs X es (dGs c vs ts)) (hn : (assignEach es X.env).length = ts.length := by rfl) (hst : (assignEach es X.env).findIdx? (·.1) = none := by rfl) (hK : c.K = X.K := by rfl) :
    PG X (.Tuple es kk pos) (dG c vs (tgT ts)) := by
  refine pg_imp (pg_tup hc h hn hst) fun v σ H Q ⟨O, ρ, pt, d, ρ', rs, rv, e, q⟩ => ?_
  cases d with
  | tup ds =>
    simp only [Cy.R, R] at rv
    obtain ⟨a, xs, rfl, ha, rl⟩ := rv
    have le := tgs_len (ts := ts) e
    exact ⟨a, xs, rfl, by rw [← hK]; exact Hd.le.sqt ha, by rw [← RL.len rl]; exact le, O, ρ, pt, ds, ρ', rs, rl, e, q⟩
  | _ => simp [tgT] at e

/-! ### for -/
def forL (tgf : D → Slots → Option Slots) (g : Slots → M Out) : List D → Slots → M Out
  | [], ρ => ret (.nx ρ)
  | d :: ds, ρ => bnd (opt (tgf d ρ)) fun ρ1 => bnd (g ρ1) fun o => match o with
    | .nx ρ2 => forL tgf g ds ρ2
    | .ct ρ2 => forL tgf g ds ρ2
    | .bk ρ2 => ret (.nx ρ2)
    | .rt d => ret (.rt d)
def forS (fi : Slots → M (List D)) (tgf : D → Slots → Option Slots) (g : Slots → M Out) : Slots → M Out := fun ρ => bnd (fi ρ) fun items => forL tgf g items ρ
theorem ds_for {vs : List Nat} {body : List Stmt} {fi : Slots → M (List D)} {tgf : D → Slots → Option Slots} {g : Slots → M Out} (hp : PassesOwn (model X.prog X.w) X.A X.env X.xe) (hc : X.calm = true) (hi : PI X tg iter (dI c W fi)) (hg : PG X tg (dG c vs tgf)) (hb : PSs X body (dS c W g))
    (hs : ∀ x, foldedSetIterable iter X.env x = pure x := by intro _; rfl) : PS X (.For tg iter body [] pos) (dS c W (forS fi tgf g)) := by
  refine ps_imp (ps_for hp hc hi hg hb hs) fun E σ H ⟨O, ρ, pt, r, h⟩ => ⟨O, ρ, pt, r, (WO.bnd r h).imp fun items p1 H1 _ s1 q J yl => ?_⟩
  refine ⟨fun i m σ' H' => m = items.length - i ∧ i ≤ items.length ∧ ∃ O' ρ' pt', RS c O' ρ' σ' H' pt' ∧ Mv c O H1 O' H' ∧ WO c W E O' H' (forL tgf g (items.drop i) ρ' pt'), ⟨_, rfl, Nat.zero_le _, O, ρ, p1, r.stp s1, Mv.refl, q⟩, ?_⟩
  rintro i m σ' H' ⟨rfl, hi, O', ρ', pt', rs, mv, q⟩
  obtain ⟨y1, y2⟩ := yl H' fun a o h e => (mv a o h e).2
  by_cases hl : i < items.length
  · refine .inr ?_
    have ed : items[i]? = some items[i] := List.getElem?_eq_getElem hl
    have edr : items.drop i = items[i] :: items.drop (i + 1) := List.drop_eq_getElem_cons hl
    rw [edr] at q
    simp only [forL] at q
    obtain ⟨go, yy⟩ := y1 i _ ed
    refine ⟨go, fun σ2 H2 => ∃ O2 ρ2 pt2, RS c O2 ρ2 σ2 H2 pt2 ∧ Mv c O H1 O2 H2 ∧ WO c W E O2 H2 (forL tgf g (items.drop (i + 1)) ρ2 pt2), fun σ2 H2 ⟨O2, ρ2, pt2, a1, a2, a3⟩ => ⟨items.length - (i + 1), by omega, rfl, hl, O2, ρ2, pt2, a1, a2, a3⟩, fun x H2 y => ?_⟩
    obtain ⟨gr, rx⟩ := yy x H2 y
    have st : Stp c.p H' H2 pt' := ⟨fun a o _ e => gr a o e, gr _ _ rs.pot⟩
    have rs2 := rs.stp st
    have rx := rx (hid c O') mv.gr fun a h => rs.hidden h
    have q := WO.from (st.mv rs.hp) q
    cases et : tgf items[i] ρ' with
    | none =>
      unfold DF.bnd at q
      rw [et] at q
      exact q.elim
    | some ρ1 =>
      rw [et] at q
      have q : WO c W E O' H2 (bnd (g ρ1) (fun o => match o with | .nx ρ2 => forL tgf g (items.drop (i + 1)) ρ2 | .ct ρ2 => forL tgf g (items.drop (i + 1)) ρ2 | .bk ρ2 => ret (.nx ρ2) | .rt d => ret (.rt d)) pt') := q
      refine ⟨O', ρ', pt', items[i], ρ1, rs2, rx, et, fun O1 σ1 rs1 mv1 _ _ => ⟨O1, ρ1, pt', rs1, ?_⟩⟩
      have q := WO.from mv1 q
      have mv2 : Mv c O H1 O1 H2 := (mv.trans (st.mv rs.hp)).trans mv1
      unfold DF.bnd at q
      cases eg : g ρ1 pt' with
      | ok o p2 =>
        rw [eg] at q
        cases o with
        | nx ρ2 => exact fun O2 σ2 H3 a1 a2 => ⟨O2, ρ2, p2, a1, mv2.trans a2, WO.from a2 q⟩
        | ct ρ2 => exact fun O2 σ2 H3 a1 a2 => ⟨O2, ρ2, p2, a1, mv2.trans a2, WO.from a2 q⟩
        | bk ρ2 => exact fun O2 σ2 H3 a1 a2 => q O2 σ2 H3 a1 a2
        | rt d => exact q
      | exc _ _ _ =>
        rw [eg] at q
        exact q
      | stuck =>
        rw [eg] at q
        exact q
  · have ei : i = items.length := by omega
    subst ei
    rw [List.drop_length] at q
    exact .inl ⟨y2 _ (Nat.le_refl _), q O' σ' H' rs Mv.refl⟩
end
end DF

set_option Elab.async false
set_option linter.all false
set_option maxRecDepth 100000
set_option maxHeartbeats 4000000
namespace DF
open PySem L2
/-! ### list comprehensions -/
def wipeD (ρ : Slots) : List Nat → Slots
  | [] => ρ
  | v :: vs => (wipeD ρ vs).set v none
def noOwn (ρ : Slots) (vs : List Nat) : Bool := vs.all fun i => match ρ[i]? with
  | some (some s) => !isOwn s
  | _ => true
theorem wipeD_len (ρ : Slots) : ∀ vs, (wipeD ρ vs).length = ρ.length
  | [] => rfl
  | v :: vs => by
    show ((wipeD ρ vs).set v none).length = _
    rw [List.length_set, wipeD_len ρ vs]
theorem wipeD_out {ρ : Slots} {j : Nat} : ∀ {vs : List Nat}, j ∉ vs → (wipeD ρ vs)[j]? = ρ[j]?
  | [], _ => rfl
  | v :: vs, h => by
    show ((wipeD ρ vs).set v none)[j]? = _
    rw [List.getElem?_set_ne (fun e : v = j => h (e ▸ List.mem_cons_self)), wipeD_out fun q => h (List.mem_cons_of_mem _ q)]
theorem wipeD_in {ρ : Slots} {j : Nat} {s : SV} : ∀ {vs : List Nat}, j ∈ vs → (wipeD ρ vs)[j]? ≠ some (some s)
  | [], h => nomatch h
  | v :: vs, h => by
    show ((wipeD ρ vs).set v none)[j]? ≠ _
    by_cases e : v = j
    · subst e
      by_cases hl : v < (wipeD ρ vs).length
      · rw [List.getElem?_set_self hl]
        exact fun q => nomatch q
      · rw [List.getElem?_eq_none (by simpa using hl)]
        exact fun q => nomatch q
    · rw [List.getElem?_set_ne e]
      exact wipeD_in ((List.mem_cons.mp h).resolve_left fun q => e q.symm)
section
variable {X : Cx} {c : Cy} {W : WX} {σ : L2.St} {H H1 H' : Hp} {O : List (Nat × Addr)} {ρ : Slots} {pt pt' : Pot} {e e2 iter tg elt : Expr} {p pos : Pos}
theorem own_out (r : RS c O ρ σ H pt) {vs : List Nat} (h : noOwn ρ vs = true) : ∀ q ∈ O, q.1 ∉ vs := fun q hq hv => by
  obtain ⟨s, e, o⟩ := r.ow q hq
  have := List.all_eq_true.mp h q.1 hv
  rw [e] at this
  simp only [o] at this
  cases this
/-- the block of a comprehension: its names forgotten, the new list out of sight -/
theorem RS.blk (r : RS c O ρ σ H pt) {vs : List Nat} (h : noOwn ρ vs = true) {l : Addr} (hl : H l = none) (o : HO) : RS { c with S := l :: c.S } O (wipeD ρ vs) (wipe σ vs) (upd H l o) pt := by
  have st : Stp c.p H (upd H l o) pt := Stp.new r.pot hl
  have g : Gr (Hd (hid c O) H) (Hd (hid { c with S := l :: c.S } O) (upd H l o)) := fun a u e => by
    obtain ⟨h1, h2⟩ := Hd.sees e
    have na : a ≠ l := ne_of_none h2 hl
    have nm : a ∉ hid { c with S := l :: c.S } O := fun q => (List.mem_cons.mp (show a ∈ l :: (c.S ++ O.map (·.2)) from q)).elim na h1
    rw [Hd.out nm, upd_ne na]
    exact h2
  have lo : ∀ q ∈ O, q.2 ≠ l := fun q hq e => by
    obtain ⟨_, _, _, u, h3⟩ := r.new q hq
    rw [e, hl] at h3; cases h3
  refine ⟨st.pot, fun a u n e => st.keep a u n (r.ext a u n e), List.mem_cons_of_mem _ r.hp, fun a ha => ?_, fun q hq => ?_, r.nd, r.nf, by rw [wipeD_len, wipe_length]; exact r.len, fun q hq => ?_, fun j s hj => ?_⟩
  · rcases List.mem_cons.mp ha with e | ha
    · exact ⟨o, by rw [e, upd_same]⟩
    · obtain ⟨u, e⟩ := r.hS a ha
      exact ⟨u, by rw [upd_ne (ne_of_none e hl)]; exact e⟩
  · obtain ⟨h1, h2, h3, u, h4⟩ := r.new q hq
    exact ⟨h1, h2, fun z => (List.mem_cons.mp z).elim (lo q hq) h3, u, by rw [upd_ne (lo q hq)]; exact h4⟩
  · obtain ⟨s, e, ho⟩ := r.ow q hq
    exact ⟨s, by rw [wipeD_out (own_out r h q hq)]; exact e, ho⟩
  · by_cases hv : j ∈ vs
    · exact absurd hj (wipeD_in hv)
    · rw [wipeD_out hv] at hj
      rw [wipe_out hv]
      have q := r.sl j s hj
      have st' : ∀ {a : Addr} {u : HO}, (j, a) ∈ O → H a = some u → upd H l o a = some u := fun m e => by rw [upd_ne (ne_of_none e hl)]; exact e
      cases s with
      | val d =>
        obtain ⟨v, e, r⟩ := q
        exact ⟨v, e, R.gr g r⟩
      | own ds =>
        obtain ⟨a, vs, m, e, q, r⟩ := q
        exact ⟨a, vs, m, e, st' m q, RL.gr g r⟩
      | ownd ds =>
        obtain ⟨a, vs, m, e, q, r⟩ := q
        exact ⟨a, vs, m, e, st' m q, RK.gr g r⟩
      | slf k fs =>
        obtain ⟨a, dx, vs, m, em, e, q, l, r⟩ := q
        exact ⟨a, dx, vs, m, em, e, st' m q, l, RL.gr g r⟩
theorem wipe_wipe (σ : L2.St) (vs : List Nat) : wipe (wipe σ vs) vs = wipe σ vs := by
  apply List.ext_getElem?
  intro j
  by_cases hj : j ∈ vs
  · rw [wipe_at hj, wipe_at hj, wipe_length]
  · rw [wipe_out hj]
/-- a hidden thing changes -/
theorem RS.poke (r : RS c O ρ σ H pt) {l : Addr} {o : HO} (hl : l ∈ c.S) (lp : l ≠ c.p) (h0 : c.H0 l = none) : RS c O ρ σ (upd H l o) pt := by
  have lin : l ∈ hid c O := List.mem_append_left _ hl
  have g : Gr (Hd (hid c O) H) (Hd (hid c O) (upd H l o)) := fun a u ea => by
    obtain ⟨h1, h2⟩ := Hd.sees ea
    rw [Hd.out h1, upd_ne (fun z : a = l => h1 (z ▸ lin))]
    exact h2
  have lo : ∀ q ∈ O, q.2 ≠ l := fun q hq e => (r.new q hq).2.2.1 (e ▸ hl)
  refine ⟨by rw [upd_ne (Ne.symm lp)]; exact r.pot, fun a u n e => ?_, r.hp, fun a ha => ?_, fun q hq => ?_, r.nd, r.nf, r.len, r.ow, fun j s hj => ?_⟩
  · rw [upd_ne (fun z : a = l => by rw [z, h0] at e; cases e)]
    exact r.ext a u n e
  · by_cases z : a = l
    · exact ⟨o, by rw [z, upd_same]⟩
    · obtain ⟨u, e⟩ := r.hS a ha
      exact ⟨u, by rw [upd_ne z]; exact e⟩
  · obtain ⟨h1, h2, h3, u, h4⟩ := r.new q hq
    exact ⟨h1, h2, h3, u, by rw [upd_ne (lo q hq)]; exact h4⟩
  · have q := r.sl j s hj
    have st' : ∀ {a : Addr} {u : HO}, (j, a) ∈ O → H a = some u → upd H l o a = some u := fun m e => by rw [upd_ne (lo _ m)]; exact e
    cases s with
    | val d =>
      obtain ⟨v, e, r⟩ := q
      exact ⟨v, e, R.gr g r⟩
    | own ds =>
      obtain ⟨a, vs, m, e, q, r⟩ := q
      exact ⟨a, vs, m, e, st' m q, RL.gr g r⟩
    | ownd ds =>
      obtain ⟨a, vs, m, e, q, r⟩ := q
      exact ⟨a, vs, m, e, st' m q, RK.gr g r⟩
    | slf k fs =>
      obtain ⟨a, dx, vs, m, em, e, q, l, r⟩ := q
      exact ⟨a, dx, vs, m, em, e, st' m q, l, RL.gr g r⟩
def compL (tgf : D → Slots → Option Slots) (t : Slots → M Bool) (f : Slots → M D) (ρ : Slots) : List D → List D → M (List D)
  | [], acc => ret acc
  | d :: ds, acc => bnd (opt (tgf d ρ)) fun ρ1 => bnd (noX (t ρ1)) fun b => if b then bnd (noX (f ρ1)) fun y => (if acc.length < 100000 then compL tgf t f ρ ds (acc ++ [y]) else fail) else compL tgf t f ρ ds acc
def compE (fi : Slots → M (List D)) (vs : List Nat) (tgf : D → Slots → Option Slots) (t : Slots → M Bool) (f : Slots → M D) : Slots → M (List D) := fun ρ => bnd (fi ρ) fun items => if noOwn ρ vs then compL tgf t f (wipeD ρ vs) items [] else fail
abbrev W0 : WX := fun _ _ _ _ => False
def yesT : Slots → M Bool := fun _ => ret true
theorem pts_ex {ifs : List Expr} {ι : Type} {t : ι → TT} (h : ∀ i, PTs X ifs (t i)) : PTs X ifs (fun σ H Q => ∃ i, t i σ H Q) := ⟨fun pins s σ H Q I ⟨i, q⟩ => (h i).run pins s σ H Q I q⟩
theorem pe_ex {ι : Type} {t : ι → TE} (h : ∀ i, PE X e (t i)) : PE X e (fun σ H Q => ∃ i, t i σ H Q) := ⟨fun pins s σ H Q I ⟨i, q⟩ => (h i).run pins s σ H Q I q⟩
theorem pg_ex {ι : Type} {t : ι → TG} (h : ∀ i, PG X e (t i)) : PG X e (fun v σ H Q => ∃ i, t i v σ H Q) := ⟨fun pins s σ H v u Q I r ⟨i, q⟩ => (h i).run pins s σ H v u Q I r q⟩
theorem dts_nil : PTs X [] (dT c W yesT) := ⟨fun pins s σ H Q I ⟨O, ρ, pt, r, q⟩ => pts_nil.run pins s σ H Q I (Wg.here q r.pot)⟩
theorem dts_one {a : Expr} {t : Slots → M Bool} (h : PT X a (dT c W t)) : PTs X [a] (dT c W t) := pts_one h
/-- an outcome without exceptions, for a part that may raise none -/
theorem Wg.nox {α : Type} {W W' : WX} {P : α → Pot → Hp → Prop} {m : M α} {pt : Pot} (h : Wg c W σ H P (noX m pt)) : Wg c W' σ H P (m pt) := by
  unfold noX at h
  cases e : m pt with
  | ok a q => rw [e] at h; exact h
  | exc _ _ _ => rw [e] at h; exact h.elim
  | stuck => rw [e] at h; exact h.elim
theorem comp_use {vs : List Nat} {fi : Slots → M (List D)} {tgf : D → Slots → Option Slots} {t : Slots → M Bool} {f : Slots → M D} {Q : VK} (h : dL c W (compE fi vs tgf t f) σ H Q) :
    tLc (dI c W fi) (fun v σ H Q => ∃ l : Addr, dG { c with S := l :: c.S } vs tgf v σ H Q) (fun σ H Q => ∃ l : Addr, dT { c with S := l :: c.S } W0 t σ H Q) (fun σ H Q => ∃ l : Addr, dE { c with S := l :: c.S } W0 f σ H Q) vs σ H Q := by
  obtain ⟨O, ρ, pt, r, h⟩ := h
  refine ⟨O, ρ, pt, r, ?_⟩
  unfold compE DF.bnd at h
  cases e : fi ρ pt with
  | exc _ _ _ => rw [e] at h; exact h
  | stuck => rw [e] at h; exact h
  | ok items p1 =>
    rw [e] at h
    intro H1 s1 J yl l hl
    simp only at h
    by_cases hn : noOwn ρ vs = true
    · rw [if_pos hn] at h
      have hl0 : H l = none := by
        cases e2 : H l with
        | none => rfl
        | some o =>
          by_cases el : l = c.p
          · rw [el, s1.pot] at hl; cases hl
          · rw [s1.keep l o el e2] at hl; cases hl
      have r1 := r.stp s1
      have lh : l ∉ hid c O := r1.fresh hl
      have rb := r1.blk hn hl (.lst [])
      let c' : Cy := { c with S := l :: c.S }
      have hidE : ∀ a, a ∈ hid c' O ↔ a ∈ l :: hid c O := fun a => Iff.rfl
      refine ⟨fun i m H2 => m = items.length - i ∧ i ≤ items.length ∧ ∃ acc vacc p2, RS c' O (wipeD ρ vs) (wipe σ vs) H2 p2 ∧ Stp c.p H1 H2 p2 ∧ H2 l = some (.lst vacc) ∧ c.RL (Hd (hid c' O) H2) acc vacc ∧
        Wg c W σ H (fun ds _ H' => ∀ l vs, H l = none → H' l = some (.lst vs) → c.RL (Hd (l :: hid c O) H') ds vs → Q (.ref l) H') (compL tgf t f (wipeD ρ vs) (items.drop i) acc p2),
        ⟨_, rfl, Nat.zero_le _, [], [], p1, rb, Stp.new s1.pot hl, upd_same, RL.nil, h⟩, ?_⟩
      rintro i m H2 ⟨rfl, hi, acc, vacc, p2, rs, st, hlv, rl, q⟩
      obtain ⟨y1, y2⟩ := yl H2 fun a o ha ea => st.keep a o (fun z => ha (z ▸ r.pm)) ea
      by_cases hlt : i < items.length
      · refine .inr ?_
        have ed : items[i]? = some items[i] := List.getElem?_eq_getElem hlt
        have edr : items.drop i = items[i] :: items.drop (i + 1) := List.drop_eq_getElem_cons hlt
        rw [edr] at q
        simp only [compL] at q
        obtain ⟨go, yy⟩ := y1 i _ ed
        refine ⟨go, fun H3 => ∃ acc vacc p3, RS c' O (wipeD ρ vs) (wipe σ vs) H3 p3 ∧ Stp c.p H1 H3 p3 ∧ H3 l = some (.lst vacc) ∧ c.RL (Hd (hid c' O) H3) acc vacc ∧
          Wg c W σ H (fun ds _ H' => ∀ l vs, H l = none → H' l = some (.lst vs) → c.RL (Hd (l :: hid c O) H') ds vs → Q (.ref l) H') (compL tgf t f (wipeD ρ vs) (items.drop (i + 1)) acc p3),
          fun H3 ⟨acc, vacc, p3, a1, a2, a3, a4, a5⟩ => ⟨items.length - (i + 1), by omega, rfl, hlt, acc, vacc, p3, a1, a2, a3, a4, a5⟩, fun x H3 y => ?_⟩
        obtain ⟨gr, rx⟩ := yy x H3 y
        have st3 : Stp c.p H2 H3 p2 := ⟨fun a o _ ea => gr a o ea, gr _ _ rs.pot⟩
        have rs3 : RS c' O (wipeD ρ vs) (wipe σ vs) H3 p2 := rs.stp st3
        have gro : Gr (Hd (hid c O) H1) (Hd (hid c' O) H2) := fun a o ea => by
          obtain ⟨h1, h2⟩ := Hd.sees ea
          have na : a ≠ l := ne_of_none h2 hl
          rw [Hd.out (fun z => (List.mem_cons.mp ((hidE a).mp z)).elim na h1)]
          exact st.keep a o (fun z => h1 (z ▸ r.pm)) h2
        have rx := rx (hid c' O) gro fun a ha => rs.hidden ha
        cases et : tgf items[i] (wipeD ρ vs) with
        | none =>
          unfold DF.bnd at q
          rw [et] at q
          exact q.elim
        | some ρ1 =>
          rw [et] at q
          have q : Wg c W σ H (fun ds _ H' => ∀ l vs, H l = none → H' l = some (.lst vs) → c.RL (Hd (l :: hid c O) H') ds vs → Q (.ref l) H') (bnd (noX (t ρ1)) (fun b => if b then bnd (noX (f ρ1)) fun y => (if acc.length < 100000 then compL tgf t f (wipeD ρ vs) (items.drop (i + 1)) (acc ++ [y]) else fail) else compL tgf t f (wipeD ρ vs) (items.drop (i + 1)) acc) p2) := q
          refine ⟨l, O, wipeD ρ vs, p2, items[i], ρ1, rs3, rx, et, fun O1 σ1 rs1 mv1 w1 k1 => ⟨w1.trans (wipe_wipe σ vs), l, O1, ρ1, p2, rs1, ?_⟩⟩
          unfold DF.bnd noX at q
          cases eb : t ρ1 p2 with
          | exc _ _ _ => rw [eb] at q; exact q.elim
          | stuck => rw [eb] at q; exact q.elim
          | ok b p3 =>
            rw [eb] at q
            intro H4 st4
            have stA : Stp c.p H1 H4 p3 := (st.trans st3).trans st4
            cases b with
            | false =>
              refine ⟨acc, vacc, p3, rs3.stp st4, stA, ?_, ?_, q⟩
              · exact st4.keep _ _ (fun z => lh (z ▸ r.pm)) (gr _ _ hlv)
              · exact RL.gr (st4.gr rs.pm) (RL.gr (st3.gr rs.pm) rl)
            | true =>
              refine ⟨l, O1, ρ1, p3, rs1.stp st4, ?_⟩
              simp only [if_true] at q
              cases ef : f ρ1 p3 with
              | exc _ _ _ => rw [ef] at q; exact q.elim
              | stuck => rw [ef] at q; exact q.elim
              | ok yd p4 =>
                rw [ef] at q
                intro H5 st5 yv ry
                simp only at q
                by_cases ha : acc.length < 100000
                · rw [if_pos ha] at q
                  have st45 : Stp c.p H3 H5 p4 := st4.trans st5
                  have rs5 : RS c' O (wipeD ρ vs) (wipe σ vs) H5 p4 := rs3.stp st45
                  have hl5 : H5 l = some (.lst vacc) := st45.keep _ _ (fun z => lh (z ▸ r.pm)) (gr _ _ hlv)
                  have rl5 : c.RL (Hd (hid c' O) H5) acc vacc := RL.gr (st45.gr rs.pm) (RL.gr (st3.gr rs.pm) rl)
                  have sub : ∀ a ∈ hid c' O, a ∈ hid c' O1 := fun a ha => by
                    rcases List.mem_append.mp ha with ha | ha
                    · exact List.mem_append_left _ ha
                    · obtain ⟨z, hz, ez⟩ := List.mem_map.mp ha
                      exact List.mem_append_right _ (List.mem_map.mpr ⟨z, k1 z hz (own_out r hn z hz), ez⟩)
                  have ry5 : c.R (Hd (hid c' O) H5) yd yv := R.gr (Hd.sub sub) ry
                  have lin : l ∈ hid c' O := List.mem_cons_self
                  have grU : Gr (Hd (hid c' O) H5) (Hd (hid c' O) (upd H5 l (.lst (vacc ++ [yv])))) := fun a o ea => by
                    obtain ⟨h1, h2⟩ := Hd.sees ea
                    rw [Hd.out h1, upd_ne (fun z : a = l => h1 (z ▸ lin))]
                    exact h2
                  have lp : c.p ≠ l := fun z => lh (z ▸ r.pm)
                  have l0 : c.H0 l = none := by
                    cases e0 : c.H0 l with
                    | none => rfl
                    | some o =>
                      rw [r.ext l o (Ne.symm lp) e0] at hl0
                      cases hl0
                  refine ⟨vacc, hl5, Nat.lt_of_lt_of_le (by rw [← RL.len rl]; exact ha) (by decide), acc ++ [yd], vacc ++ [yv], p4, rs5.poke List.mem_cons_self (Ne.symm lp) l0, ?_, upd_same, RL.app (RL.gr grU rl5) (RL.one (R.gr grU ry5)), q⟩
                  exact ⟨fun a o n ea => by
                    rw [upd_ne (ne_of_none ea hl)]
                    exact (st.trans (st3.trans st45)).keep a o n ea, by rw [upd_ne lp]; exact st45.pot⟩
                · rw [if_neg ha] at q
                  exact q.elim
      · have ei : i = items.length := by omega
        subst ei
        rw [List.drop_length] at q
        refine .inl ⟨y2 _ (Nat.le_refl _), ?_⟩
        exact q H2 (s1.trans st) l vacc hl0 hlv rl
    · rw [if_neg hn] at h
      exact h.elim
end
end DF

set_option Elab.async false
set_option linter.all false
set_option maxRecDepth 100000
set_option maxHeartbeats 4000000
namespace DF
open PySem L2
section
variable {X : Cx} {c : Cy} {W : WX} {σ : L2.St} {H H1 H' : Hp} {O : List (Nat × Addr)} {ρ : Slots} {pt pt' : Pot} {e e2 iter tg elt a b o : Expr} {p pos apos cpos : Pos}
theorem ds_asg_of {i : Nat} {st : Stmt} {f : Slots → M D} (h : PS X st (tAsg (dE c W f) (gName i))) : PS X st (dS c W (asgS i f)) := by
  refine ps_imp h fun E σ H ⟨O, ρ, pt, r, h⟩ => ⟨O, ρ, pt, r, (WO.bnd r h).imp fun d p1 H1 _ s1 q v rv => ?_⟩
  by_cases hl : i < ρ.length
  · rw [if_pos hl] at q
    exact q _ _ _ ((r.stp s1).put i (by rw [← r.len]; exact hl) rv) Mv.fewer
  · rw [if_neg hl] at q
    exact q.elim
theorem ds_asgL_of {i : Nat} {st : Stmt} {f : Slots → M (List D)} (h : PS X st (tAsg (dL c W f) (gName i))) : PS X st (dS c W (asgL i f)) := by
  refine ps_imp h fun E σ H ⟨O, ρ, pt, r, h⟩ => ⟨O, ρ, pt, r, ?_⟩
  unfold asgL DF.bnd at h
  cases e : f ρ pt with
  | ok ds p1 =>
    rw [e] at h
    intro H1 s1 l vs hl h1 rl
    simp only at h
    by_cases hz : i < ρ.length
    · rw [if_pos hz] at h
      obtain ⟨rs, mv⟩ := r.putOwn s1 i (by rw [← r.len]; exact hz) hl h1 rl
      exact h _ _ _ rs mv
    · rw [if_neg hz] at h
      exact h.elim
  | exc _ _ _ =>
    rw [e] at h
    exact fun cls dd H' f x => h cls dd σ H' f x
  | stuck =>
    rw [e] at h
    exact h
theorem tAsg_imp {st : Stmt} {t t' : TE} {i : Nat} (h : PS X st (tAsg t (gName i))) (k : ∀ σ H Q, t' σ H Q → t σ H Q) : PS X st (tAsg t' (gName i)) := ps_imp h fun E σ H q => k σ H _ q
/-- a new list, kept -/
theorem box_use {f : Slots → M (List D)} {Q : VK} (h : dE c W (boxE f) σ H Q) : dL c W f σ H Q := by
  obtain ⟨O, ρ, pt, r, q⟩ := h
  refine ⟨O, ρ, pt, r, (Wg.bnd q).imp fun ds p1 H1 _ s1 q l vs hl h1 rl => ?_⟩
  refine Wg.here q s1.pot _ ?_
  simp only [Cy.R, R]
  refine ⟨l, vs, rfl, ?_, RL.gr (Hd.sub fun a h => List.mem_cons_of_mem _ h) rl⟩
  rw [Hd.out (r.fresh hl)]
  exact h1
/-! ### comprehensions -/
theorem dl_lc {ifs : List Expr} {scope : Scope} {own : List (Str × Nat)} {fi : Slots → M (List D)} {tgf : D → Slots → Option Slots} {t : Slots → M Bool} {f : Slots → M D} (hc : X.calm = true) (hN : X.N.Nodup) (hi : PI X tg iter (dI c W fi)) (ok : BlkOk X.N X.env.scope scope own)
    (hg : ∀ (l : Addr) (s : Shared) (H : Hp) (C : Addr) (cl : List (Str × Addr)) (fp : List Addr), PG (X.blk s H scope (compEnvC scope cl C X.env) fp) tg (dG { c with S := l :: c.S } (own.map (·.2)) tgf))
    (ht : ∀ (l : Addr) (s : Shared) (H : Hp) (C : Addr) (cl : List (Str × Addr)) (fp : List Addr), PTs (X.blk s H scope (compEnvC scope cl C X.env) fp) ifs (dT { c with S := l :: c.S } W0 t))
    (he : ∀ (l : Addr) (s : Shared) (H : Hp) (C : Addr) (cl : List (Str × Addr)) (fp : List Addr), PE (X.blk s H scope (compEnvC scope cl C X.env) fp) elt (dE { c with S := l :: c.S } W0 f))
    (hs : ∀ x, foldedSetIterable iter X.env x = pure x := by intro _; rfl) : PE X (.ListComp elt [⟨tg, iter, ifs, 0⟩] scope pos) (dL c W (compE fi (own.map (·.2)) tgf t f)) :=
  pe_imp (pe_lc hc hN hi ok (fun s H C cl fp => pg_ex fun l => hg l s H C cl fp) (fun s H C cl fp => pts_ex fun l => ht l s H C cl fp) (fun s H C cl fp => pe_ex fun l => he l s H C cl fp) hs) fun σ H Q h => comp_use h
theorem ps_lc {i : Nat} {y : Str} {py spos : Pos} {ifs : List Expr} {scope : Scope} {own : List (Str × Nat)} {fi : Slots → M (List D)} {tgf : D → Slots → Option Slots} {t : Slots → M Bool} {f : Slots → M D} (hc : X.calm = true) (hN : X.N.Nodup) (hy : X.N[i]? = some y) (hyl : X.env.scope.names.lookup y = some .local)
    (hsw : swapsWith (.ListComp elt [⟨tg, iter, ifs, 0⟩] scope pos) (some (.Name y py)) spos.line X.env = pure true) (hi : PI X tg iter (dI c W fi)) (ok : BlkOk X.N X.env.scope scope own)
    (hg : ∀ (l : Addr) (s : Shared) (H : Hp) (C : Addr) (cl : List (Str × Addr)) (fp : List Addr), PG (X.blk s H scope (compEnvC scope cl C X.env) fp) tg (dG { c with S := l :: c.S } (own.map (·.2)) tgf))
    (ht : ∀ (l : Addr) (s : Shared) (H : Hp) (C : Addr) (cl : List (Str × Addr)) (fp : List Addr), PTs (X.blk s H scope (compEnvC scope cl C X.env) fp) ifs (dT { c with S := l :: c.S } W0 t))
    (he : ∀ (l : Addr) (s : Shared) (H : Hp) (C : Addr) (cl : List (Str × Addr)) (fp : List Addr), PE (X.blk s H scope (compEnvC scope cl C X.env) fp) elt (dE { c with S := l :: c.S } W0 f))
    (hs : ∀ x, foldedSetIterable iter X.env x = pure x := by intro _; rfl) : PS X (.Assign [.Name y py] (.ListComp elt [⟨tg, iter, ifs, 0⟩] scope pos) spos) (tAsg (dL c W (compE fi (own.map (·.2)) tgf t f)) (gName i)) :=
  tAsg_imp (ps_setLc hc hN hy hyl hsw hi ok (fun s H C cl fp => pg_ex fun l => hg l s H C cl fp) (fun s H C cl fp => pts_ex fun l => ht l s H C cl fp) (fun s H C cl fp => pe_ex fun l => he l s H C cl fp) hs) fun σ H Q h => comp_use h
theorem ds_box {st : Stmt} {i : Nat} {f : Slots → M (List D)} (h : PS X st (tAsg (dL c W f) (gName i))) : PS X st (dS c W (asgS i (boxE f))) := ds_asg_of (tAsg_imp h fun σ H Q q => box_use q)

/-! ### subscripts -/
def ixD : D → D → Option D
  | .lst ds, .int i => atI ds i
  | .tup ds, .int i => atI ds i
  | .str x, .int i => if x.length ≤ 1000000 then (atI x.cps.toList i).map fun n => .str ⟨#[n]⟩ else none
  | _, _ => none
def ixM : D → D → M D := fun x y pt => match x, y with
  | .pot, .int 0 => .ok (.int pt.1) pt
  | .pot, .int 1 => .ok (.int pt.2) pt
  | x, y => opt (ixD x y) pt
theorem ixr_or {r r' : R2} (h : IxR X r) (h' : IxR X r') : IxR X (fun x y H Q => r x y H Q ∨ r' x y H Q) := by
  intro va sl pins s σ H x y v u Q I rx ry q hs
  rcases q with q | q
  · exact h va sl pins s σ H x y v u Q I rx ry q hs
  · exact h' va sl pins s σ H x y v u Q I rx ry q hs
theorem atI_rl {K : PySem.W.Frag} {T : Tb} {p : Addr} {ds : List D} {vs : List V} {i : Int} {d : D} (h : RL K T p H ds vs) (e : atI ds i = some d) : ∃ v, atI vs i = some v ∧ R K T p H d v := by
  unfold atI at e ⊢
  rw [← RL.len h]
  cases en : ixN ds.length i with
  | none => rw [en] at e; cases e
  | some j =>
    rw [en] at e
    simp only [Option.bind_some] at e ⊢
    exact RL.getD h e
theorem pot_read (r : RS c O ρ σ H pt) {v : V} (h : RB c O H .pot v) : v = .ref c.p := by
  rcases h with h | ⟨_, _, _, _, e, _⟩ | ⟨_, _, _, _, e, _⟩
  · simpa [Cy.R, R] using h
  · cases e
  · cases e
theorem ixM_ok {x y : D} {v w : V} {Q : VK} (hK : c.K = X.K) (rs : RS c O ρ σ H pt) (rx : RB c O H x v) (ry : RB c O H y w) (q : Wg c W σ H (fun d _ H' => ∀ v, c.R (Hd (hid c O) H') d v → Q v H') (ixM x y pt)) :
    rIxL X.K v w H Q ∨ rIxT X.K v w H Q ∨ rIxS v w H Q := by
  have gen : Wg c W σ H (fun d _ H' => ∀ v, c.R (Hd (hid c O) H') d v → Q v H') (opt (ixD x y) pt) → rIxL X.K v w H Q ∨ rIxT X.K v w H Q ∨ rIxS v w H Q := fun q0 => by
    obtain ⟨d, e, qd⟩ := Wg.opt q0 rs.pot
    clear q0 q
    unfold ixD at e
    split at e
    · obtain ⟨a, vs, rfl, ha, rl⟩ := rx.lst
      rw [ry.int]
      obtain ⟨v, ev, rv⟩ := atI_rl rl e
      exact .inl ⟨a, vs, _, v, rfl, rfl, .inl (.inl ha), ev, qd v rv⟩
    · obtain ⟨a, vs, rfl, ha, rl⟩ := rx.tup
      rw [ry.int]
      obtain ⟨v, ev, rv⟩ := atI_rl rl e
      exact .inr (.inl ⟨a, vs, _, v, rfl, rfl, by rw [← hK]; exact ha, ev, qd v rv⟩)
    · split at e
      · rename_i i hz
        rw [rx.str, ry.int]
        cases ea : atI (Str.cps ‹Str›).toList ‹Int› with
        | none => rw [ea] at e; cases e
        | some n =>
          rw [ea] at e
          cases e
          exact .inr (.inr ⟨_, _, n, rfl, rfl, Nat.le_trans hz (by decide), ea, qd _ (by simp [Cy.R, R])⟩)
      · cases e
    · cases e
  unfold ixM at q
  split at q
  · rw [pot_read rs rx, ry.int]
    exact .inl ⟨c.p, _, _, _, rfl, rfl, .inl (.inl rs.pot), rfl, Wg.here q rs.pot _ (by simp [Cy.R, R])⟩
  · rw [pot_read rs rx, ry.int]
    exact .inl ⟨c.p, _, _, _, rfl, rfl, .inl (.inl rs.pot), rfl, Wg.here q rs.pot _ (by simp [Cy.R, R])⟩
  · exact gen q
theorem de_ix {fa fb : Slots → M D} (ha : PE X a (dB c W fa)) (hb : PE X b (dB c W fb)) (hs : PlainIx b := by intro _ _; rfl) (hK : c.K = X.K := by rfl) : PE X (.Subscript a b pos) (dE c W (binE ixM fa fb)) := by
  refine pe_imp (pe_ix (ixr_or ix_list (ixr_or ix_tup ix_str)) ha hb hs) fun σ H Q ⟨O, ρ, pt, rs, q⟩ => ?_
  refine ⟨O, ρ, pt, rs, (Wg.bnd q).imp fun x p1 H1 _ s1 q v rv => ?_⟩
  have rs1 := rs.stp s1
  refine ⟨O, ρ, p1, rs1, (Wg.bnd q).imp fun y p2 H2 _ s2 q w rw => ?_⟩
  exact ixM_ok hK (rs1.stp s2) (rv.stp rs1 s2) rw q
/-! ### slices -/
def cutD (ds : List D) (lo hi : Option Int) : List D := (ds.drop (HT.sIx ds.length 0 lo)).take (HT.sIx ds.length ds.length hi - HT.sIx ds.length 0 lo)
theorem cut_rl {K : PySem.W.Frag} {T : Tb} {p : Addr} {ds : List D} {vs : List V} {lo hi : Option Int} (h : RL K T p H ds vs) : RL K T p H (cutD ds lo hi) (cutV vs lo hi) := by
  unfold cutD cutV
  rw [RL.len h]
  exact RL.take _ (RL.drop _ h)
def dO (c : Cy) (W : WX) (f : Slots → M (Option Int)) : TO := fun σ H Q => ∃ O ρ pt, RS c O ρ σ H pt ∧ Wg c W σ H (fun d _ H' => Q d H') (f ρ pt)
def noO : Slots → M (Option Int) := fun _ => ret none
def soO (f : Slots → M D) : Slots → M (Option Int) := fun ρ => bnd (f ρ) fun d => match d with
  | .int i => ret (some i)
  | _ => fail
theorem do_none : PO X none (dO c W noO) := ⟨fun pins s σ H Q I ⟨O, ρ, pt, r, q⟩ => po_none.run pins s σ H Q I (Wg.here q r.pot)⟩
theorem do_some {f : Slots → M D} (h : PE X e (dB c W f)) : PO X (some e) (dO c W (soO f)) := ⟨fun pins s σ H Q I ⟨O, ρ, pt, r, q⟩ => (po_some h).run pins s σ H Q I ⟨O, ρ, pt, r, (Wg.bnd q).imp fun d p1 H1 _ s1 q v rv => by
  cases d with
  | int i => exact ⟨i, rv.int, Wg.here q s1.pot⟩
  | _ => exact q.elim⟩⟩
theorem sl_use {r : V → Option Int → Option Int → Hp → VK → Prop} {fa : Slots → M D} {fl fh : Slots → M (Option Int)} {Q : VK} {P : D → Option Int → Option Int → M D}
    (ok : ∀ (O : List (Nat × Addr)) (ρ : Slots) (pt : Pot) (H : Hp) (Q : VK) (x : D) (lo hi : Option Int) (v : V), RS c O ρ σ H pt → RB c O H x v → Wg c W σ H (fun d _ H' => ∀ v, c.R (Hd (hid c O) H') d v → Q v H') (P x lo hi pt) → r v lo hi H Q)
    (h : dE c W (fun ρ => bnd (fa ρ) fun x => bnd (fl ρ) fun lo => bnd (fh ρ) fun hi => P x lo hi) σ H Q) : tSl r (dB c W fa) (dO c W fl) (dO c W fh) σ H Q := by
  obtain ⟨O, ρ, pt, rs, q⟩ := h
  refine ⟨O, ρ, pt, rs, (Wg.bnd q).imp fun x p1 H1 _ s1 q v rv => ?_⟩
  have rs1 := rs.stp s1
  refine ⟨O, ρ, p1, rs1, (Wg.bnd q).imp fun lo p2 H2 _ s2 q => ?_⟩
  have rs2 := rs1.stp s2
  refine ⟨O, ρ, p2, rs2, (Wg.bnd q).imp fun hi p3 H3 _ s3 q => ?_⟩
  exact ok O ρ p3 H3 Q x lo hi v (rs2.stp s3) ((rv.stp rs1 s2).stp rs2 s3) q
def slM : D → Option Int → Option Int → M D := fun x lo hi => match x with
  | .lst ds => ret (.lst (cutD ds lo hi))
  | .tup ds => if HT.sIx ds.length 0 lo = 0 ∧ HT.sIx ds.length ds.length hi = ds.length then fail else ret (.tup (cutD ds lo hi))
  | .str z => if z.length ≤ 1000000 then ret (.str (cutS z lo hi)) else fail
  | _ => fail
def slE (fa : Slots → M D) (fl fh : Slots → M (Option Int)) : Slots → M D := fun ρ => bnd (fa ρ) fun x => bnd (fl ρ) fun lo => bnd (fh ρ) fun hi => slM x lo hi
theorem de_slice {lo hi : Option Expr} {p2 : Pos} {fa : Slots → M D} {fl fh : Slots → M (Option Int)} (ha : PE X a (dB c W fa)) (hl : PO X lo (dO c W fl)) (hh : PO X hi (dO c W fh)) (hK : c.K = X.K := by rfl) : PE X (.Subscript a (.Slice lo hi none p2) pos) (dE c W (slE fa fl fh)) := by
  refine pe_imp (pe_slice (sl_list.or (sl_tup.or sl_str)) ha hl hh) fun σ H Q h => sl_use (P := slM) (fun O ρ pt H Q x lo hi v rs rx q => ?_) h
  cases x with
  | lst ds =>
    simp only [slM] at q
    obtain ⟨a, vs, rfl, ha, rl⟩ := rx.lst
    exact .inl ⟨a, vs, rfl, .inl (.inl ha), fun l hl => q _ (Stp.new rs.pot hl) _ (mk_lst rs hl (cut_rl rl))⟩
  | tup ds =>
    simp only [slM] at q
    obtain ⟨a, vs, rfl, ha, rl⟩ := rx.tup
    split at q
    · exact q.elim
    · rename_i hz
      exact .inr (.inl ⟨a, vs, rfl, by rw [← hK]; exact ha, by rw [← RL.len rl]; exact hz, fun l hl => q _ (Stp.new rs.pot hl) _ (mk_tup rs hl (cut_rl rl))⟩)
  | str z =>
    simp only [slM] at q
    split at q
    · rename_i hz
      rw [rx.str]
      exact .inr (.inr ⟨z, rfl, Nat.le_trans hz (by decide), Wg.here q rs.pot _ (by simp [Cy.R, R])⟩)
    · exact q.elim
  | _ => exact q.elim
/-! ### lists that grow -/
def ownOf : Option (Option SV) → Option (List D)
  | some (some (.own ds)) => some ds
  | _ => none
theorem ownOf_eq {x : Option (Option SV)} {ds : List D} (h : ownOf x = some ds) : x = some (some (.own ds)) := by
  unfold ownOf at h
  split at h
  · cases h; rfl
  · cases h
def growM (i : Nat) (ρ : Slots) (ds es : List D) : M Out := if ds.length + es.length ≤ 100000 then ret (.nx (ρ.set i (some (.own (ds ++ es))))) else fail
def appS (i : Nat) (f : Slots → M D) : Slots → M Out := fun ρ => bnd (opt (ownOf ρ[i]?)) fun ds => bnd (f ρ) fun d => growM i ρ ds [d]
def lstOf : D → Option (List D)
  | .lst ds => some ds
  | _ => none
def extS (i : Nat) (f : Slots → M D) : Slots → M Out := fun ρ => bnd (opt (ownOf ρ[i]?)) fun ds => bnd (f ρ) fun d => bnd (opt (lstOf d)) fun es => growM i ρ ds es
theorem grow_ok {E : Ends} {i : Nat} {ds es : List D} {a : Addr} {vs us : List V} (r : RS c O ρ σ H pt) (eo : ρ[i]? = some (some (.own ds))) (m : (i, a) ∈ O) (ev : σ[i]? = some (some (.ref a))) (ha : H a = some (.lst vs)) (rl : c.RL (Hd (hid c O) H) ds vs) (rn : c.RL (Hd (hid c O) H) es us) (h : WO c W E O H (growM i ρ ds es pt)) :
    vs.length + us.length ≤ 100000 ∧ E.nx σ (upd H a (.lst (vs ++ us))) := by
  unfold growM at h
  split at h
  · rename_i hz
    have l1 := RL.len rl
    have l2 := RL.len rn
    refine ⟨by omega, ?_⟩
    have hi : i < ρ.length := (List.getElem?_eq_some_iff.mp eo).1
    obtain ⟨rs, mv⟩ := r.mut (s' := .own (ds ++ es)) m (o := .lst (vs ++ us)) (fun gr => ⟨a, vs ++ us, m, ev, upd_same, RL.app (RL.gr gr rl) (RL.gr gr rn)⟩) hi
    exact h _ _ _ rs mv
  · exact h.elim
theorem ds_app {i : Nat} {x : Str} {f : Slots → M D} {spos : Pos} (h : PE X e (dE c W f)) (hN : X.N[i]? = some x := by rfl) (hv : Vis X.env.scope x := by first | exact Or.inl rfl | exact Or.inr (Or.inl rfl)) (hd : (x == ("__debug__" : Str)) = false := by decide) (hcd : (x == ("__classdict__" : Str)) = false := by decide)
    (hst : starEach [e] X.env = (false, eval e X.env) :: starEach [] X.env := by rfl) (hline : (apos.endLine == cpos.line) = true := by rfl) (hs : swapsWith (.Call (.Attribute (.Name x p) "append" apos) [e] [] cpos) none spos.line X.env = pure false := by rfl)
    (hfew : ((backTo cpos (starEach [e] X.env)).all (fun x => !x.1) && (backToKw cpos (keywordEach [] X.env)).all (fun x => x.1.isSome) && decide ([e].length + ([] : List Keyword).length + (if ([] : List Keyword).isEmpty then 0 else 1) < 30)) = true := by rfl)
    (hbase : attributeBase (.Name x p) "append" X.env (eval (.Name x p) X.env) = eval (.Name x p) X.env := by rfl) (hplain : (backTo cpos (starEach [] X.env)).any (·.1) = false := by rfl) :
    PS X (.Expr (.Call (.Attribute (.Name x p) "append" apos) [e] [] cpos) spos) (dS c W (appS i f)) := by
  refine ps_imp (ps_expr (pe_bm PySem.F.plainAttrs_list PySem.F.slot_list_append PySem.F.type_list_append mt_append (pe_var (i := i) hN hv hd hcd) (pa_cons h pa_nil hst) hbase hfew hline hst hplain) hs) fun E σ H ⟨O, ρ, pt, r, h⟩ => ?_
  obtain ⟨ds, eo, h⟩ := Wg.opt (WO.bnd r h) r.pot
  replace eo := ownOf_eq eo
  obtain ⟨a, vs, m, ev, ha, rl⟩ := r.sl i _ eo
  refine ⟨_, ev, .inl ⟨rfl, vs, .inl (.inl ha)⟩, O, ρ, pt, r, (WO.bnd r h).imp fun d p1 H1 _ s1 q v rv => ?_⟩
  have r1 := r.stp s1
  obtain ⟨a', vs, m', ev', ha, rl⟩ := r1.sl i _ eo
  rw [ev] at ev'
  cases ev'
  obtain ⟨hz, q⟩ := grow_ok r1 eo m' ev ha rl (RL.one rv) q
  exact ⟨a, vs, v, rfl, rfl, ha, Nat.lt_of_lt_of_le (Nat.lt_of_lt_of_le (Nat.lt_succ_self _) hz) (by decide), q⟩
theorem ds_ext {i : Nat} {x : Str} {f : Slots → M D} {spos : Pos} (h : PE X e (dE c W f)) (hN : X.N[i]? = some x := by rfl) (hv : Vis X.env.scope x := by first | exact Or.inl rfl | exact Or.inr (Or.inl rfl)) (hd : (x == ("__debug__" : Str)) = false := by decide) (hcd : (x == ("__classdict__" : Str)) = false := by decide)
    (hst : starEach [e] X.env = (false, eval e X.env) :: starEach [] X.env := by rfl) (hline : (apos.endLine == cpos.line) = true := by rfl) (hs : swapsWith (.Call (.Attribute (.Name x p) "extend" apos) [e] [] cpos) none spos.line X.env = pure false := by rfl)
    (hfew : ((backTo cpos (starEach [e] X.env)).all (fun x => !x.1) && (backToKw cpos (keywordEach [] X.env)).all (fun x => x.1.isSome) && decide ([e].length + ([] : List Keyword).length + (if ([] : List Keyword).isEmpty then 0 else 1) < 30)) = true := by rfl)
    (hbase : attributeBase (.Name x p) "extend" X.env (eval (.Name x p) X.env) = eval (.Name x p) X.env := by rfl) (hplain : (backTo cpos (starEach [] X.env)).any (·.1) = false := by rfl) :
    PS X (.Expr (.Call (.Attribute (.Name x p) "extend" apos) [e] [] cpos) spos) (dS c W (extS i f)) := by
  refine ps_imp (ps_expr (pe_bm PySem.F.plainAttrs_list PySem.F.slot_list_extend PySem.F.type_list_extend mt_extend (pe_var (i := i) hN hv hd hcd) (pa_cons h pa_nil hst) hbase hfew hline hst hplain) hs) fun E σ H ⟨O, ρ, pt, r, h⟩ => ?_
  obtain ⟨ds, eo, h⟩ := Wg.opt (WO.bnd r h) r.pot
  replace eo := ownOf_eq eo
  obtain ⟨a, vs, m, ev, ha, rl⟩ := r.sl i _ eo
  refine ⟨_, ev, .inl ⟨rfl, vs, .inl (.inl ha)⟩, O, ρ, pt, r, (WO.bnd r h).imp fun d p1 H1 _ s1 q v rv => ?_⟩
  have r1 := r.stp s1
  obtain ⟨a', vs, m', ev', ha, rl⟩ := r1.sl i _ eo
  rw [ev] at ev'
  cases ev'
  obtain ⟨es, ee, q⟩ := Wg.opt (WO.bnd r1 q) r1.pot
  cases d with
  | lst gs =>
    cases ee
    simp only [Cy.R, R] at rv
    obtain ⟨b, us, rfl, hb, rn⟩ := rv
    obtain ⟨hz, q⟩ := grow_ok r1 eo m' ev ha rl rn q
    exact ⟨a, b, vs, us, rfl, rfl, ha, (Hd.sees hb).2, Nat.le_trans hz (by decide), q⟩
  | _ => cases ee
end
end DF

set_option Elab.async false
set_option linter.all false
set_option maxRecDepth 100000
set_option maxHeartbeats 4000000
namespace DF
open PySem L2
section
variable {X : Cx} {c : Cy} {W : WX} {σ : L2.St} {H H1 H' : Hp} {O : List (Nat × Addr)} {ρ : Slots} {pt pt' : Pot} {e e2 iter tg elt a b o : Expr} {p pos apos cpos : Pos} {k n kc nC : Nat} {f C : Addr} {fd : FuncData} {ps : List Str} {fm : List D → M D}
/-! ### texts -/
def strsOf : List D → Option (List Str)
  | [] => some []
  | .str x :: ds => (strsOf ds).map (x :: ·)
  | _ => none
theorem strs_rl {K : PySem.W.Frag} {T : Tb} {p : Addr} : ∀ {ds : List D} {ys : List Str} {vs : List V}, strsOf ds = some ys → RL K T p H ds vs → vs = ys.map V.str
  | [], ys, vs, e, h => by
    cases e
    simpa [RL] using h
  | d :: ds, ys, vs, e, h => by
    simp only [RL] at h
    obtain ⟨v, ws, rfl, r, rl⟩ := h
    cases d with
    | str x =>
      simp only [strsOf] at e
      cases e1 : strsOf ds with
      | none => rw [e1] at e; cases e
      | some zs =>
        rw [e1] at e
        cases e
        rw [strs_rl e1 rl]
        simp only [R] at r
        rw [r]
        rfl
    | _ => simp [strsOf] at e
def strOf1 : D → Option Str
  | .str x => some x
  | _ => none
theorem strOf1_eq {d : D} {x : Str} (h : strOf1 d = some x) : d = .str x := by
  unfold strOf1 at h
  split at h
  · cases h; rfl
  · cases h
def joinF (a : Str) (y : D) : Option D := (seqOf [y]).bind fun ds => (strsOf ds).bind fun ys => if (ys.map (·.length)).sum + ys.length * a.length ≤ 1000000 then some (.str (Txt.join a ys)) else none
def joinE (fa fb : Slots → M D) : Slots → M D := fun ρ => bnd (fa ρ) fun x => bnd (opt (strOf1 x)) fun a => bnd (fb ρ) fun y => opt (joinF a y)
theorem de_join {fa fb : Slots → M D} (ha : PE X o (dB c W fa)) (hb : PE X e (dB c W fb)) (hK : c.K = X.K := by rfl) (hs : starEach [e] X.env = [(false, eval e X.env)] := by rfl) (hbase : attributeBase o "join" X.env (eval o X.env) = eval o X.env := by rfl) (hline : (apos.endLine == pos.line) = true := by rfl) :
    PE X (.Call (.Attribute o "join" apos) [e] [] pos) (dE c W (joinE fa fb)) := by
  refine pe_imp (pe_join ha hb hs hbase hline) fun σ H Q ⟨O, ρ, pt, rs, q⟩ => ⟨O, ρ, pt, rs, ?_⟩
  refine (Wg.bnd q).imp fun x p1 H1 ex s1 q v rv => ?_
  have rs1 := rs.stp s1
  obtain ⟨z, ez, q⟩ := Wg.opt (Wg.bnd q) s1.pot
  rw [strOf1_eq ez] at rv
  rw [rv.str]
  refine ⟨⟨z, rfl⟩, O, ρ, p1, rs1, (Wg.bnd q).imp fun y p2 H2 _ s2 q w rw => ?_⟩
  obtain ⟨d, ed, q⟩ := Wg.opt q s2.pot
  unfold joinF at ed
  cases es : seqOf [y] with
  | none => rw [es] at ed; cases ed
  | some ds =>
    rw [es] at ed
    simp only [Option.bind_some] at ed
    cases et : strsOf ds with
    | none => rw [et] at ed; cases ed
    | some ys =>
      rw [et] at ed
      simp only [Option.bind_some] at ed
      split at ed
      · rename_i hz
        cases ed
        obtain ⟨a, ws, e1, rl, h⟩ := seq_of (c := c) (O := O) (H := H2) (xs := [y]) (vs := [w]) ⟨w, [], rfl, rw, rfl⟩ es
        have ew := strs_rl et rl
        subst ew
        cases e1
        rw [hK] at h
        exact ⟨z, a, ys, rfl, rfl, h.imp id (·.1), Nat.le_trans hz (by decide), q _ (by simp [Cy.R, R])⟩
      · cases ed
/-! ### f-strings -/
def fmtF : D → Option D
  | .str y => if y.length ≤ 1000000 then some (.str y) else none
  | .int i => if i.natAbs.log2 < 1920 then some (.str (toString i)) else none
  | _ => none
def fmtRF : D → Option D
  | .str y => if (reprText y).length ≤ 1000000 then some (.str (reprText y)) else none
  | .int i => if i.natAbs.log2 < 1920 then some (.str (toString i)) else none
  | _ => none
def oneE (g : D → Option D) (f : Slots → M D) : Slots → M D := fun ρ => bnd (f ρ) fun d => opt (g d)
theorem de_fmt {g : Slots → M D} (h : PE X e (dE c W g)) : PE X (.FormattedValue e (-1) none pos) (dE c W (oneE fmtF g)) := by
  refine pe_imp (pe_fmt h) fun σ H Q ⟨O, ρ, pt, rs, q⟩ => ⟨O, ρ, pt, rs, (Wg.bnd q).imp fun d p1 H1 _ s1 q v rv => ?_⟩
  obtain ⟨z, ez, q⟩ := Wg.opt q s1.pot
  unfold fmtF at ez
  split at ez
  · split at ez
    · rename_i hz
      cases ez
      simp only [Cy.R, R] at rv
      exact .inl ⟨_, rv, Nat.le_trans hz (by decide), q _ (by simp [Cy.R, R])⟩
    · cases ez
  · split at ez
    · rename_i hz
      cases ez
      simp only [Cy.R, R] at rv
      exact .inr ⟨_, rv, hz, q _ (by simp [Cy.R, R])⟩
    · cases ez
  · cases ez
theorem de_fmtR {g : Slots → M D} (h : PE X e (dE c W g)) : PE X (.FormattedValue e 114 none pos) (dE c W (oneE fmtRF g)) := by
  refine pe_imp (pe_fmtR h) fun σ H Q ⟨O, ρ, pt, rs, q⟩ => ⟨O, ρ, pt, rs, (Wg.bnd q).imp fun d p1 H1 _ s1 q v rv => ?_⟩
  obtain ⟨z, ez, q⟩ := Wg.opt q s1.pot
  unfold fmtRF at ez
  split at ez
  · split at ez
    · rename_i hz
      cases ez
      simp only [Cy.R, R] at rv
      exact .inl ⟨_, rv, Nat.le_trans hz (by decide), q _ (by simp [Cy.R, R])⟩
    · cases ez
  · split at ez
    · rename_i hz
      cases ez
      simp only [Cy.R, R] at rv
      exact .inr ⟨_, rv, hz, q _ (by simp [Cy.R, R])⟩
    · cases ez
  · cases ez
def glueE : List (Slots → M D) → Str → Slots → M D
  | [], acc, _ => ret (.str acc)
  | f :: fs, acc, ρ => bnd (f ρ) fun d => bnd (opt (strOf1 d)) fun y => if (acc ++ y).length ≤ 1000000 then glueE fs (acc ++ y) ρ else fail
theorem glue_use : ∀ {fs : List (Slots → M D)} {acc : Str} {H : Hp} {Q : VK}, dE c W (glueE fs acc) σ H Q → tJs (fs.map (dE c W)) acc σ H fun out H1 => Q (.str out) H1
  | [], acc, H, Q, ⟨O, ρ, pt, rs, q⟩ => Wg.here q rs.pot _ (by simp [Cy.R, R])
  | f :: fs, acc, H, Q, ⟨O, ρ, pt, rs, q⟩ => by
    refine ⟨O, ρ, pt, rs, (Wg.bnd q).imp fun d p1 H1 _ s1 q v rv => ?_⟩
    obtain ⟨y, ey, q⟩ := Wg.opt (Wg.bnd q) s1.pot
    rw [strOf1_eq ey] at rv
    simp only [Cy.R, R] at rv
    split at q
    · rename_i hz
      exact ⟨y, rv, Nat.le_trans hz (by decide), glue_use ⟨O, ρ, p1, rs.stp s1, q⟩⟩
    · exact q.elim
def joinedE (fs : List (Slots → M D)) : Slots → M D := glueE fs Str.empty
theorem de_joined {v1 v2 : Expr} {rest : List Expr} {fs : List (Slots → M D)} (h : PJ X (v1 :: v2 :: rest) (fs.map (dE c W))) : PE X (.JoinedStr (v1 :: v2 :: rest) pos) (dE c W (joinedE fs)) := pe_imp (pe_joined h) fun σ H Q q => glue_use q
theorem de_joined1 {g : Slots → M D} (h : PE X e (dE c W g)) : PE X (.JoinedStr [e] pos) (dE c W g) := pe_joined1 h
/-! ### all, any -/
def blsOf : List D → Option (List Bool)
  | [] => some []
  | .bl x :: ds => (blsOf ds).map (x :: ·)
  | _ => none
theorem bls_rl {K : PySem.W.Frag} {T : Tb} {p : Addr} : ∀ {ds : List D} {ys : List Bool} {vs : List V}, blsOf ds = some ys → RL K T p H ds vs → vs = ys.map V.bl
  | [], ys, vs, e, h => by
    cases e
    simpa [RL] using h
  | d :: ds, ys, vs, e, h => by
    simp only [RL] at h
    obtain ⟨v, ws, rfl, r, rl⟩ := h
    cases d with
    | bl x =>
      simp only [blsOf] at e
      cases e1 : blsOf ds with
      | none => rw [e1] at e; cases e
      | some zs =>
        rw [e1] at e
        cases e
        rw [bls_rl e1 rl]
        simp only [R] at r
        rw [r]
        rfl
    | _ => simp [blsOf] at e
def lst1 : List D → Option (List D)
  | [.lst ds] => some ds
  | _ => none
theorem lst1_rl {xs ds : List D} {vs : List V} (rx : RBL c O H xs vs) (e : lst1 xs = some ds) : ∃ a ws, vs = [.ref a] ∧ c.RL (Hd (hid c O) H) ds ws ∧ SqL c.K H a ws := by
  unfold lst1 at e
  split at e
  · cases e
    obtain ⟨v, rfl, h⟩ := rx.one
    obtain ⟨a, vs, rfl, ha, rl⟩ := h.lst
    exact ⟨a, vs, rfl, rl, .inl (.inl ha)⟩
  · cases e
def allF (xs : List D) : Option D := (lst1 xs).bind fun ds => (blsOf ds).map fun bs => .bl (bs.all id)
def anyF (xs : List D) : Option D := (lst1 xs).bind fun ds => (blsOf ds).map fun bs => .bl (bs.any id)
theorem cd_all (hc : X.calm = true) (hK : c.K = X.K := by rfl) : CallD X c W (.builtin "all") (pu1 allF) := cd_pu (cr_all hc) fun O H xs z vs Q rx e q => by
  unfold allF at e
  cases e1 : lst1 xs with
  | none => rw [e1] at e; cases e
  | some ds =>
    rw [e1] at e
    simp only [Option.bind_some] at e
    cases e2 : blsOf ds with
    | none => rw [e2] at e; cases e
    | some bs =>
      rw [e2] at e
      cases e
      obtain ⟨a, ws, rfl, rl, h⟩ := lst1_rl rx e1
      rw [bls_rl e2 rl, hK] at h
      exact ⟨a, bs, rfl, h, q _ (by simp [Cy.R, R])⟩
theorem cd_any (hc : X.calm = true) (hK : c.K = X.K := by rfl) : CallD X c W (.builtin "any") (pu1 anyF) := cd_pu (cr_any hc) fun O H xs z vs Q rx e q => by
  unfold anyF at e
  cases e1 : lst1 xs with
  | none => rw [e1] at e; cases e
  | some ds =>
    rw [e1] at e
    simp only [Option.bind_some] at e
    cases e2 : blsOf ds with
    | none => rw [e2] at e; cases e
    | some bs =>
      rw [e2] at e
      cases e
      obtain ⟨a, ws, rfl, rl, h⟩ := lst1_rl rx e1
      rw [bls_rl e2 rl, hK] at h
      exact ⟨a, bs, rfl, h, q _ (by simp [Cy.R, R])⟩
/-! ### repr and str -/
def reprF : List D → Option D
  | [.str y] => if (reprText y).length ≤ 1000000 then some (.str (reprText y)) else none
  | [.int i] => if i.natAbs.log2 < 1920 then some (.str (toString i)) else none
  | [.bl b] => some (.str (if b then "True" else "False"))
  | [.non] => some (.str "None")
  | _ => none
def rRepr : List V → Hp → VK → Prop := fun vs H Q => (∃ y : Str, vs = [.str y] ∧ (reprText y).length ≤ 1000000 ∧ Q (.str (reprText y)) H) ∨ (∃ i : Int, vs = [.int i] ∧ i.natAbs.log2 < 1920 ∧ Q (.str (toString i)) H) ∨
  (∃ b : Bool, vs = [.bl b] ∧ Q (.str (if b then "True" else "False")) H) ∨ (vs = [.non] ∧ Q (.str "None") H)
theorem cr_repr : CallR X (.builtin "repr") rRepr := by
  intro pins s σ H vs us Q I r h
  rcases h with ⟨y, rfl, hz, q⟩ | ⟨i, rfl, hz, q⟩ | ⟨b, rfl, q⟩ | ⟨rfl, q⟩
  · obtain ⟨u, rfl, ru⟩ := r.one
    obtain ⟨t, rfl⟩ := ru
    exact P.repr_of_str ⟨.str _, H, I.tok _, ⟨_, rfl⟩, q⟩ (Nat.le_trans hz (by decide))
  · obtain ⟨u, rfl, ru⟩ := r.one
    obtain ⟨t, rfl⟩ := ru
    exact P.repr_of_int hz ⟨.str _, H, I.tok _, ⟨_, rfl⟩, q⟩
  · obtain ⟨u, rfl, ru⟩ := r.one
    cases ru
    refine P.repr_of_bool ⟨.str _, H, I.tok _, ⟨_, rfl⟩, q⟩
  · obtain ⟨u, rfl, ru⟩ := r.one
    cases ru
    exact P.repr_of_none ⟨.str _, H, I.tok _, ⟨_, rfl⟩, q⟩
theorem cd_repr : CallD X c W (.builtin "repr") (pu1 reprF) := cd_pu cr_repr fun O H xs z vs Q rx e q => by
  unfold reprF at e
  split at e
  · split at e
    · rename_i hz
      cases e
      obtain ⟨v, rfl, h⟩ := rx.one
      rw [h.str]
      exact .inl ⟨_, rfl, hz, q _ (by simp [Cy.R, R])⟩
    · cases e
  · split at e
    · rename_i hz
      cases e
      obtain ⟨v, rfl, h⟩ := rx.one
      rw [h.int]
      exact .inr (.inl ⟨_, rfl, hz, q _ (by simp [Cy.R, R])⟩)
    · cases e
  · cases e
    obtain ⟨v, rfl, h⟩ := rx.one
    rw [h.bl]
    exact .inr (.inr (.inl ⟨_, rfl, q _ (by simp [Cy.R, R])⟩))
  · cases e
    obtain ⟨v, rfl, h⟩ := rx.one
    rw [h.non]
    exact .inr (.inr (.inr ⟨rfl, q _ (by simp [Cy.R, R])⟩))
  · cases e
/-- repr or str by an own method -/
def txM (kc : Nat) (fm : List D → M D) : List D → M D
  | [.obj j fs] => if j = kc then bnd (fm [.obj j fs]) fun d => bnd (opt (strOf1 d)) fun y => ret (.str y) else fail
  | _ => fail
def rTx (X : Cx) (c : Cy) (W : WX) (fm : List D → M D) (C : Addr) : L2.St → List V → Hp → VK → Prop := fun σ vs H Q => ∃ a dx fs, vs = [.ref a] ∧ H a = some (.ins C dx fs) ∧ spF c.K c.T 1 fm [.ref a] H (fun z H' => ∃ y, z = .str y ∧ Q z H') (WE W σ)
theorem tx_use (hC : c.T.cls kc = C) {xs : List D} {vs : List V} {Q : VK} (rs : RS c O ρ σ H pt) (rx : RBL c O H xs vs) (q : Wg c W σ H (fun d _ H' => ∀ v, c.R (Hd (hid c O) H') d v → Q v H') (txM kc fm xs pt)) : rTx X c W fm C σ vs H Q := by
  unfold txM at q
  split at q
  · rename_i j gs
    split at q
    · rename_i hj
      subst hj
      obtain ⟨v, rfl, h⟩ := rx.one
      have h' : c.R (Hd (hid c O) H) (.obj j gs) v := by
        rcases h with h | ⟨_, _, _, _, e, _⟩ | ⟨_, _, _, _, e, _⟩
        · exact h
        · cases e
        · cases e
      have sp := spF_of (Q := fun z H' => ∃ y, z = .str y ∧ Q z H') rs (RL.one h') rfl ((Wg.bnd q).imp fun d p1 H1 _ s1 q v rv => by
        obtain ⟨y, ey, q⟩ := Wg.opt (Wg.bnd q) s1.pot
        rw [strOf1_eq ey] at rv
        simp only [Cy.R, R] at rv
        subst rv
        exact ⟨y, rfl, Wg.here q s1.pot _ (by simp [Cy.R, R])⟩)
      simp only [Cy.R, R] at h'
      obtain ⟨a, dx, ws, rfl, ha, _, rl⟩ := h'
      exact ⟨a, dx, _, rfl, by rw [← hC]; exact Hd.le _ _ ha, sp⟩
    · exact q.elim
  · exact q.elim
theorem strBack {pins : List (Addr × Obj)} {Q : VK} {v : Value} {s : Shared} (h : EP X pins σ (fun z H' => ∃ y, z = .str y ∧ Q z H') v s) : PySem.W.StrBack (EP X pins σ Q) v s := by
  obtain ⟨z, H', I', rz, y, rfl, q⟩ := h
  obtain ⟨t, rfl⟩ := rz
  exact ⟨.str y, H', I', ⟨t, rfl⟩, q⟩
theorem cd_reprO (hC : c.T.cls kc = C) (hs : PySem.W.findIn X.K (.ref C) "__repr__" = some (some (.ref f))) (hf : PySem.W.isFn X.K (.ref f) = true)
    (F : FnOk X.prog X.w X.K X.mg X.base (L2.CX X.prog X.w) k f fd ps (spF c.K c.T 1 fm)) (hr : Room (k + 1) X.A) (hb : Binds X.K fd ps []) (tk : Takes X W) : CallD X c W (.builtin "repr") (txM kc fm) := by
  refine ⟨rTx X c W fm C, fun pins s σ H xs us Q I r q => ?_, fun σ O ρ pt H Q xs vs rs rx q => tx_use hC rs rx q⟩
  obtain ⟨a, dx, fs, rfl, ha, sp⟩ := q
  obtain ⟨u, rfl, ru⟩ := r.one
  cases ru
  obtain ⟨ox, od, J⟩ := inst_at I ha
  obtain ⟨m, hF⟩ := I.fr
  refine PySem.W.repr_K hr.in1.units0 hF I.ok.mod.kin J hs hf ?_
  exact wpAny_mono (runSub (E := WE W) F hr.in1 rfl hb (passAt tk σ) I (vs := [.ref a]) (.cons (show RelV (.ref a) (.ref a) from rfl) .nil) sp) (fun r s' h => strBack h) fun _ _ z => z
theorem cd_strO (hC : c.T.cls kc = C) (hs : PySem.W.findIn X.K (.ref C) "__str__" = some (some (.ref f))) (hf : PySem.W.isFn X.K (.ref f) = true)
    (F : FnOk X.prog X.w X.K X.mg X.base (L2.CX X.prog X.w) k f fd ps (spF c.K c.T 1 fm)) (hr : Room (k + 2) X.A) (hb : Binds X.K fd ps []) (tk : Takes X W) : CallD X c W (.type "str") (txM kc fm) := by
  refine ⟨rTx X c W fm C, fun pins s σ H xs us Q I r q => ?_, fun σ O ρ pt H Q xs vs rs rx q => tx_use hC rs rx q⟩
  obtain ⟨a, dx, fs, rfl, ha, sp⟩ := q
  obtain ⟨u, rfl, ru⟩ := r.one
  cases ru
  obtain ⟨ox, od, J⟩ := inst_at I ha
  refine PySem.W.kso_call hr.in1.in1.units0 I.kIn J hs hf ?_
  exact wpAny_mono (runSub (E := WE W) F hr.in1.in1 rfl hb (passAt tk σ) I (vs := [.ref a]) (.cons (show RelV (.ref a) (.ref a) from rfl) .nil) sp) (fun r s' h => strBack h) fun _ _ z => z
/-! ### several names at once -/
theorem pg_or {t t' : TG} (h : PG X tg t) (h' : PG X tg t') : PG X tg (fun v σ H Q => t v σ H Q ∨ t' v σ H Q) := ⟨fun pins s σ H v u Q I r q => q.elim (h.run pins s σ H v u Q I r) (h'.run pins s σ H v u Q I r)⟩
def tgL (ts : List (D → Slots → Option Slots)) : D → Slots → Option Slots := fun d ρ => match d with
  | .tup ds => tgs ts ds ρ
  | .lst ds => tgs ts ds ρ
  | _ => none
theorem dg_seq {es : List Expr} {kk : Nat} {vs : List Nat} {ts : List (D → Slots → Option Slots)} (hc : X.calm = true) (h : PGs X es (dGs c vs ts)) (hn : (assignEach es X.env).length = ts.length := by rfl) (hst : (assignEach es X.env).findIdx? (·.1) = none := by rfl) (hK : c.K = X.K := by rfl) :
    PG X (.Tuple es kk pos) (dG c vs (tgL ts)) := by
  refine pg_imp (pg_or (pg_tup hc h hn hst) (pg_lst hc h hn hst)) fun v σ H Q ⟨O, ρ, pt, d, ρ', rs, rv, e, q⟩ => ?_
  cases d with
  | tup ds =>
    simp only [Cy.R, R] at rv
    obtain ⟨a, xs, rfl, ha, rl⟩ := rv
    have le := tgs_len (ts := ts) e
    exact .inl ⟨a, xs, rfl, by rw [← hK]; exact Hd.le.sqt ha, by rw [← RL.len rl]; exact le, O, ρ, pt, ds, ρ', rs, rl, e, q⟩
  | lst ds =>
    simp only [Cy.R, R] at rv
    obtain ⟨a, xs, rfl, ha, rl⟩ := rv
    have le := tgs_len (ts := ts) e
    exact .inr ⟨a, xs, rfl, .inl (.inl (Hd.le _ _ ha)), by rw [← RL.len rl]; exact le, O, ρ, pt, ds, ρ', rs, rl, e, q⟩
  | _ => simp [tgL] at e
def unpS (tgf : D → Slots → Option Slots) (f : Slots → M D) : Slots → M Out := fun ρ => bnd (f ρ) fun d => bnd (opt (tgf d ρ)) fun ρ' => ret (.nx ρ')
theorem ds_unp {vs : List Nat} {tgf : D → Slots → Option Slots} {g : Slots → M D} (h : PE X e (dE c W g)) (hg : PG X tg (dG c vs tgf)) (hs : swapsWithSole [tg] e pos.line X.env = pure false := by rfl) (hw : swappedStores [tg] e X.env = pure none := by rfl)
    (h1 : (assignEach [tg] X.env).map (·.2) = [assign tg X.env] := by rfl) : PS X (.Assign [tg] e pos) (dS c W (unpS tgf g)) := by
  refine ps_imp (ps_asg h hg hs hw h1) fun E σ H ⟨O, ρ, pt, r, h⟩ => ⟨O, ρ, pt, r, (WO.bnd r h).imp fun d p1 H1 _ s1 q v rv => ?_⟩
  have r1 := r.stp s1
  obtain ⟨ρ', e, q⟩ := Wg.opt (WO.bnd r1 q) r1.pot
  exact ⟨O, ρ, p1, d, ρ', r1, rv, e, fun O' σ' rs' mv _ _ => q O' σ' H1 rs' mv⟩
def parS (i j : Nat) (fa : Slots → M (List D)) : Slots → M Out := fun ρ => bnd (fa ρ) fun ds => bnd (opt (tgs [tgN i, tgN j] ds ρ)) fun ρ' => ret (.nx ρ')
def par3S (i j l : Nat) (fa : Slots → M (List D)) : Slots → M Out := fun ρ => bnd (fa ρ) fun ds => bnd (opt (tgs [tgN i, tgN j, tgN l] ds ρ)) fun ρ' => ret (.nx ρ')
theorem tgs1 {t : D → Slots → Option Slots} {ts : List (D → Slots → Option Slots)} {ds : List D} {ρ' : Slots} (e : tgs (t :: ts) ds ρ = some ρ') : ∃ d es ρ1, ds = d :: es ∧ t d ρ = some ρ1 ∧ tgs ts es ρ1 = some ρ' := by
  cases ds with
  | nil => simp [tgs] at e
  | cons d ds =>
    simp only [tgs] at e
    cases e1 : t d ρ with
    | none => rw [e1] at e; cases e
    | some ρ1 =>
      rw [e1] at e
      exact ⟨d, ds, ρ1, rfl, e1, e⟩
theorem tgs0 {ds : List D} {ρ' : Slots} (e : tgs [] ds ρ = some ρ') : ds = [] ∧ ρ = ρ' := by
  cases ds with
  | nil => simp only [tgs] at e; cases e; exact ⟨rfl, rfl⟩
  | cons d ds => simp [tgs] at e
theorem tgN1 {i : Nat} {d : D} {v : V} {ρ1 : Slots} (r : RS c O ρ σ H pt) (rv : c.R (Hd (hid c O) H) d v) (e : tgN i d ρ = some ρ1) : ∃ O1, RS c O1 ρ1 (σ.set i (some v)) H pt ∧ Mv c O H O1 H := by
  unfold tgN at e
  split at e
  · rename_i hl
    cases e
    exact ⟨_, r.put i (by rw [← r.len]; exact hl) rv, Mv.fewer⟩
  · cases e
theorem ds_par {i j : Nat} {x y : Str} {fa : Slots → M (List D)} {px py pt0 : Pos} {kt k2 pt2} (hc : X.calm = true) (hN : X.N.Nodup) (ha : PA X [a, b] (dA c W fa)) (hi : X.N[i]? = some x := by rfl) (hj : X.N[j]? = some y := by rfl) (hij : i ≠ j := by decide)
    (hx : X.env.scope.names.lookup x = some .local := by rfl) (hy : X.env.scope.names.lookup y = some .local := by rfl)
    (hw : swappedStores [.Tuple [.Name x px, .Name y py] kt pt0] (.Tuple [a, b] k2 pt2) X.env = pure (some [x, y]) := by rfl)
    (hs : swapsWithSole [.Tuple [.Name x px, .Name y py] kt pt0] (.Tuple [a, b] k2 pt2) pos.line X.env = pure false := by rfl) :
    PS X (.Assign [.Tuple [.Name x px, .Name y py] kt pt0] (.Tuple [a, b] k2 pt2) pos) (dS c W (parS i j fa)) := by
  refine ps_imp (ps_par hc hN hi hj hij hx hy ha hw hs) fun E σ H ⟨O, ρ, pt, r, h⟩ => ⟨O, ρ, pt, r, (WO.bnd r h).imp fun ds p1 H1 _ s1 q vs rl => ?_⟩
  have r1 := r.stp s1
  obtain ⟨ρ', e, q⟩ := Wg.opt (WO.bnd r1 q) r1.pot
  obtain ⟨d1, es, ρ1, rfl, e1, e⟩ := tgs1 e
  obtain ⟨d2, es, ρ2, rfl, e2, e⟩ := tgs1 e
  obtain ⟨rfl, rfl⟩ := tgs0 e
  simp only [Cy.RL, RL] at rl
  obtain ⟨v1, _, rfl, rv1, v2, _, rfl, rv2, rfl⟩ := rl
  obtain ⟨O1, q1, m1⟩ := tgN1 r1 rv1 e1
  obtain ⟨O2, q2, m2⟩ := tgN1 q1 (R.gr m1.gr rv2) e2
  exact ⟨v1, v2, rfl, q _ _ _ q2 (m1.trans m2)⟩
theorem ds_par3 {i j l : Nat} {x y z : Str} {a3 : Expr} {fa : Slots → M (List D)} {px py pz pt0 : Pos} {kt k2 pt2} (hc : X.calm = true) (hN : X.N.Nodup) (ha : PA X [a, b, a3] (dA c W fa)) (hi : X.N[i]? = some x := by rfl) (hj : X.N[j]? = some y := by rfl) (hl : X.N[l]? = some z := by rfl) (hij : i ≠ j := by decide) (hil : i ≠ l := by decide) (hjl : j ≠ l := by decide)
    (hx : X.env.scope.names.lookup x = some .local := by rfl) (hy : X.env.scope.names.lookup y = some .local := by rfl) (hz : X.env.scope.names.lookup z = some .local := by rfl)
    (hw : swappedStores [.Tuple [.Name x px, .Name y py, .Name z pz] kt pt0] (.Tuple [a, b, a3] k2 pt2) X.env = pure (some [x, y, z]) := by rfl)
    (hs : swapsWithSole [.Tuple [.Name x px, .Name y py, .Name z pz] kt pt0] (.Tuple [a, b, a3] k2 pt2) pos.line X.env = pure false := by rfl) :
    PS X (.Assign [.Tuple [.Name x px, .Name y py, .Name z pz] kt pt0] (.Tuple [a, b, a3] k2 pt2) pos) (dS c W (par3S i j l fa)) := by
  refine ps_imp (ps_par3 hc hN hi hj hl hij hil hjl hx hy hz ha hw hs) fun E σ H ⟨O, ρ, pt, r, h⟩ => ⟨O, ρ, pt, r, (WO.bnd r h).imp fun ds p1 H1 _ s1 q vs rl => ?_⟩
  have r1 := r.stp s1
  obtain ⟨ρ', e, q⟩ := Wg.opt (WO.bnd r1 q) r1.pot
  obtain ⟨d1, es, ρ1, rfl, e1, e⟩ := tgs1 e
  obtain ⟨d2, es, ρ2, rfl, e2, e⟩ := tgs1 e
  obtain ⟨d3, es, ρ3, rfl, e3, e⟩ := tgs1 e
  obtain ⟨rfl, rfl⟩ := tgs0 e
  simp only [Cy.RL, RL] at rl
  obtain ⟨v1, _, rfl, rv1, v2, _, rfl, rv2, v3, _, rfl, rv3, rfl⟩ := rl
  obtain ⟨O1, q1, m1⟩ := tgN1 r1 rv1 e1
  obtain ⟨O2, q2, m2⟩ := tgN1 q1 (R.gr m1.gr rv2) e2
  obtain ⟨O3, q3, m3⟩ := tgN1 q2 (R.gr (m1.trans m2).gr rv3) e3
  exact ⟨v1, v2, v3, rfl, q _ _ _ q3 ((m1.trans m2).trans m3)⟩
end
end DF

set_option Elab.async false
set_option linter.all false
set_option maxRecDepth 100000
set_option maxHeartbeats 4000000
namespace DF
open PySem L2
/-! ### the pot: a list of two ints that the law draws from -/
section
variable {X : Cx} {c : Cy} {W : WX} {σ : L2.St} {H H1 H' : Hp} {O : List (Nat × Addr)} {ρ : Slots} {pt pt' : Pot} {e a b o : Expr} {p p2 p3 pos apos cpos : Pos}
def isPot : Option (Option SV) → Bool
  | some (some (.val .pot)) => true
  | _ => false
theorem isPot_eq {x : Option (Option SV)} (h : isPot x = true) : x = some (some (.val .pot)) := by
  unfold isPot at h
  split at h
  · rfl
  · cases h
def setP (pt : Pot) (ρ : Slots) : M Out := fun _ => .ok (.nx ρ) pt
def intOf : D → Option Int
  | .int i => some i
  | _ => none
theorem intOf_eq {d : D} {i : Int} (h : intOf d = some i) : d = .int i := by
  unfold intOf at h
  split at h
  · cases h; rfl
  · cases h
def potS (i : Nat) (f : Slots → M D) : Slots → M Out := fun ρ => bnd (f ρ) fun d => bnd (opt (intOf d)) fun q => if isPot ρ[i]? then (fun pt => setP (pt.1, q) ρ pt) else fail
theorem pot_stp {q : Pot} : Stp c.p H (upd H c.p (potO q)) q := ⟨fun a o n h => by rw [upd_ne n]; exact h, upd_same⟩
theorem ds_pot {i j : Nat} {x : Str} {f : Slots → M D} (h : PE X e (dE c W f)) (hN : X.N[i]? = some x := by rfl) (hv : Vis X.env.scope x := by first | exact Or.inl rfl | exact Or.inr (Or.inl rfl)) (hd : (x == ("__debug__" : Str)) = false := by decide) (hcd : (x == ("__classdict__" : Str)) = false := by decide)
    (ha : ∀ v, assign (.Subscript (.Name x p) (.Constant (.int 1) j p2) p3) X.env v = (do
      let ov ← holding [v] (eval (.Name x p) X.env)
      let iv ← holding [v, ov] (eval (.Constant (.int 1) j p2) X.env)
      standAt p3
      holding [v, ov, iv] (setItem ov iv v)
      release [v, ov, iv] []) := by intro _; rfl)
    (hs : swapsWithSole [.Subscript (.Name x p) (.Constant (.int 1) j p2) p3] e pos.line X.env = pure false := by rfl) (hw : swappedStores [.Subscript (.Name x p) (.Constant (.int 1) j p2) p3] e X.env = pure none := by rfl)
    (h1 : (assignEach [.Subscript (.Name x p) (.Constant (.int 1) j p2) p3] X.env).map (·.2) = [assign (.Subscript (.Name x p) (.Constant (.int 1) j p2) p3) X.env] := by rfl) :
    PS X (.Assign [.Subscript (.Name x p) (.Constant (.int 1) j p2) p3] e pos) (dS c W (potS i f)) := by
  refine ps_imp (ps_asg h (pg_sub (pe_var (i := i) hN hv hd hcd) pe_int set_list ha) hs hw h1) fun E σ H ⟨O, ρ, pt, r, h⟩ => ⟨O, ρ, pt, r, (WO.bnd r h).imp fun d p1 H1 _ s1 q v rv => ?_⟩
  have r1 := r.stp s1
  obtain ⟨z, ez, q⟩ := Wg.opt (WO.bnd r1 q) r1.pot
  rw [intOf_eq ez] at rv
  simp only [Cy.R, R] at rv
  subst rv
  split at q
  · rename_i hp
    obtain ⟨v, ev, rv⟩ := r1.sl i _ (isPot_eq hp)
    simp only [Cy.R, R] at rv
    subst rv
    refine ⟨_, ev, c.p, _, 1, 1, rfl, rfl, s1.pot, rfl, ?_⟩
    exact q _ _ _ (r1.stp (pot_stp (q := (p1.1, z)))) ((pot_stp (c := c) (q := (p1.1, z))).mv r.hp)
  · exact q.elim
def two : D → Option (Int × Int)
  | .tup [.int a, .int b] => some (a, b)
  | _ => none
theorem two_eq {d : D} {q : Int × Int} (h : two d = some q) : d = .tup [.int q.1, .int q.2] := by
  unfold two at h
  split at h
  · cases h; rfl
  · cases h
def potS2 (i j : Nat) (f : Slots → M D) : Slots → M Out := fun ρ => bnd (f ρ) fun d => bnd (opt (two d)) fun q => if isPot ρ[i]? && decide (j < ρ.length) then (fun pt => setP (q.1, pt.2) (ρ.set j (some (.val (.int q.2)))) pt) else fail
theorem ds_pot2 {i j k kk : Nat} {x y : Str} {f : Slots → M D} {py pt0 : Pos} (hc : X.calm = true) (hN : X.N.Nodup) (h : PE X e (dE c W f)) (hi : X.N[i]? = some x := by rfl) (hv : Vis X.env.scope x := by first | exact Or.inl rfl | exact Or.inr (Or.inl rfl)) (hd : (x == ("__debug__" : Str)) = false := by decide) (hcd : (x == ("__classdict__" : Str)) = false := by decide)
    (hj : X.N[j]? = some y := by rfl) (hy : Loc X.env.scope y := by first | exact Or.inl rfl | exact Or.inr rfl) (hf : X.fn y = true ∨ X.env.scope.names.lookup y = some .local := by first | exact .inl rfl | exact .inr rfl | assumption)
    (ha : ∀ v, assign (.Subscript (.Name x p) (.Constant (.int 0) k p2) p3) X.env v = (do
      let ov ← holding [v] (eval (.Name x p) X.env)
      let iv ← holding [v, ov] (eval (.Constant (.int 0) k p2) X.env)
      standAt p3
      holding [v, ov, iv] (setItem ov iv v)
      release [v, ov, iv] []) := by intro _; rfl)
    (hs : swapsWithSole [.Tuple [.Subscript (.Name x p) (.Constant (.int 0) k p2) p3, .Name y py] kk pt0] e pos.line X.env = pure false := by rfl) (hw : swappedStores [.Tuple [.Subscript (.Name x p) (.Constant (.int 0) k p2) p3, .Name y py] kk pt0] e X.env = pure none := by rfl)
    (h1 : (assignEach [.Tuple [.Subscript (.Name x p) (.Constant (.int 0) k p2) p3, .Name y py] kk pt0] X.env).map (·.2) = [assign (.Tuple [.Subscript (.Name x p) (.Constant (.int 0) k p2) p3, .Name y py] kk pt0) X.env] := by rfl)
    (h2 : (assignEach [.Subscript (.Name x p) (.Constant (.int 0) k p2) p3, .Name y py] X.env).map (·.2) = assign (.Subscript (.Name x p) (.Constant (.int 0) k p2) p3) X.env :: (assignEach [.Name y py] X.env).map (·.2) := by rfl)
    (h3 : (assignEach [.Name y py] X.env).map (·.2) = assign (.Name y py) X.env :: (assignEach [] X.env).map (·.2) := by rfl)
    (h4 : (assignEach [.Subscript (.Name x p) (.Constant (.int 0) k p2) p3, .Name y py] X.env).length = 2 := by rfl) (h5 : (assignEach [.Subscript (.Name x p) (.Constant (.int 0) k p2) p3, .Name y py] X.env).findIdx? (·.1) = none := by rfl) (hK : c.K = X.K := by rfl) :
    PS X (.Assign [.Tuple [.Subscript (.Name x p) (.Constant (.int 0) k p2) p3, .Name y py] kk pt0] e pos) (dS c W (potS2 i j f)) := by
  refine ps_imp (ps_asg h (pg_tup hc (pgs_cons (pg_sub (pe_var (i := i) hi hv hd hcd) pe_int set_list ha) (pgs_cons (pg_name (i := j) hN hj hy hf) pgs_nil h3) h2) h4 h5) hs hw h1) fun E σ H ⟨O, ρ, pt, r, h⟩ => ⟨O, ρ, pt, r, (WO.bnd r h).imp fun d p1 H1 _ s1 q v rv => ?_⟩
  have r1 := r.stp s1
  obtain ⟨z, ez, q⟩ := Wg.opt (WO.bnd r1 q) r1.pot
  rw [two_eq ez] at rv
  simp only [Cy.R, R, RL] at rv
  obtain ⟨ad, vs, rfl, sq, v1, _, rfl, rfl, v2, _, rfl, rfl, rfl⟩ := rv
  split at q
  · rename_i hp
    rw [Bool.and_eq_true] at hp
    obtain ⟨hp, hl⟩ := hp
    replace hl := of_decide_eq_true hl
    obtain ⟨v, ev, rv⟩ := r1.sl i _ (isPot_eq hp)
    simp only [Cy.R, R] at rv
    subst rv
    refine ⟨ad, _, rfl, by rw [← hK]; exact Hd.le.sqt sq, rfl, _, _, rfl, _, ev, c.p, _, 0, 0, rfl, rfl, s1.pot, rfl, _, _, rfl, rfl, ?_⟩
    have r2 := r1.stp (pot_stp (q := (z.1, p1.2)))
    have r3 := r2.put j (d := .int z.2) (v := .int z.2) (by rw [← r.len]; exact hl) (by simp [Cy.R, R])
    exact q _ _ _ r3 (((pot_stp (c := c) (q := (z.1, p1.2))).mv r.hp).trans Mv.fewer)
  · exact q.elim
def dmF : List D → M D
  | [.int i, .int j] => if 0 < j ∧ j < 1073741824 then ret (.tup [.int (i / j), .int (i % j)]) else fail
  | _ => fail
theorem cd_divmod : CallD X c W (.builtin "divmod") dmF := ⟨_, calls_of call_divmod, fun σ O ρ pt H Q xs vs rs rx q => by
  unfold dmF at q
  split at q
  · split at q
    · rename_i hz
      obtain ⟨v, w, rfl, h, h'⟩ := rx.two
      rw [h.int, h'.int]
      refine ⟨_, _, rfl, hz, fun l hl => q _ (Stp.new rs.pot hl) _ (mk_tup rs hl ?_)⟩
      simp [Cy.R, Cy.RL, RL, R]
    · exact q.elim
  · exact q.elim⟩
end
end DF

set_option Elab.async false
set_option linter.all false
set_option maxRecDepth 100000
set_option maxHeartbeats 4000000
namespace DF
open PySem L2
/-! ### the text's facts, read off the heap behind the top -/
def fdAt (K : PySem.W.Frag) (a : Addr) : FuncData := match K.lookup a with
  | some ⟨_, _, .func fd, _⟩ => fd
  | _ => PySem.W.fnOf "" "" ⟨[], [], none, [], [], none, []⟩ [] ⟨.function, [], false, false, []⟩ .none .none .none .none none .none .none
theorem fdAt_eq {K : PySem.W.Frag} {x qual : Str} {pa : Arguments} {bd : List Stmt} {sc : Scope} {dvs : List V} {kws : List (Str × V)} {f : Addr} {fd : FuncData} (F : FunD K x qual pa bd sc dvs kws f fd) : fdAt K f = fd := by
  obtain ⟨oc, od, dV, kV, doc, pm, an, cdv, ct, osl, rfl, lk, _⟩ := F.ex
  unfold fdAt
  rw [lk]
abbrev Fct := PySem.W.Frag → Bool
def obsZ (oks : List Fct) (fn : List He5.DefA) (K : PySem.W.Frag) : He.AlD := ((oks.all fun f => f K) && fn.all fun d => d.ok K, fn.map fun d => He5.fnA K (d.at_ K))
def SaysZ (oks : List Fct) (fn : List He5.DefA) (K : PySem.W.Frag) : Prop := obsZ oks fn K = He5.valA fn
def obsZG (n : Nat) (oks : List Fct) (fn : List He5.DefA) (g : Addr → Option Obj) : He.AlD := obsZ oks fn (He.frG g (He5.asA g n))
def hookZ (n : Nat) (oks : List Fct) (fn : List He5.DefA) : PySem.W.Hook where
  α := He.AlD
  obs := fun s => obsZG n oks fn s.heap.get?
  val := fun _ => He5.valA fn
  says := fun _ h => ∃ K : PySem.W.Frag, K.In h ∧ SaysZ oks fn K
  of := fun _ _ e => ⟨_, He.frG_in, e⟩
  keeps := fun _ _ _ ⟨K, hK, c⟩ k => ⟨K, PySem.W.Frag.In.keeps hK k, c⟩
theorem obsZG_eq {n : Nat} {oks : List Fct} {fn : List He5.DefA} {g : Addr → Option Obj} {s : Shared} (h : ∀ a, g a = s.heap.get? a) : obsZG n oks fn g = (hookZ n oks fn).obs s := by
  have e : g = s.heap.get? := funext h
  rw [e] <;> rfl
section
variable {oks : List Fct} {fn : List He5.DefA} {K : PySem.W.Frag} {h : Heap} {mg : Str → Option Value}
theorem SaysZ.fact (c : SaysZ oks fn K) (i : Nat) {f : Fct} (h : oks[i]? = some f := by rfl) : f K = true := by
  have c1 := (He.ba (show ((oks.all fun f => f K) && fn.all fun d => d.ok K) = true from congrArg (fun z : He.AlD => z.1) c)).1
  exact List.all_eq_true.mp c1 f (List.mem_of_getElem? h)
theorem SaysZ.def_ (c : SaysZ oks fn K) (i : Nat) {d : He5.DefA} (h : fn[i]? = some d := by rfl) : FunD K d.name d.qual d.params d.body d.scope (d.dvs K) (d.kws K) (d.at_ K) (fdAt K (d.at_ K)) := by
  have c2 := (He.ba (show ((oks.all fun f => f K) && fn.all fun d => d.ok K) = true from congrArg (fun z : He.AlD => z.1) c)).2
  have e : fn.map (fun d => He5.fnA K (d.at_ K)) = fn.map He5.DefA.val := congrArg (fun z : He.AlD => z.2) c
  have e2 : (fn.map fun d => He5.fnA K (d.at_ K))[i]? = (fn.map He5.DefA.val)[i]? := by rw [e]
  rw [List.getElem?_map, List.getElem?_map, h] at e2
  obtain ⟨fd, F⟩ := He5.DefA.funD (Option.some.inj e2) (List.all_eq_true.mp c2 d (List.mem_of_getElem? h))
  rw [fdAt_eq F]
  exact F
/-- the text of a law: its facts, and the names of its module -/
structure Tx (oks : List Fct) (fn : List He5.DefA) (K : PySem.W.Frag) (mg : Str → Option Value) : Prop where
  c : SaysZ oks fn K
  g : ∃ h : Heap, K.In h ∧ h.Ns mainGlobals mg
/-! ### kinds of facts -/
def fGlo (x : Str) : Fct := fun K => (He.Fa.glo x).ok K
def fFree (x : Str) : Fct := fun K => (He.Fa.free x).ok K
def fCls (x : Str) : Fct := fun K => (He.Fa.cls x).ok K
def fNoat (x f : Str) : Fct := fun K => (He.Fa.noat x f).ok K
def fMeth (x m : Str) : Fct := fun K => (He.Fa.meth x m).ok K
def fMk (x : Str) : Fct := fun K => (He.Fa.mkr x).ok K
def fClsI (x : Str) : Fct := fun K => (He.Fa.cls x).ok K && (He.eqO (PySem.W.findIn K (.ref (He.ga K x)) "__class__") (some (some (.builtin "object.__class__"))) && (He.eqO (PySem.W.specialIn K (.builtin "object.__class__") "__get__") (some (some (.builtin "getset_descriptor.__get__"))) &&
  (decide (PySem.W.takesIn K (.builtin "object.__class__") = some true) && decide (PySem.W.mroIn K (He.ga K x) (.type "object") = some true))))
def fProp (x y : Str) : Fct := fun K => He.eqO (PySem.W.findIn K (.ref (He.ga K x)) y) (some (some (.ref (He.ma K (He.ga K x) y)))) && (He.eqO (PySem.W.specialIn K (.ref (He.ma K (He.ga K x) y)) "__get__") (some (some (.builtin "property.__get__"))) &&
  (decide (PySem.W.takesIn K (.ref (He.ma K (He.ga K x) y)) = some true) && (match PySem.W.recIn K (He.ma K (He.ga K x) y) "property" with
    | some (.ref _ :: _) => true
    | _ => false)))
def fCmp (x : Str) (cs : List Str) : Fct := fun K => (tagB.all fun n => decide (PySem.W.subIn K (.type n) (.ref (He.ga K x)) = some false)) && cs.all fun y => PySem.W.notFirst K (He.ga K x) (.ref (He.ga K y))
def fNe (x : Str) : Fct := fun K => He.eqO (PySem.W.findIn K (.ref (He.ga K x)) "__ne__") (some (some (.builtin "object.__ne__"))) && decide (PySem.W.subIn K (.ref (He.ga K x)) (.type "object") = some true)
def fBin (x : Str) (op : Operator) : Fct := fun K => PySem.W.selfFirst K (He.ga K x) && (He.eqO (PySem.W.findIn K (.ref (He.ga K x)) (dunderR op.info.2)) (some none) &&
  tagB.all fun n => (PySem.W.findIn K (.type n) (PySem.dunder op.info.2)).isSome && (PySem.W.findIn K (.type n) (dunderR op.info.2)).isSome)
def ansOf (ts : List String) (cs : List Bool) : Sum String Nat → Option Bool
  | .inl n => if n ∈ tagB then some (decide (n ∈ ts)) else none
  | .inr k => cs[k]?
def fIsi (u : PySem.W.Frag → Value) (ts : List String) (cs : List Str) (bs : List Bool) : Fct := fun K => (tagB.all fun n => decide (PySem.W.kitOne K (.type n) (u K) = some (decide (n ∈ ts)))) && (List.zip cs bs).all fun q => decide (PySem.W.kitOne K (.ref (He.ga K q.1)) (u K) = some q.2)
section
variable {x y f m : Str}
theorem Tx.glo (t : Tx oks fn K mg) (i : Nat) (h : oks[i]? = some (fGlo x) := by rfl) : mg x = some (.ref (He.ga K x)) := let ⟨_, X, G⟩ := t.g; He.glo_ok X G (t.c.fact i h)
theorem Tx.free (t : Tx oks fn K mg) (i : Nat) (h : oks[i]? = some (fFree x) := by rfl) : mg x = none := let ⟨_, X, G⟩ := t.g; He.free_ok X G (t.c.fact i h)
theorem Tx.cls (t : Tx oks fn K mg) (i : Nat) (h : oks[i]? = some (fCls x) := by rfl) : Cls K (He.ga K x) := He.cls_ok (t.c.fact i h)
theorem Tx.noat (t : Tx oks fn K mg) (i : Nat) (h : oks[i]? = some (fNoat x f) := by rfl) : NoAttr K (He.ga K x) f := He.noat_ok (t.c.fact i h)
theorem Tx.meth (t : Tx oks fn K mg) (i : Nat) (h : oks[i]? = some (fMeth x m) := by rfl) : Meth K (He.ga K x) m (He.ma K (He.ga K x) m) := He.meth_ok (t.c.fact i h)
theorem Tx.mk_ (t : Tx oks fn K mg) (i : Nat) (h : oks[i]? = some (fMk x) := by rfl) : Mk K (He.ga K x) (He.ma K (He.ga K x) "__init__") := He.mkr_ok (t.c.fact i h)
theorem Tx.clsI (t : Tx oks fn K mg) (i : Nat) (h : oks[i]? = some (fClsI x) := by rfl) : ClsI K (He.ga K x) := by
  have q := t.c.fact i h
  obtain ⟨q1, q⟩ := He.ba q
  obtain ⟨q2, q⟩ := He.ba q
  obtain ⟨q3, q⟩ := He.ba q
  obtain ⟨q4, q5⟩ := He.ba q
  exact ⟨He.cls_ok q1, He.eqO_ok q2, He.eqO_ok q3, of_decide_eq_true q4, of_decide_eq_true q5⟩
theorem Tx.prop (t : Tx oks fn K mg) (i : Nat) (h : oks[i]? = some (fProp x y) := by rfl) : PropOf K (He.ga K x) y (He.ma K (He.ga K x) y) (He5.wf K (He.ga K x) "property" y) := by
  have q := t.c.fact i h
  obtain ⟨q1, q⟩ := He.ba q
  obtain ⟨q2, q⟩ := He.ba q
  obtain ⟨q3, q4⟩ := He.ba q
  refine ⟨He.eqO_ok q1, He.eqO_ok q2, of_decide_eq_true q3, ?_⟩
  unfold He5.wf
  split at q4
  · rename_i f r e
    exact ⟨r, by rw [e]⟩
  · cases q4
theorem Tx.ne (t : Tx oks fn K mg) (i : Nat) (h : oks[i]? = some (fNe x) := by rfl) : PySem.W.findIn K (.ref (He.ga K x)) "__ne__" = some (some (.builtin "object.__ne__")) ∧ PySem.W.subIn K (.ref (He.ga K x)) (.type "object") = some true := by
  obtain ⟨q1, q2⟩ := He.ba (t.c.fact i h)
  exact ⟨He.eqO_ok q1, of_decide_eq_true q2⟩
theorem Tx.bin {op : Operator} (t : Tx oks fn K mg) (i : Nat) (h : oks[i]? = some (fBin x op) := by rfl) : PySem.W.selfFirst K (He.ga K x) = true ∧ PySem.W.findIn K (.ref (He.ga K x)) (dunderR op.info.2) = some none ∧
    ∀ n ∈ tagB, ∃ fo ro, PySem.W.findIn K (.type n) (PySem.dunder op.info.2) = some fo ∧ PySem.W.findIn K (.type n) (dunderR op.info.2) = some ro := by
  obtain ⟨q1, q⟩ := He.ba (t.c.fact i h)
  obtain ⟨q2, q⟩ := He.ba q
  refine ⟨q1, He.eqO_ok q2, fun n hn => ?_⟩
  obtain ⟨z1, z2⟩ := He.ba (List.all_eq_true.mp q n hn)
  obtain ⟨a, ea⟩ := Option.isSome_iff_exists.mp z1
  obtain ⟨b, eb⟩ := Option.isSome_iff_exists.mp z2
  exact ⟨a, b, ea, eb⟩
/-- the classes of the text by their numbers -/
def tbOf (cs : List (Str × List Str)) (K : PySem.W.Frag) : Tb := { cls := fun k => He.ga K (cs.getD k ("", [])).1, names := fun k => (cs.getD k ("", [])).2, fn := fun _ => 0 }
theorem Tx.cmpI {X : Cx} {cs : List (Str × List Str)} (t : Tx oks fn X.K mg) (i : Nat) (h : oks[i]? = some (fCmp x (cs.map (·.1))) := by rfl) : CmpI X (tbOf cs X.K) cs.length (He.ga X.K x) := by
  obtain ⟨q1, q2⟩ := He.ba (t.c.fact i h)
  refine ⟨fun n hn => of_decide_eq_true (List.all_eq_true.mp q1 n hn), fun k hk => ?_⟩
  have e : (cs.getD k ("", [])) = cs[k] := by rw [List.getD_eq_getElem?_getD, List.getElem?_eq_getElem hk]; rfl
  show PySem.W.notFirst X.K (He.ga X.K x) (.ref (He.ga X.K (cs.getD k ("", [])).1)) = true
  rw [e]
  exact List.all_eq_true.mp q2 _ (List.mem_map.mpr ⟨_, List.getElem_mem hk, rfl⟩)
theorem Tx.isi {cs : List (Str × List Str)} {u : PySem.W.Frag → Value} {ts : List String} {bs : List Bool} (t : Tx oks fn K mg) (i : Nat) (hl : bs.length = cs.length) (h : oks[i]? = some (fIsi u ts (cs.map (·.1)) bs) := by rfl) :
    ∀ (s : Sum String Nat) b, ansOf ts bs s = some b → PySem.W.kitOne K (tagV (tbOf cs K) s) (u K) = some b := by
  obtain ⟨q1, q2⟩ := He.ba (t.c.fact i h)
  intro s b e
  cases s with
  | inl n =>
    simp only [ansOf] at e
    split at e
    · rename_i hn
      cases e
      exact of_decide_eq_true (List.all_eq_true.mp q1 n hn)
    · cases e
  | inr k =>
    simp only [ansOf] at e
    have hk : k < bs.length := (List.getElem?_eq_some_iff.mp e).1
    have hc : k < cs.length := by omega
    have e1 : (cs.getD k ("", [])) = cs[k] := by rw [List.getD_eq_getElem?_getD, List.getElem?_eq_getElem hc]; rfl
    show PySem.W.kitOne K (.ref (He.ga K (cs.getD k ("", [])).1)) (u K) = some b
    rw [e1]
    have mem : (cs[k].1, b) ∈ List.zip (cs.map (·.1)) bs := by
      refine List.mem_of_getElem? (i := k) ?_
      rw [List.getElem?_zip_eq_some]
      exact ⟨by rw [List.getElem?_map, List.getElem?_eq_getElem hc]; rfl, e⟩
    exact of_decide_eq_true (List.all_eq_true.mp q2 _ mem)
end
end
/-! ### built-in names -/
theorem bo_abs : bootBuiltins "abs" = some (.builtin "abs") := by decide +kernel
theorem bo_len : bootBuiltins "len" = some (.builtin "len") := by decide +kernel
theorem bo_max : bootBuiltins "max" = some (.builtin "max") := by decide +kernel
theorem bo_min : bootBuiltins "min" = some (.builtin "min") := by decide +kernel
theorem bo_repr : bootBuiltins "repr" = some (.builtin "repr") := by decide +kernel
theorem bo_all : bootBuiltins "all" = some (.builtin "all") := by decide +kernel
theorem bo_any : bootBuiltins "any" = some (.builtin "any") := by decide +kernel
theorem bo_sum : bootBuiltins "sum" = some (.builtin "sum") := by decide +kernel
theorem bo_divmod : bootBuiltins "divmod" = some (.builtin "divmod") := by decide +kernel
theorem bo_isinstance : bootBuiltins "isinstance" = some (.builtin "isinstance") := by decide +kernel
theorem bo_int : bootBuiltins "int" = some (.type "int") := by decide +kernel
theorem bo_bool : bootBuiltins "bool" = some (.type "bool") := by decide +kernel
theorem bo_str : bootBuiltins "str" = some (.type "str") := by decide +kernel
theorem bo_list : bootBuiltins "list" = some (.type "list") := by decide +kernel
theorem bo_tuple : bootBuiltins "tuple" = some (.type "tuple") := by decide +kernel
theorem bo_dict : bootBuiltins "dict" = some (.type "dict") := by decide +kernel
section
variable {X : Cx} {c : Cy} {W : WX} {k kc nC : Nat} {f C : Addr} {fd : FuncData} {ps : List Str} {fm : List D → M D} {x m : Str} {p : Pos} {T : String}
theorem pe_bty (hm : X.mg x = none) (hv : bootBuiltins x = some (.type T)) (hg : Gl X x := by rfl) (hn : x ≠ "__name__" := by decide) (hdb : (x == ("__debug__" : Str)) = false := by decide) : PE X (.Name x p) (tC (.ty T)) :=
  ⟨fun pins s σ H Q I h => ld_blt I hg hm hv ⟨.ty T, H, I, rfl, h⟩ hn hdb⟩
theorem pe_gcl {C : Addr} (hm : X.mg x = some (.ref C)) (hg : Gl X x := by rfl) (hd : (x == ("__debug__" : Str)) = false := by decide) : PE X (.Name x p) (tC (.ref C)) := pe_glob hg hm rfl hd
theorem ov_binS {op : Operator} (hd : PySem.dunder op.info.2 = m) (hCs : ∀ k, k < nC → ClsI X.K (c.T.cls k)) (hK : c.K = X.K) (hC : c.T.cls kc = C) (hn1 : ∀ k, k < nC → c.T.cls k = C) (ci : CmpI X c.T nC C) (hm : Meth X.K C m f)
    (hB : PySem.W.selfFirst X.K C = true ∧ PySem.W.findIn X.K (.ref C) (dunderR op.info.2) = some none ∧ ∀ n ∈ tagB, ∃ fo ro, PySem.W.findIn X.K (.type n) (PySem.dunder op.info.2) = some fo ∧ PySem.W.findIn X.K (.type n) (dunderR op.info.2) = some ro)
    (F : FnOk X.prog X.w X.K X.mg X.base (L2.CX X.prog X.w) k f fd ps (spF c.K c.T 2 fm)) (hr : Room k X.A) (hb : Binds X.K fd ps []) (tk : Takes X W) : OpV X c W (binaryOp op) (ownM nC kc fm) :=
  ov_bin hCs hK hC hn1 ci hB.1 (by rw [hd]; exact hm.at_) hm.fn hB.2.1 (.inl rfl) hB.2.2 F hr hb tk
theorem du_add : PySem.dunder Operator.Add.info.2 = "__add__" := by decide +kernel
theorem du_sub : PySem.dunder Operator.Sub.info.2 = "__sub__" := by decide +kernel
theorem du_mul : PySem.dunder Operator.Mult.info.2 = "__mul__" := by decide +kernel
theorem cst_nil : Cst c [] [] := fun H => RL.nil
theorem cst_cons {d : D} {v : V} {dd : List D} {dvs : List V} (h : ∀ H, c.R H d v) (hs : Cst c dd dvs) : Cst c (d :: dd) (v :: dvs) := fun H => by
  simp only [Cy.RL, RL]
  exact ⟨v, dvs, rfl, h H, hs H⟩
theorem cst_int {i : Int} {dd : List D} {dvs : List V} (hs : Cst c dd dvs) : Cst c (.int i :: dd) (.int i :: dvs) := cst_cons (fun H => by simp [Cy.R, R]) hs
theorem cst_non {dd : List D} {dvs : List V} (hs : Cst c dd dvs) : Cst c (.non :: dd) (.non :: dvs) := cst_cons (fun H => by simp [Cy.R, R]) hs
theorem cst_str {x : Str} {dd : List D} {dvs : List V} (hs : Cst c dd dvs) : Cst c (.str x :: dd) (.str x :: dvs) := cst_cons (fun H => by simp [Cy.R, R]) hs
theorem cst_bl {x : Bool} {dd : List D} {dvs : List V} (hs : Cst c dd dvs) : Cst c (.bl x :: dd) (.bl x :: dvs) := cst_cons (fun H => by simp [Cy.R, R]) hs
end
/-! ### operators that look at the kinds -/
abbrev addU : D → D → M D := orM (pu iAdd) (orM (pu sAdd) (orM (boxM lCat) tCat))
section
variable {X : Cx} {c : Cy} {W : WX}
theorem od_addU (hK : c.K = X.K := by rfl) : OpD X c W (binaryOp .Add) addU := od_iAdd.or (od_sAdd.or (od_lCat.d.or (od_tCat hK)))
end
end DF

set_option Elab.async false
set_option linter.all false
set_option maxRecDepth 100000
set_option maxHeartbeats 4000000
namespace DF
open PySem L2
section
variable {X : Cx} {x : Str} {T : String} {r : List V → Hp → VK → Prop} {t : TA} {e : Expr} {es : List Expr} {p pos : Pos}
theorem pe_cty (hc : CallR X (.type T) r) (hm : X.mg x = none) (hv : bootBuiltins x = some (.type T)) (ha : PA X (e :: es) t) (hg : Gl X x := by rfl) (hn : x ≠ "__name__" := by decide) (hdb : (x == ("__debug__" : Str)) = false := by decide)
    (he : starEach (e :: es) X.env = (false, eval e X.env) :: starEach es X.env := by rfl) (hpl : (backTo pos (starEach es X.env)).any (·.1) = false := by rfl) : PE X (.Call (.Name x p) (e :: es) [] pos) (tCB r t) :=
  ⟨fun pins s σ H Q I h => wpAny_Call_Name_kw (ld_blt I hg hm hv (PyProof.Rows.callWith_type1 (thn (ha.run pos pins s σ H _ I h) fun us s1 ⟨vs, H1, I1, r1, q1⟩ => hc pins s1 σ H1 vs us Q I1 r1 q1) he hpl) hn hdb)⟩
end
/-! ### the law's pot: what is asked of it -/
def PotOk (pt : Pot) : Prop := 0 ≤ pt.1 ∧ 0 < pt.2 ∧ pt.2 ≤ 2147483629
def spPot (K : PySem.W.Frag) : Sp := fun vs H Q _ => ∃ (a : Addr) (ns : List Int) (k : Int), vs = [.ref a, .int k] ∧ SqL K H a (ns.map V.int) ∧ 0 ≤ k ∧ k < 100 ∧ ∀ pt : Pot, PotOk pt → ∀ l, H l = none → Q (.ref l) (upd H l (potO pt))
theorem small_mul {i j : Int} (hi : 0 ≤ i) (hj : 0 ≤ j) (h1 : i < 4294967296) (h2 : j < 4294967296) : CMulW i j := by
  have a : i.natAbs < 2 ^ 32 := by omega
  have b : j.natAbs < 2 ^ 32 := by omega
  exact wide_mul a b (by decide) (by decide) (by decide)
def absI (i : Int) : Int := if i < 0 then -i else i
theorem absI_nn (i : Int) : 0 ≤ absI i := by unfold absI; split <;> omega
theorem pot_ok (c k : Int) (h0 : 0 ≤ k) (h1 : k < 100) : PotOk (if absI c - 10 ^ (18 : Int).toNat > 0 then absI c - 10 ^ (18 : Int).toNat else 0, (absI c % 2147483563 * 40009 + 61297 * k + 17) % 2147483629 + 1) := by
  refine ⟨?_, ?_, ?_⟩
  · show 0 ≤ (if absI c - 10 ^ (18 : Int).toNat > 0 then absI c - 10 ^ (18 : Int).toNat else 0)
    split <;> omega
  · show 0 < (absI c % 2147483563 * 40009 + 61297 * k + 17) % 2147483629 + 1
    omega
  · show (absI c % 2147483563 * 40009 + 61297 * k + 17) % 2147483629 + 1 ≤ 2147483629
    omega
theorem cell_at {ns : List Int} {k : Int} (h0 : 0 ≤ k) (h : k < (ns.map V.int).length) : ∃ c, atI (ns.map V.int) k = some (.int c) := by
  have hn : k.toNat < ns.length := by
    rw [List.length_map] at h
    omega
  refine ⟨ns[k.toNat], ?_⟩
  unfold atI ixN
  rw [if_pos h0, if_pos h, Option.bind_some, List.getElem?_map, List.getElem?_eq_getElem hn]
  rfl
theorem cell_read {K : PySem.W.Frag} {H : Hp} {a : Addr} {ns : List Int} {k : Int} {σ : L2.St} {Q : VK} (hS : SqL K H a (ns.map V.int)) (h0 : 0 ≤ k) (h1 : k < 100) (e0 : σ[0]? = some (some (.ref a))) (e1 : σ[1]? = some (some (.int k))) (fin : ∀ c : Int, Q (.int c) H) :
    tIf (tTest (tOp (rI0 fun i j => .bl (decide (i < j))) (tVar 1) (tCB (fun xs H Q => ∃ x n, xs = [x] ∧ LenV K x H n ∧ Q (.int n) H) (tCons (tVar 0) tNil)))) (tOp (rIxL K) (tVar 0) (tVar 1)) (tOp (rI CMulW fun i j => .int (i * j)) (tC (.int 7)) (tVar 1)) σ H Q := by
  refine ⟨_, e1, _, e0, _, _, rfl, .inl ⟨_, hS, rfl⟩, _, _, rfl, rfl, _, rfl, ?_⟩
  by_cases hk : k < (ns.map V.int).length
  · rw [decide_eq_true hk]
    obtain ⟨c, hc⟩ := cell_at h0 hk
    exact ⟨_, e0, _, e1, a, _, k, _, rfl, rfl, hS, hc, fin c⟩
  · rw [decide_eq_false hk]
    exact ⟨_, e1, _, _, rfl, rfl, small_mul (by decide) h0 (by decide) (by omega), fin _⟩
/-! ### the law -/
def spLaw (K : PySem.W.Frag) : Sp := fun vs H Q _ => ∃ (a : Addr) (ns : List Int), vs = [.ref a] ∧ SqL K H a (ns.map V.int) ∧ ns.length ≤ 63 ∧ ∀ H', Q (.bl true) H'
/-- a def that tells True of every pot -/
def AllPots (m : List D → M D) : Prop := ∀ pt, PotOk pt → ∃ pt', m [.pot] pt = .ok (.bl true) pt'
theorem right_sp {K : PySem.W.Frag} {T : Tb} {m : List D → M D} (hm : AllPots m) {H : Hp} {l : Addr} {pt : Pot} (hp : PotOk pt) (hl : H l = some (potO pt)) {Q : VK} {E : XK}
    (q : ∀ H', (∀ a o, a ≠ l → H a = some o → H' a = some o) → Q (.bl true) H') : spF K T 1 m [.ref l] H Q E := by
  obtain ⟨pt', e⟩ := hm pt hp
  refine ⟨l, [l], [.pot], pt, List.mem_singleton.mpr rfl, fun a ha => ?_, rfl, ?_, hl, ?_⟩
  · rw [List.mem_singleton.mp ha]
    exact ⟨_, hl⟩
  · simp [RL, R]
  · rw [e]
    intro v H' st rv
    simp only [Cy.R, R] at rv
    subst rv
    exact q H' st.keep
theorem law_lc {K : PySem.W.Frag} {T : Tb} {m : List D → M D} (hm : AllPots m) {n : Nat} (hn : n < 100) {a : Addr} {ns : List Int} {H : Hp} {Q : VK} {σ : L2.St} (hS : SqL K H a (ns.map V.int)) (es : σ = [some (.ref a), none])
    (q : ∀ D H', H' D = some (.lst ((List.replicate n true).map V.bl)) → Q (.ref D) H') :
    ∀ D, H D = none → ∃ W : Nat → Nat → Hp → Prop, (∃ m, W 0 m (upd H D (.lst []))) ∧ ∀ i mm H, W i mm H →
      ((Itr 0 n).stop i H ∧ Q (.ref D) H) ∨ ((Itr 0 n).go i H ∧ ∃ Nx : Hp → Prop, (∀ H', Nx H' → ∃ m', m' < mm ∧ W (i + 1) m' H') ∧ ∀ x H', (Itr 0 n).yld i H x H' → gName 1 x (wipe σ [1]) H' fun σ2 H2 => wipe σ2 [1] = wipe σ [1] ∧ tYes σ2 H2 fun b H3 =>
        if b = true then tCallA (spF K T 1 m) [] (WE W0) (tCons (tCallA (spPot K) [] (WE W0) (tCons (tVar 0) (tCons (tVar 1) tNil))) tNil) σ2 H3 fun y H4 => ∃ acc, H4 D = some (.lst acc) ∧ acc.length < sizeLine ∧ Nx (upd H4 D (.lst (acc ++ [y]))) else Nx H3) := by
  subst es
  intro D hD
  refine lc_range (lo := 0) (g := gName 1) (tt := tYes) (te := tCallA (spF K T 1 m) [] (WE W0) (tCons (tCallA (spPot K) [] (WE W0) (tCons (tVar 0) (tCons (tVar 1) tNil))) tNil)) (vs := [1]) (σ := [some (.ref a), none]) (Pv := fun i H' => i ≤ n ∧ (∀ b o, H b = some o → H' b = some o) ∧ H' D = some (.lst ((List.replicate i true).map V.bl))) ⟨Nat.zero_le _, fun b o e => by rw [upd_ne (ne_of_none e hD)]; exact e, upd_same⟩ (fun i H' hi ⟨_, g, hd⟩ => ?_) fun H' ⟨_, g, hd⟩ => q D H' hd
  refine ⟨rfl, ?_⟩
  show tCallA (spF K T 1 m) [] (WE W0) (tCons (tCallA (spPot K) [] (WE W0) (tCons (tVar 0) (tCons (tVar 1) tNil))) tNil) [some (.ref a), some (.int (0 + (i : Int)))] H' _
  refine ⟨_, rfl, _, rfl, a, ns, _, rfl, Gr.sql g hS, by omega, by omega, fun pt hp l hl => ?_⟩
  refine right_sp hm hp upd_same fun H2 kp => ?_
  have hDl : D ≠ l := ne_of_none hd hl
  have hd2 : H2 D = some (.lst ((List.replicate i true).map V.bl)) := kp D _ hDl (by rw [upd_ne hDl]; exact hd)
  refine ⟨_, hd2, ?_, hi, fun b o e => ?_, ?_⟩
  · rw [List.length_map, List.length_replicate]
    exact Nat.lt_of_lt_of_le (Nat.lt_trans hi hn) (by decide)
  · have bD : b ≠ D := ne_of_none e hD
    have bl : b ≠ l := ne_of_none (g b o e) hl
    rw [upd_ne bD]
    exact kp b o bl (by rw [upd_ne bl]; exact g b o e)
  · rw [upd_same, List.replicate_succ', List.map_append]
    rfl
theorem all_reps (n : Nat) : (List.replicate n true).all id = true := by
  rw [List.all_eq_true]
  intro x hx
  rw [List.eq_of_mem_replicate hx]
  rfl
theorem cap_ok {m : Int} (h : m ≤ 90) : -(2 ^ 62) ≤ (if m > 1 then m else 1) ∧ (if m > 1 then m else 1) < (2 ^ 62 : Int) ∧ (if m > 1 then m else 1).toNat < 100 := by
  split <;> refine ⟨?_, ?_, ?_⟩ <;> omega
theorem cx_no {P : Program} {w : World} (H : Hp) (s : Shared) (e : Value) (s' : Shared) (h : L2.CX P w [] H s (fun _ _ _ => False) e s') : False := by
  obtain ⟨_, _, _, _, _, _, _, _, _, _, _, _, z⟩ := h
  exact z
/-- the end of a law whose defs may let exceptions out -/
theorem walkZ {lw : PySem.W.OpenLaw} {k : Nat} {qq : Program} {loose : List Str} {XP : (Str → Option Value) → Heap → Prop} {YP : World → Heap → Prop} {dd : DefRec} {x : Str} (h63 : lw.most = some 63) (hdf : dd.params.defaults = []) (hrm : Room k callerA)
    (F : ∀ (w : World) (mg : Str → Option Value) (fa : Addr) (hh : Heap), YP w hh → hh.Ns mainGlobals mg → mg dd.name = some (.ref fa) → ∃ (K : PySem.W.Frag) (fd : FuncData), K.In hh ∧ (∀ (s : Shared) (u : Value), BindsTo s fd ⟨[u], []⟩ [(x, u)]) ∧
        ∀ bb : Heap, K.In bb → bb.Ns mainGlobals mg → FnOk lw.prog w K mg bb (L2.CX lw.prog w) k fa fd [x] (spLaw K)) : PySem.W.WalkO qq loose XP YP lw.row.toRowW dd [] (fun f vs => PySem.call f vs) := by
  refine Att.attach_call h63 hdf fun w s0 s1 mg mb fa o pm cd doc a vs ns G Y ho hd hcd hmg hobj hints hlen hg => ?_
  obtain ⟨K, fd, KX, hb, hF⟩ := F w mg fa _ Y G.T.g hmg
  exact law_call KX G.T.g G.T.b G.T.builtins G.T.nolimit hg hobj hints (Nat.le_trans hlen (by decide)) hrm hF hb (fun H hO hS => (⟨a, ns, rfl, hS, hlen, fun _ => rfl⟩ : spLaw K [.ref a] H (fun v _ => v = .bl true) fun _ _ _ => False)) fun H e s' => cx_no H s1 e s'
end DF

set_option Elab.async false
set_option linter.all false
set_option maxRecDepth 100000
set_option maxHeartbeats 4000000
/-! DFG: the mirrors worked out by simp. -/
namespace DF
open PySem L2
section
variable {α β : Type} {ρ : Slots} {pt : Pot}
def bndR (r : Res α) (k : α → M β) : Res β := match r with
  | .ok a q => k a q
  | .exc c fs q => .exc c fs q
  | .stuck => .stuck
@[simp] theorem e_bnd (m : M α) (k : α → M β) : bnd m k pt = bndR (m pt) k := by unfold bnd bndR; rfl
@[simp] theorem e_bndok (a : α) (q : Pot) (k : α → M β) : bndR (.ok a q) k = k a q := rfl
@[simp] theorem e_bndst (k : α → M β) : bndR .stuck k = .stuck := rfl
@[simp] theorem e_bndex (c : Nat) (fs : List D) (q : Pot) (k : α → M β) : bndR (.exc c fs q) k = .exc c fs q := rfl
@[simp] theorem e_ret (a : α) : ret a pt = .ok a pt := rfl
@[simp] theorem e_fail : (fail : M α) pt = .stuck := rfl
@[simp] theorem e_some (a : α) : opt (some a) pt = .ok a pt := rfl
@[simp] theorem e_none : opt (none : Option α) pt = .stuck := rfl
@[simp] theorem e_ite {c : Prop} [Decidable c] (a b : M α) : (if c then a else b) pt = if c then a pt else b pt := by split <;> rfl
/-! slots -/
@[simp] theorem e_val (d : D) : valOf (some (some (.val d))) = some d := rfl
@[simp] theorem e_bval (d : D) : bvalOf (some (some (.val d))) = some d := rfl
@[simp] theorem e_bown (ds : List D) : bvalOf (some (some (.own ds))) = some (.lst ds) := rfl
@[simp] theorem e_var (i : Nat) : varE i ρ pt = opt (valOf ρ[i]?) pt := rfl
@[simp] theorem e_bvar (i : Nat) : bvarE i ρ pt = opt (bvalOf ρ[i]?) pt := rfl
@[simp] theorem e_c (d : D) : cE d ρ pt = .ok d pt := rfl
@[simp] theorem e_nilA : nilA ρ pt = .ok [] pt := rfl
@[simp] theorem e_consA (f : Slots → M D) (g : Slots → M (List D)) : consA f g ρ pt = bndR (f ρ pt) fun d => bnd (g ρ) fun ds => ret (d :: ds) := e_bnd _ _
@[simp] theorem e_tupE (g : Slots → M (List D)) : tupE g ρ pt = bndR (g ρ pt) fun ds => if ds.length ≤ 100000 then ret (.tup ds) else fail := e_bnd _ _
@[simp] theorem e_lenA (g : Slots → M (List D)) : lenA g ρ pt = bndR (g ρ pt) fun ds => if ds.length ≤ 100000 then ret ds else fail := e_bnd _ _
@[simp] theorem e_boxE (g : Slots → M (List D)) : boxE g ρ pt = bndR (g ρ pt) fun ds => ret (.lst ds) := e_bnd _ _
@[simp] theorem e_binE (g : D → D → M D) (fa fb : Slots → M D) : binE g fa fb ρ pt = bndR (fa ρ pt) fun x => bnd (fb ρ) fun y => g x y := e_bnd _ _
@[simp] theorem e_asB (b : Bool) : asB (.bl b) pt = .ok b pt := rfl
@[simp] theorem e_testE (f : Slots → M D) : testE f ρ pt = bndR (f ρ pt) asB := e_bnd _ _
@[simp] theorem e_andT (f g : Slots → M Bool) : andT f g ρ pt = bndR (f ρ pt) fun b => if b then g ρ else ret false := e_bnd _ _
@[simp] theorem e_orT (f g : Slots → M Bool) : orT f g ρ pt = bndR (f ρ pt) fun b => if b then ret true else g ρ := e_bnd _ _
@[simp] theorem e_notT (f : Slots → M Bool) : notT f ρ pt = bndR (f ρ pt) fun b => ret (!b) := e_bnd _ _
@[simp] theorem e_andE (f g : Slots → M D) : andE f g ρ pt = bndR (bndR (f ρ pt) asB) fun b => if b then g ρ else ret (.bl false) := by unfold andE; rw [e_bnd, e_bnd]
@[simp] theorem e_orE (f g : Slots → M D) : orE f g ρ pt = bndR (bndR (f ρ pt) asB) fun b => if b then ret (.bl true) else g ρ := by unfold orE; rw [e_bnd, e_bnd]
@[simp] theorem e_notE (f : Slots → M D) : notE f ρ pt = bndR (bndR (f ρ pt) asB) fun b => ret (.bl (!b)) := by unfold notE; rw [e_bnd, e_bnd]
@[simp] theorem e_ifE (t : Slots → M Bool) (f g : Slots → M D) : ifE t f g ρ pt = bndR (t ρ pt) fun b => if b then f ρ else g ρ := e_bnd _ _
def negK : D → M D
  | .int i => ret (.int (-i))
  | _ => fail
@[simp] theorem e_negE (f : Slots → M D) : negE f ρ pt = bndR (f ρ pt) negK := by
  unfold negE bnd bndR
  cases f ρ pt with
  | ok o q => cases o <;> rfl
  | _ => rfl
@[simp] theorem e_negK (i : Int) : negK (.int i) pt = .ok (.int (-i)) pt := rfl
/-! statements -/
@[simp] theorem e_nilS : nilS ρ pt = .ok (.nx ρ) pt := rfl
def seqK (g : Slots → M Out) : Out → M Out
  | .nx ρ' => g ρ'
  | o => ret o
@[simp] theorem e_seqS (f g : Slots → M Out) : seqS f g ρ pt = bndR (f ρ pt) (seqK g) := by
  unfold seqS bnd bndR
  cases f ρ pt with
  | ok o q => cases o <;> rfl
  | _ => rfl
@[simp] theorem e_seqK (g : Slots → M Out) : seqK g (.nx ρ) pt = g ρ pt := rfl
@[simp] theorem e_seqR (g : Slots → M Out) (d : D) : seqK g (.rt d) pt = .ok (.rt d) pt := rfl
@[simp] theorem e_retS (f : Slots → M D) : retS f ρ pt = bndR (f ρ pt) fun d => ret (.rt d) := e_bnd _ _
@[simp] theorem e_retNS : retNS ρ pt = .ok (.rt .non) pt := rfl
@[simp] theorem e_ifS (t : Slots → M Bool) (f g : Slots → M Out) : ifS t f g ρ pt = bndR (t ρ pt) fun b => if b then f ρ else g ρ := e_bnd _ _
@[simp] theorem e_asgS (i : Nat) (f : Slots → M D) : asgS i f ρ pt = bndR (f ρ pt) fun d => if i < ρ.length then ret (.nx (ρ.set i (some (.val d)))) else fail := e_bnd _ _
@[simp] theorem e_asgL (i : Nat) (f : Slots → M (List D)) : asgL i f ρ pt = bndR (f ρ pt) fun d => if i < ρ.length then ret (.nx (ρ.set i (some (.own d)))) else fail := e_bnd _ _
def finK : Out → M D
  | .rt d => ret d
  | .nx _ => ret .non
  | _ => fail
@[simp] theorem e_finr (d : D) : finK (.rt d) pt = .ok d pt := rfl
@[simp] theorem e_finn : finK (.nx ρ) pt = .ok .non pt := rfl
theorem e_fnM (n : Nat) (g : Slots → M Out) (ds : List D) : fnM n g ds pt = bndR (g (ini n ds) pt) finK := by
  unfold fnM bnd bndR
  cases g (ini n ds) pt with
  | ok o q => cases o <;> rfl
  | _ => rfl
def iniK (kc nf : Nat) : Out → M (List D)
  | .nx ρ => opt (fldsOf kc nf ρ)
  | _ => fail
@[simp] theorem e_iniK (kc nf : Nat) : iniK kc nf (.nx ρ) pt = opt (fldsOf kc nf ρ) pt := rfl
theorem e_iniM (kc nf n : Nat) (g : Slots → M Out) (ds : List D) : iniM kc nf n g ds pt = bndR (g (some (.slf kc []) :: ini n ds) pt) (iniK kc nf) := by
  unfold iniM bnd bndR
  cases g (some (.slf kc []) :: ini n ds) pt with
  | ok o q => cases o <;> rfl
  | _ => rfl
/-! operators -/
@[simp] theorem e_pu (g : D → D → Option D) (x y : D) : pu g x y pt = opt (g x y) pt := rfl
@[simp] theorem e_pu1 (g : List D → Option D) (x : List D) : pu1 g x pt = opt (g x) pt := rfl
@[simp] theorem e_blt (g : List D → M α) (fa : Slots → M (List D)) : bltE g fa ρ pt = bndR (fa ρ pt) g := e_bnd _ _
@[simp] theorem e_iop (g : Int → Int → Int) (i j : Int) : iop g (.int i) (.int j) = some (.int (g i j)) := rfl
@[simp] theorem e_iopC (C : Int → Int → Bool) (g : Int → Int → Int) (i j : Int) : iopC C g (.int i) (.int j) = if C i j then some (.int (g i j)) else none := rfl
@[simp] theorem e_icmp (g : Int → Int → Bool) (i j : Int) : icmp g (.int i) (.int j) = some (.bl (g i j)) := rfl
@[simp] theorem e_addI (i j : Int) : addU (.int i) (.int j) pt = .ok (.int (i + j)) pt := rfl
@[simp] theorem e_addS (i j : Str) : addU (.str i) (.str j) pt = (pu sAdd (.str i) (.str j)) pt := by
  show (match pu sAdd (.str i) (.str j) pt with
    | .stuck => orM (boxM lCat) tCat (.str i) (.str j) pt
    | r => r) = _
  cases e : pu sAdd (.str i) (.str j) pt <;> rfl
@[simp] theorem e_eqI (i j : Int) : dEq (.int i) (.int j) = some (.bl (decide (i = j))) := rfl
@[simp] theorem e_neI (i j : Int) : dNe (.int i) (.int j) = some (.bl (!decide (i = j))) := rfl
@[simp] theorem e_eqS (i j : Str) : dEq (.str i) (.str j) = some (.bl (decide (i = j))) := rfl
@[simp] theorem e_neS (i j : Str) : dNe (.str i) (.str j) = some (.bl (!decide (i = j))) := rfl
@[simp] theorem e_eqB (i j : Bool) : dEq (.bl i) (.bl j) = some (.bl (decide (i = j))) := rfl
@[simp] theorem e_neB (i j : Bool) : dNe (.bl i) (.bl j) = some (.bl (!decide (i = j))) := rfl
@[simp] theorem e_call (n : Nat) (fm : List D → M D) (dd : List D) (fa : Slots → M (List D)) : callE n fm dd fa ρ pt = bndR (fa ρ pt) fun ds => if (ds ++ dd).length = n then fm (ds ++ dd) else fail := e_bnd _ _
@[simp] theorem e_make (kc n : Nat) (m : List D → M (List D)) (dd : List D) (fa : Slots → M (List D)) : makeE kc n m dd fa ρ pt = bndR (fa ρ pt) fun ds => if (ds ++ dd).length + 1 = n then bnd (m (ds ++ dd)) fun fs => ret (.obj kc fs) else fail := e_bnd _ _
def getK (kc ix : Nat) : D → M D
  | .obj j fs => if j = kc then opt fs[ix]? else fail
  | _ => fail
@[simp] theorem e_getE (kc ix : Nat) (fo : Slots → M D) : getE kc ix fo ρ pt = bndR (fo ρ pt) (getK kc ix) := by
  unfold getE bnd bndR
  cases fo ρ pt with
  | ok o q => cases o <;> rfl
  | _ => rfl
@[simp] theorem e_getK (kc ix : Nat) (fs : List D) : getK kc ix (.obj kc fs) pt = opt fs[ix]? pt := by
  show (if kc = kc then opt fs[ix]? else fail) pt = _
  rw [if_pos rfl]
def noXR (r : Res α) : Res α := match r with
  | .exc _ _ _ => .stuck
  | r => r
@[simp] theorem e_noX (m : M α) : noX m pt = noXR (m pt) := rfl
@[simp] theorem e_noXok (a : α) : noXR (.ok a pt) = .ok a pt := rfl
def propK (kc : Nat) (fm : List D → M D) : D → M D
  | .obj j fs => if j = kc then noX (fm [.obj j fs]) else fail
  | _ => fail
@[simp] theorem e_propE (kc : Nat) (fm : List D → M D) (fo : Slots → M D) : propE kc fm fo ρ pt = bndR (fo ρ pt) (propK kc fm) := by
  unfold propE bnd bndR
  cases fo ρ pt with
  | ok o q => cases o <;> rfl
  | _ => rfl
@[simp] theorem e_propK (kc : Nat) (fm : List D → M D) (fs : List D) : propK kc fm (.obj kc fs) pt = noXR (fm [.obj kc fs] pt) := by
  show (if kc = kc then noX (fm [.obj kc fs]) else fail) pt = _
  rw [if_pos rfl]
  rfl
def methK (kc n : Nat) (fm : List D → M D) (dd : List D) (fa : Slots → M (List D)) (ρ : Slots) : D → M D
  | .obj j fs => if j = kc then bnd (fa ρ) fun ds => if (ds ++ dd).length + 1 = n then fm (.obj j fs :: (ds ++ dd)) else fail else fail
  | _ => fail
@[simp] theorem e_methE (kc n : Nat) (fm : List D → M D) (dd : List D) (fo : Slots → M D) (fa : Slots → M (List D)) : methE kc n fm dd fo fa ρ pt = bndR (fo ρ pt) (methK kc n fm dd fa ρ) := by
  unfold methE bnd bndR
  cases fo ρ pt with
  | ok o q => cases o <;> rfl
  | _ => rfl
@[simp] theorem e_methK (kc n : Nat) (fm : List D → M D) (dd : List D) (fa : Slots → M (List D)) (fs : List D) : methK kc n fm dd fa ρ (.obj kc fs) pt = bndR (fa ρ pt) fun ds => if (ds ++ dd).length + 1 = n then fm (.obj kc fs :: (ds ++ dd)) else fail := by
  show (if kc = kc then bnd (fa ρ) fun ds => if (ds ++ dd).length + 1 = n then fm (.obj kc fs :: (ds ++ dd)) else fail else fail) pt = _
  rw [if_pos rfl]
  exact e_bnd _ _
def slfOf (kc ix : Nat) : Option (Option SV) → Option (List D)
  | some (some (.slf k fs)) => if k = kc ∧ fs.length = ix then some fs else none
  | _ => none
@[simp] theorem e_slf (kc ix : Nat) (fs : List D) : slfOf kc ix (some (some (.slf kc fs))) = if fs.length = ix then some fs else none := by
  unfold slfOf
  simp
@[simp] theorem e_fldS (i kc ix : Nat) (f : Slots → M D) : fldS i kc ix f ρ pt = bndR (f ρ pt) fun d => opt ((slfOf kc ix ρ[i]?).map fun fs => .nx (ρ.set i (some (.slf kc (fs ++ [d]))))) := by
  unfold fldS
  rw [e_bnd]
  congr 1
  funext d q
  match h : ρ[i]? with
  | some (some (.slf k fs)) =>
    simp only [slfOf]
    by_cases hz : k = kc ∧ fs.length = ix
    · rw [if_pos hz, if_pos hz, hz.1]
      rfl
    · rw [if_neg hz, if_neg hz]
      rfl
  | some (some (.val _)) => rfl
  | some (some (.own _)) => rfl
  | some (some (.ownd _)) => rfl
  | some none => rfl
  | none => rfl
@[simp] theorem e_flds (kc nf : Nat) (fs : List D) (r : Slots) (h : fs.length = nf) : fldsOf kc nf (some (.slf kc fs) :: r) = some fs := by
  unfold fldsOf
  simp [h]
@[simp] theorem e_ix0 : ixM .pot (.int 0) pt = .ok (.int pt.1) pt := rfl
@[simp] theorem e_ix1 : ixM .pot (.int 1) pt = .ok (.int pt.2) pt := rfl
@[simp] theorem e_ixT (ds : List D) (i : Int) : ixM (.tup ds) (.int i) pt = opt (atI ds i) pt := rfl
@[simp] theorem e_ixL (ds : List D) (i : Int) : ixM (.lst ds) (.int i) pt = opt (atI ds i) pt := rfl
@[simp] theorem e_at0 (d : D) (ds : List D) : atI (d :: ds) 0 = some d := by simp [atI, ixN]
@[simp] theorem e_at1 (d e : D) (ds : List D) : atI (d :: e :: ds) 1 = some e := by
  unfold atI ixN
  rw [if_pos (by decide), if_pos (by simp only [List.length_cons]; omega)]
  rfl
@[simp] theorem e_at2 (d e f : D) (ds : List D) : atI (d :: e :: f :: ds) 2 = some f := by
  unfold atI ixN
  rw [if_pos (by decide), if_pos (by simp only [List.length_cons]; omega)]
  rfl
@[simp] theorem e_isi (nC : Nat) (ans : Sum String Nat → Option Bool) (fo : Slots → M D) : isiE nC ans fo ρ pt = bndR (fo ρ pt) fun x => opt (((knd nC x).bind ans).map .bl) := e_bnd _ _
@[simp] theorem e_forS (fi : Slots → M (List D)) (tgf : D → Slots → Option Slots) (g : Slots → M Out) : forS fi tgf g ρ pt = bndR (fi ρ pt) fun items => forL tgf g items ρ := e_bnd _ _
def forK (tgf : D → Slots → Option Slots) (g : Slots → M Out) (ds : List D) : Out → M Out
  | .nx ρ2 => forL tgf g ds ρ2
  | .ct ρ2 => forL tgf g ds ρ2
  | .bk ρ2 => ret (.nx ρ2)
  | .rt d => ret (.rt d)
@[simp] theorem e_forL0 (tgf : D → Slots → Option Slots) (g : Slots → M Out) : forL tgf g [] ρ pt = .ok (.nx ρ) pt := rfl
@[simp] theorem e_forL (tgf : D → Slots → Option Slots) (g : Slots → M Out) (d : D) (ds : List D) : forL tgf g (d :: ds) ρ pt = bndR (opt (tgf d ρ) pt) fun ρ1 => bnd (g ρ1) (forK tgf g ds) := by
  show bnd (opt (tgf d ρ)) _ pt = _
  rw [e_bnd]
  cases opt (tgf d ρ) pt with
  | ok r q =>
    simp only [e_bndok, e_bnd]
    cases g r q with
    | ok o z => cases o <;> rfl
    | _ => rfl
  | _ => rfl
@[simp] theorem e_forK (tgf : D → Slots → Option Slots) (g : Slots → M Out) (ds : List D) : forK tgf g ds (.nx ρ) pt = forL tgf g ds ρ pt := rfl
@[simp] theorem e_forKr (tgf : D → Slots → Option Slots) (g : Slots → M Out) (ds : List D) (d : D) : forK tgf g ds (.rt d) pt = .ok (.rt d) pt := rfl
@[simp] theorem e_itE (f : Slots → M D) : itE f ρ pt = bndR (f ρ pt) fun d => opt (itemsOf d) := e_bnd _ _
@[simp] theorem e_itA (g : List D → Option (List D)) (fa : Slots → M (List D)) : itA g fa ρ pt = bndR (fa ρ pt) fun ds => opt (g ds) := e_bnd _ _
@[simp] theorem e_itT (ds : List D) : itemsOf (.tup ds) = some ds := rfl
@[simp] theorem e_itL (ds : List D) : itemsOf (.lst ds) = some ds := rfl
@[simp] theorem e_tgN (i : Nat) (d : D) : tgN i d ρ = if i < ρ.length then some (ρ.set i (some (.val d))) else none := rfl
@[simp] theorem e_tgT (ts : List (D → Slots → Option Slots)) (ds : List D) : tgT ts (.tup ds) ρ = tgs ts ds ρ := rfl
@[simp] theorem e_tgLT (ts : List (D → Slots → Option Slots)) (ds : List D) : tgL ts (.tup ds) ρ = tgs ts ds ρ := rfl
@[simp] theorem e_tgLL (ts : List (D → Slots → Option Slots)) (ds : List D) : tgL ts (.lst ds) ρ = tgs ts ds ρ := rfl
@[simp] theorem e_tgs0 : tgs [] [] ρ = some ρ := rfl
@[simp] theorem e_tgs (t : D → Slots → Option Slots) (ts : List (D → Slots → Option Slots)) (d : D) (ds : List D) : tgs (t :: ts) (d :: ds) ρ = (t d ρ).bind (tgs ts ds) := rfl
@[simp] theorem e_comp (fi : Slots → M (List D)) (vs : List Nat) (tgf : D → Slots → Option Slots) (t : Slots → M Bool) (f : Slots → M D) : compE fi vs tgf t f ρ pt = bndR (fi ρ pt) fun items => if noOwn ρ vs then compL tgf t f (wipeD ρ vs) items [] else fail := e_bnd _ _
@[simp] theorem e_compL0 (tgf : D → Slots → Option Slots) (t : Slots → M Bool) (f : Slots → M D) (acc : List D) : compL tgf t f ρ [] acc pt = .ok acc pt := rfl
@[simp] theorem e_compL (tgf : D → Slots → Option Slots) (t : Slots → M Bool) (f : Slots → M D) (d : D) (ds acc : List D) : compL tgf t f ρ (d :: ds) acc pt = bndR (opt (tgf d ρ) pt) fun ρ1 => bnd (noX (t ρ1)) fun b => if b then bnd (noX (f ρ1)) fun y => (if acc.length < 100000 then compL tgf t f ρ ds (acc ++ [y]) else fail) else compL tgf t f ρ ds acc := e_bnd _ _
@[simp] theorem e_yesT : yesT ρ pt = .ok true pt := rfl
@[simp] theorem e_wipe0 : wipeD ρ [] = ρ := rfl
@[simp] theorem e_wipe (v : Nat) (vs : List Nat) : wipeD ρ (v :: vs) = (wipeD ρ vs).set v none := rfl
@[simp] theorem e_unp (tgf : D → Slots → Option Slots) (f : Slots → M D) : unpS tgf f ρ pt = bndR (f ρ pt) fun d => bnd (opt (tgf d ρ)) fun ρ' => ret (.nx ρ') := e_bnd _ _
@[simp] theorem e_par (i j : Nat) (fa : Slots → M (List D)) : parS i j fa ρ pt = bndR (fa ρ pt) fun ds => bnd (opt (tgs [tgN i, tgN j] ds ρ)) fun ρ' => ret (.nx ρ') := e_bnd _ _
@[simp] theorem e_par3 (i j l : Nat) (fa : Slots → M (List D)) : par3S i j l fa ρ pt = bndR (fa ρ pt) fun ds => bnd (opt (tgs [tgN i, tgN j, tgN l] ds ρ)) fun ρ' => ret (.nx ρ') := e_bnd _ _
@[simp] theorem e_slE (fa : Slots → M D) (fl fh : Slots → M (Option Int)) : slE fa fl fh ρ pt = bndR (fa ρ pt) fun x => bnd (fl ρ) fun lo => bnd (fh ρ) fun hi => slM x lo hi := e_bnd _ _
@[simp] theorem e_noO : noO ρ pt = .ok none pt := rfl
def soK : D → M (Option Int)
  | .int i => ret (some i)
  | _ => fail
@[simp] theorem e_soO (f : Slots → M D) : soO f ρ pt = bndR (f ρ pt) soK := by
  unfold soO bnd bndR
  cases f ρ pt with
  | ok o q => cases o <;> rfl
  | _ => rfl
@[simp] theorem e_soK (i : Int) : soK (.int i) pt = .ok (some i) pt := rfl
@[simp] theorem e_joinE (fa fb : Slots → M D) : joinE fa fb ρ pt = bndR (fa ρ pt) fun x => bnd (opt (strOf1 x)) fun a => bnd (fb ρ) fun y => opt (joinF a y) := e_bnd _ _
@[simp] theorem e_str1 (x : Str) : strOf1 (.str x) = some x := rfl
@[simp] theorem e_oneE (g : D → Option D) (f : Slots → M D) : oneE g f ρ pt = bndR (f ρ pt) fun d => opt (g d) := e_bnd _ _
@[simp] theorem e_joined (fs : List (Slots → M D)) : joinedE fs ρ pt = glueE fs Str.empty ρ pt := rfl
@[simp] theorem e_glue0 (acc : Str) : glueE [] acc ρ pt = .ok (.str acc) pt := rfl
@[simp] theorem e_glue (f : Slots → M D) (fs : List (Slots → M D)) (acc : Str) : glueE (f :: fs) acc ρ pt = bndR (f ρ pt) fun d => bnd (opt (strOf1 d)) fun y => if (acc ++ y).length ≤ 1000000 then glueE fs (acc ++ y) ρ else fail := e_bnd _ _
@[simp] theorem e_unE (g : D → M D) (f : Slots → M D) : unE g f ρ pt = bndR (f ρ pt) g := e_bnd _ _
@[simp] theorem e_unM (kc : Nat) (fm : List D → M D) (fs : List D) : unM kc fm (.obj kc fs) pt = fm [.obj kc fs] pt := by
  show (if kc = kc then fm [.obj kc fs] else fail) pt = _
  rw [if_pos rfl]
@[simp] theorem e_txM (kc : Nat) (fm : List D → M D) (fs : List D) : txM kc fm [.obj kc fs] pt = bndR (fm [.obj kc fs] pt) fun d => bnd (opt (strOf1 d)) fun y => ret (.str y) := by
  show (if kc = kc then bnd (fm [.obj kc fs]) _ else fail) pt = _
  rw [if_pos rfl]
  exact e_bnd _ _
@[simp] theorem e_ownM (nC kc : Nat) (fm : List D → M D) (fs : List D) (y : D) : ownM nC kc fm (.obj kc fs) y pt = if (knd nC y).isSome then fm [.obj kc fs, y] pt else .stuck := by
  show (if kc = kc ∧ (knd nC y).isSome = true then fm [.obj kc fs, y] else fail) pt = _
  by_cases h : (knd nC y).isSome = true <;> simp [h]
@[simp] theorem e_neM (nC kc : Nat) (fm : List D → M D) (x y : D) : neM nC kc fm x y pt = bndR (ownM nC kc fm x y pt) notB := e_bnd _ _
@[simp] theorem e_notB (b : Bool) : notB (.bl b) pt = .ok (.bl (!b)) pt := rfl
@[simp] theorem e_own (ds : List D) : ownOf (some (some (.own ds))) = some ds := rfl
@[simp] theorem e_app (i : Nat) (f : Slots → M D) : appS i f ρ pt = bndR (opt (ownOf ρ[i]?) pt) fun ds => bnd (f ρ) fun d => growM i ρ ds [d] := e_bnd _ _
@[simp] theorem e_ext (i : Nat) (f : Slots → M D) : extS i f ρ pt = bndR (opt (ownOf ρ[i]?) pt) fun ds => bnd (f ρ) fun d => bnd (opt (lstOf d)) fun es => growM i ρ ds es := e_bnd _ _
@[simp] theorem e_grow (i : Nat) (ds es : List D) : growM i ρ ds es pt = if ds.length + es.length ≤ 100000 then .ok (.nx (ρ.set i (some (.own (ds ++ es))))) pt else .stuck := e_ite _ _
@[simp] theorem e_lst1 (ds : List D) : lstOf (.lst ds) = some ds := rfl
@[simp] theorem e_kI (nC : Nat) (i : Int) : knd nC (.int i) = some (.inl "int") := rfl
@[simp] theorem e_kS (nC : Nat) (i : Str) : knd nC (.str i) = some (.inl "str") := rfl
@[simp] theorem e_kB (nC : Nat) (i : Bool) : knd nC (.bl i) = some (.inl "bool") := rfl
@[simp] theorem e_kN (nC : Nat) : knd nC .non = some (.inl "NoneType") := rfl
@[simp] theorem e_kL (nC : Nat) (i : List D) : knd nC (.lst i) = some (.inl "list") := rfl
@[simp] theorem e_kT (nC : Nat) (i : List D) : knd nC (.tup i) = some (.inl "tuple") := rfl
@[simp] theorem e_kO (nC k : Nat) (fs : List D) : knd nC (.obj k fs) = if k < nC then some (.inr k) else none := rfl
@[simp] theorem e_ansI (ts : List String) (cs : List Bool) (n : String) : ansOf ts cs (.inl n) = if n ∈ tagB then some (decide (n ∈ ts)) else none := rfl
@[simp] theorem e_ansO (ts : List String) (cs : List Bool) (k : Nat) : ansOf ts cs (.inr k) = cs[k]? := rfl
@[simp] theorem e_tagB (n : String) : (n ∈ tagB) = (n = "NoneType" ∨ n = "bool" ∨ n = "int" ∨ n = "str" ∨ n = "list" ∨ n = "tuple" ∨ n = "dict") := by simp [tagB]
end
@[simp] theorem e_addT (i j : List D) {pt : Pot} : addU (.tup i) (.tup j) pt = tCat (.tup i) (.tup j) pt := rfl
/-! ### a draw -/
def Pt (pt : Pot) : Prop := 0 ≤ pt.1 ∧ 0 ≤ pt.2 ∧ pt.2 < 4294967296
theorem PotOk.pt {pt : Pot} (h : PotOk pt) : Pt pt := ⟨h.1, Int.le_of_lt h.2.1, by have := h.2.2; omega⟩
end DF

set_option Elab.async false
set_option linter.all false
set_option maxRecDepth 100000
set_option maxHeartbeats 4000000
/-! DFH: numbers with bounds, texts of numbers. -/
namespace DF
open PySem L2
def Bd (k : Nat) (z : Int) : Prop := z.natAbs < 2 ^ k
def MulOk (i j : Int) : Prop := i.natAbs.log2 + j.natAbs.log2 < 1000000
def Log (i : Int) : Prop := i.natAbs.log2 < 1920
theorem Bd.log {k : Nat} {z : Int} (h : Bd k z) (hk : 0 < k) : z.natAbs.log2 < k := by
  by_cases e : z.natAbs = 0
  · rw [e]
    exact hk
  · exact (Nat.log2_lt e).mpr h
theorem Bd.mono {k l : Nat} {z : Int} (h : Bd k z) (hk : k ≤ l) : Bd l z := Nat.lt_of_lt_of_le h (Nat.pow_le_pow_right (by decide) hk)
theorem Bd.add {k : Nat} {x y : Int} (h : Bd k x) (h' : Bd k y) : Bd (k + 1) (x + y) := by
  unfold Bd at *
  have := Int.natAbs_add_le x y
  rw [Nat.pow_succ]
  omega
theorem Bd.neg {k : Nat} {x : Int} (h : Bd k x) : Bd k (-x) := by
  unfold Bd at *
  rw [Int.natAbs_neg]
  exact h
theorem Bd.sub {k : Nat} {x y : Int} (h : Bd k x) (h' : Bd k y) : Bd (k + 1) (x - y) := by
  rw [Int.sub_eq_add_neg]
  exact h.add h'.neg
theorem Bd.mul {k l : Nat} {x y : Int} (h : Bd k x) (h' : Bd l y) : Bd (k + l) (x * y) := by
  unfold Bd at *
  rw [Int.natAbs_mul, Nat.pow_add]
  exact Nat.mul_lt_mul'' h h'
theorem Bd.ok {k l : Nat} {x y : Int} (h : Bd k x) (h' : Bd l y) (hk : 0 < k) (hl : 0 < l) (hs : k + l ≤ 1000000) : MulOk x y := by
  have := h.log hk
  have := h'.log hl
  unfold MulOk
  omega
theorem Bd.lg {k : Nat} {x : Int} (h : Bd k x) (hk : 0 < k) (hs : k ≤ 1920) : Log x := Nat.lt_of_lt_of_le (h.log hk) hs
@[simp high] theorem e_mul (i j : Int) (h : MulOk i j) : iMul (.int i) (.int j) = some (.int (i * j)) := by
  show (if decide (i.natAbs.log2 + j.natAbs.log2 < 1000000) = true then some (D.int (i * j)) else none) = _
  rw [if_pos (decide_eq_true (show i.natAbs.log2 + j.natAbs.log2 < 1000000 from h))]
theorem log_lt64 {j : Int} (h0 : 0 < j) (h1 : j < 18446744073709551616) : j.natAbs.log2 < 9000 := by
  have : Bd 64 j := by unfold Bd; omega
  exact Nat.lt_trans (this.log (by decide)) (by decide)
@[simp high] theorem e_div (i j : Int) (h0 : 0 < j) (h1 : j < 18446744073709551616) : iDiv (.int i) (.int j) = some (.int (i / j)) := by
  show (if (decide (0 < j) && decide (j.natAbs.log2 < 9000)) = true then some (D.int (i / j)) else none) = _
  rw [if_pos (by rw [decide_eq_true h0, decide_eq_true (log_lt64 h0 h1)]; rfl)]
/-! ### the text of a number -/
theorem ofs_app (a b : String) : Str.ofString (a ++ b) = Str.ofString a ++ Str.ofString b := by
  rw [Str.ofString_eq_toList, Str.ofString_eq_toList, Str.ofString_eq_toList]
  apply Str.ext'
  rw [Str.cps_append]
  simp
def tx (i : Int) : Str := Str.ofString (toString i)
theorem tx_neg {i : Int} (h : 0 < i) : tx (-i) = Str.ofString "-" ++ tx i := by
  obtain ⟨n, rfl⟩ := Int.eq_ofNat_of_zero_le (Int.le_of_lt h)
  cases n with
  | zero => omega
  | succ m =>
    unfold tx
    rw [← ofs_app]
    rfl
theorem tx_len {i : Int} (h : Log i) : (tx i).length ≤ 1921 := by
  unfold tx
  rw [ofString_length]
  exact int_text_length_le (by decide) h
@[simp] theorem e_fmtI (i : Int) (h : Log i) : fmtF (.int i) = some (.str (tx i)) := by
  show (if i.natAbs.log2 < 1920 then some (D.str (toString i)) else none) = _
  rw [if_pos (show i.natAbs.log2 < 1920 from h)]
  rfl
@[simp] theorem e_strI (i : Int) (h : Log i) : strF [.int i] = some (.str (tx i)) := by
  show (if i.natAbs.log2 < 1920 then some (D.str (toString i)) else none) = _
  rw [if_pos (show i.natAbs.log2 < 1920 from h)]
  rfl
theorem tx_pos (i : Int) : 0 < (tx i).length := by
  have nn : ∀ n : Nat, 0 < (tx (n : Int)).length := fun n => by
    have h := TL.tl_num n
    have h2 := TL.numL_ne n
    rw [← h] at h2
    unfold tx Str.length
    unfold TL.tl at h2
    cases e : (Str.ofString (toString ((n : Nat) : Int))).cps with
    | mk l =>
      rw [e] at h2
      cases l with
      | nil => exact absurd rfl h2
      | cons a l => exact Nat.succ_pos _
  by_cases h : 0 ≤ i
  · obtain ⟨n, rfl⟩ := Int.eq_ofNat_of_zero_le h
    exact nn n
  · have : i = -(-i) := by omega
    rw [this, tx_neg (by omega), Str.length_append]
    obtain ⟨n, e⟩ := Int.eq_ofNat_of_zero_le (show 0 ≤ -i by omega)
    rw [e]
    have := nn n
    omega
theorem len_ne {a b : Str} (h : 0 < a.length) (hb : b.length = 0) : ¬ a = b := fun e => by
  rw [e, hb] at h
  exact Nat.lt_irrefl _ h
@[simp] theorem e_sAdd (a b : Str) (h : a.length + b.length ≤ 1000000) : sAdd (.str a) (.str b) = some (.str (a ++ b)) := by
  show (if _ then _ else _) = _
  rw [if_pos h]
theorem sok_app {a b : Str} (ha : PyData.strOk a = true) (hb : PyData.strOk b = true) : PyData.strOk (a ++ b) = true := by
  unfold PyData.strOk at *
  rw [Str.cps_append, Array.all_append, ha, hb]
  rfl
theorem sok_ofs (s : String) : PyData.strOk (Str.ofString s) = true := by
  unfold PyData.strOk
  rw [Str.ofString_eq_toList]
  simp only [List.all_toArray, List.all_eq_true, List.mem_map, forall_exists_index, and_imp]
  rintro n c _ rfl
  refine decide_eq_true ?_
  have h := c.valid
  unfold UInt32.isValidChar Nat.isValidChar at h
  show c.val.toNat < 1114112
  rcases h with h | h
  · exact Nat.lt_trans h (by decide)
  · exact h.2
end DF

set_option Elab.async false
set_option linter.all false
set_option maxRecDepth 100000
set_option maxHeartbeats 4000000
namespace LW
open PySem L2 DF
def top (i : Nat) : Stmt := PySem.Challenge.pw_stitchsizes_k31_whole_forms.main.body.getD i (.Pass ⟨0, 0, 0, 0⟩)
def cls_ : List (Str × List Str) := [("Form", ["own_x", "own_y", "own_constant"])]
theorem nd_Form : (["own_x", "own_y", "own_constant"] : List Str).Nodup := by decide +kernel
theorem no_Form_at : ("at" : Str) ∉ (["own_x", "own_y", "own_constant"] : List Str) := by decide +kernel
theorem no_Form_put : ("put" : Str) ∉ (["own_x", "own_y", "own_constant"] : List Str) := by decide +kernel
theorem hn1_Form {K : PySem.W.Frag} : ∀ k, k < 1 → (tbOf cls_ K).cls k = He.ga K "Form"
  | 0, _ => rfl
  | k + 1, h => absurd h (by omega)
abbrev s__law_pot : Stmt := top 11
abbrev s_law : Stmt := top 22
abbrev s__law_draw : Stmt := top 12
abbrev s__law_pick : Stmt := top 13
abbrev s__law_number : Stmt := top 14
abbrev s__law_numbers : Stmt := top 15
abbrev s_is_integer : Stmt := top 1
abbrev s_Formzz_initzz : Stmt := inClass (top 8) 0
abbrev s__law_made : Stmt := top 16
abbrev s_Form_constant : Stmt := inClass (top 8) 3
abbrev s_Form_y : Stmt := inClass (top 8) 2
abbrev s_Form_x : Stmt := inClass (top 8) 1
abbrev s_written_term : Stmt := top 7
abbrev s_Formzz_strzz : Stmt := inClass (top 8) 12
abbrev s__law_text : Stmt := top 18
abbrev s_Form_is_number : Stmt := inClass (top 8) 4
abbrev s_Formzz_reprzz : Stmt := inClass (top 8) 13
abbrev s__law_is : Stmt := top 19
abbrev s_form_of : Stmt := top 9
abbrev s_Formzz_addzz : Stmt := inClass (top 8) 7
abbrev s_Formzz_subzz : Stmt := inClass (top 8) 8
abbrev s_Formzz_negzz : Stmt := inClass (top 8) 10
abbrev s_Formzz_mulzz : Stmt := inClass (top 8) 9
abbrev s__law_sum_right : Stmt := top 20
abbrev s_Form_at : Stmt := inClass (top 8) 5
abbrev s__law_value : Stmt := top 17
abbrev s_Form_put : Stmt := inClass (top 8) 6
abbrev s_Formzz_eqzz : Stmt := inClass (top 8) 11
abbrev s__law_right : Stmt := top 21
def oks : List Fct := [fFree "range",
  fFree "divmod",
  fFree "int",
  fGlo "_law_draw",
  fFree "len",
  fGlo "_law_pick",
  fGlo "_law_number",
  fGlo "_law_numbers",
  fIsi (fun _ => .type "int") ["int", "bool"] ["Form"] [false],
  fClsI "Form",
  fFree "isinstance",
  fFree "bool",
  fIsi (fun _ => .type "bool") ["bool"] ["Form"] [false],
  fGlo "is_integer",
  fNoat "Form" "own_x",
  fCls "Form",
  fNoat "Form" "own_y",
  fNoat "Form" "own_constant",
  fGlo "Form",
  fMk "Form",
  fGlo "_law_made",
  fProp "Form" "constant",
  fProp "Form" "y",
  fProp "Form" "x",
  fFree "list",
  fFree "abs",
  fFree "str",
  fGlo "written_term",
  fMeth "Form" "__str__",
  fGlo "_law_text",
  fProp "Form" "is_number",
  fFree "repr",
  fMeth "Form" "__repr__",
  fGlo "_law_is",
  fFree "zip",
  fFree "tuple",
  fIsi (fun K => .ref (He.ga K "Form")) [] ["Form"] [true],
  fGlo "form_of",
  fCmp "Form" ["Form"],
  fMeth "Form" "__add__",
  fBin "Form" .Add,
  fMeth "Form" "__sub__",
  fBin "Form" .Sub,
  fMeth "Form" "__neg__",
  fMeth "Form" "__mul__",
  fBin "Form" .Mult,
  fGlo "_law_sum_right",
  fMeth "Form" "at",
  fGlo "_law_value",
  fMeth "Form" "put",
  fMeth "Form" "__eq__",
  fNe "Form",
  fGlo "_law_pot",
  fGlo "law",
  fFree "max",
  fFree "min",
  fFree "all",
  fGlo "_law_right"]
def d__law_draw : He5.DefA := ⟨fun K => (He.ga K "_law_draw"), "_law_draw", "_law_draw", defArgs s__law_draw, defBody s__law_draw, defScope s__law_draw, [], []⟩
def d__law_pick : He5.DefA := ⟨fun K => (He.ga K "_law_pick"), "_law_pick", "_law_pick", defArgs s__law_pick, defBody s__law_pick, defScope s__law_pick, [], []⟩
def d__law_number : He5.DefA := ⟨fun K => (He.ga K "_law_number"), "_law_number", "_law_number", defArgs s__law_number, defBody s__law_number, defScope s__law_number, [], []⟩
def d__law_numbers : He5.DefA := ⟨fun K => (He.ga K "_law_numbers"), "_law_numbers", "_law_numbers", defArgs s__law_numbers, defBody s__law_numbers, defScope s__law_numbers, [], []⟩
def d_is_integer : He5.DefA := ⟨fun K => (He.ga K "is_integer"), "is_integer", "is_integer", defArgs s_is_integer, defBody s_is_integer, defScope s_is_integer, [], []⟩
def d_Formzz_initzz : He5.DefA := ⟨fun K => (He.ma K (He.ga K "Form") "__init__"), "__init__", "Form.__init__", defArgs s_Formzz_initzz, defBody s_Formzz_initzz, defScope s_Formzz_initzz, [.int 0, .int 0, .int 0], []⟩
def d__law_made : He5.DefA := ⟨fun K => (He.ga K "_law_made"), "_law_made", "_law_made", defArgs s__law_made, defBody s__law_made, defScope s__law_made, [], []⟩
def d_Form_constant : He5.DefA := ⟨fun K => (He5.wf K (He.ga K "Form") "property" "constant"), "constant", "Form.constant", defArgs s_Form_constant, defBody s_Form_constant, defScope s_Form_constant, [], []⟩
def d_Form_y : He5.DefA := ⟨fun K => (He5.wf K (He.ga K "Form") "property" "y"), "y", "Form.y", defArgs s_Form_y, defBody s_Form_y, defScope s_Form_y, [], []⟩
def d_Form_x : He5.DefA := ⟨fun K => (He5.wf K (He.ga K "Form") "property" "x"), "x", "Form.x", defArgs s_Form_x, defBody s_Form_x, defScope s_Form_x, [], []⟩
def d_written_term : He5.DefA := ⟨fun K => (He.ga K "written_term"), "written_term", "written_term", defArgs s_written_term, defBody s_written_term, defScope s_written_term, [], []⟩
def d_Formzz_strzz : He5.DefA := ⟨fun K => (He.ma K (He.ga K "Form") "__str__"), "__str__", "Form.__str__", defArgs s_Formzz_strzz, defBody s_Formzz_strzz, defScope s_Formzz_strzz, [], []⟩
def d__law_text : He5.DefA := ⟨fun K => (He.ga K "_law_text"), "_law_text", "_law_text", defArgs s__law_text, defBody s__law_text, defScope s__law_text, [], []⟩
def d_Form_is_number : He5.DefA := ⟨fun K => (He5.wf K (He.ga K "Form") "property" "is_number"), "is_number", "Form.is_number", defArgs s_Form_is_number, defBody s_Form_is_number, defScope s_Form_is_number, [], []⟩
def d_Formzz_reprzz : He5.DefA := ⟨fun K => (He.ma K (He.ga K "Form") "__repr__"), "__repr__", "Form.__repr__", defArgs s_Formzz_reprzz, defBody s_Formzz_reprzz, defScope s_Formzz_reprzz, [], []⟩
def d__law_is : He5.DefA := ⟨fun K => (He.ga K "_law_is"), "_law_is", "_law_is", defArgs s__law_is, defBody s__law_is, defScope s__law_is, [], []⟩
def d_form_of : He5.DefA := ⟨fun K => (He.ga K "form_of"), "form_of", "form_of", defArgs s_form_of, defBody s_form_of, defScope s_form_of, [], []⟩
def d_Formzz_addzz : He5.DefA := ⟨fun K => (He.ma K (He.ga K "Form") "__add__"), "__add__", "Form.__add__", defArgs s_Formzz_addzz, defBody s_Formzz_addzz, defScope s_Formzz_addzz, [], []⟩
def d_Formzz_subzz : He5.DefA := ⟨fun K => (He.ma K (He.ga K "Form") "__sub__"), "__sub__", "Form.__sub__", defArgs s_Formzz_subzz, defBody s_Formzz_subzz, defScope s_Formzz_subzz, [], []⟩
def d_Formzz_negzz : He5.DefA := ⟨fun K => (He.ma K (He.ga K "Form") "__neg__"), "__neg__", "Form.__neg__", defArgs s_Formzz_negzz, defBody s_Formzz_negzz, defScope s_Formzz_negzz, [], []⟩
def d_Formzz_mulzz : He5.DefA := ⟨fun K => (He.ma K (He.ga K "Form") "__mul__"), "__mul__", "Form.__mul__", defArgs s_Formzz_mulzz, defBody s_Formzz_mulzz, defScope s_Formzz_mulzz, [], []⟩
def d__law_sum_right : He5.DefA := ⟨fun K => (He.ga K "_law_sum_right"), "_law_sum_right", "_law_sum_right", defArgs s__law_sum_right, defBody s__law_sum_right, defScope s__law_sum_right, [], []⟩
def d_Form_at : He5.DefA := ⟨fun K => (He.ma K (He.ga K "Form") "at"), "at", "Form.at", defArgs s_Form_at, defBody s_Form_at, defScope s_Form_at, [.int 0], []⟩
def d__law_value : He5.DefA := ⟨fun K => (He.ga K "_law_value"), "_law_value", "_law_value", defArgs s__law_value, defBody s__law_value, defScope s__law_value, [], []⟩
def d_Form_put : He5.DefA := ⟨fun K => (He.ma K (He.ga K "Form") "put"), "put", "Form.put", defArgs s_Form_put, defBody s_Form_put, defScope s_Form_put, [], []⟩
def d_Formzz_eqzz : He5.DefA := ⟨fun K => (He.ma K (He.ga K "Form") "__eq__"), "__eq__", "Form.__eq__", defArgs s_Formzz_eqzz, defBody s_Formzz_eqzz, defScope s_Formzz_eqzz, [], []⟩
def d__law_right : He5.DefA := ⟨fun K => (He.ga K "_law_right"), "_law_right", "_law_right", defArgs s__law_right, defBody s__law_right, defScope s__law_right, [], []⟩
def d__law_pot : He5.DefA := ⟨fun K => (He.ga K "_law_pot"), "_law_pot", "_law_pot", defArgs s__law_pot, defBody s__law_pot, defScope s__law_pot, [], []⟩
def d_law : He5.DefA := ⟨fun K => (He.ga K "law"), "law", "law", defArgs s_law, defBody s_law, defScope s_law, [], []⟩
def fns : List He5.DefA := [d__law_draw, d__law_pick, d__law_number, d__law_numbers, d_is_integer, d_Formzz_initzz, d__law_made, d_Form_constant, d_Form_y, d_Form_x, d_written_term, d_Formzz_strzz, d__law_text, d_Form_is_number, d_Formzz_reprzz, d__law_is, d_form_of, d_Formzz_addzz, d_Formzz_subzz, d_Formzz_negzz, d_Formzz_mulzz, d__law_sum_right, d_Form_at, d__law_value, d_Form_put, d_Formzz_eqzz, d__law_right, d__law_pot, d_law]
abbrev TX (K : PySem.W.Frag) (mg : Str → Option Value) : Prop := Tx oks fns K mg
section
variable {P : Program} {w : World} {K : PySem.W.Frag} {mg : Str → Option Value} {base : Heap}
theorem hCs (t : TX K mg) : ∀ k, k < 1 → ClsI K ((tbOf cls_ K).cls k)
  | 0, _ => t.clsI (x := "Form") 9
  | k + 1, h => absurd h (by omega)
theorem u__law_draw (t : TX K mg) : FunD K "_law_draw" "_law_draw" (defArgs s__law_draw) (defBody s__law_draw) (defScope s__law_draw) [] [] (He.ga K "_law_draw") (fdAt K (He.ga K "_law_draw")) := t.c.def_ 0 (d := d__law_draw) rfl
theorem u__law_pick (t : TX K mg) : FunD K "_law_pick" "_law_pick" (defArgs s__law_pick) (defBody s__law_pick) (defScope s__law_pick) [] [] (He.ga K "_law_pick") (fdAt K (He.ga K "_law_pick")) := t.c.def_ 1 (d := d__law_pick) rfl
theorem u__law_number (t : TX K mg) : FunD K "_law_number" "_law_number" (defArgs s__law_number) (defBody s__law_number) (defScope s__law_number) [] [] (He.ga K "_law_number") (fdAt K (He.ga K "_law_number")) := t.c.def_ 2 (d := d__law_number) rfl
theorem u__law_numbers (t : TX K mg) : FunD K "_law_numbers" "_law_numbers" (defArgs s__law_numbers) (defBody s__law_numbers) (defScope s__law_numbers) [] [] (He.ga K "_law_numbers") (fdAt K (He.ga K "_law_numbers")) := t.c.def_ 3 (d := d__law_numbers) rfl
theorem u_is_integer (t : TX K mg) : FunD K "is_integer" "is_integer" (defArgs s_is_integer) (defBody s_is_integer) (defScope s_is_integer) [] [] (He.ga K "is_integer") (fdAt K (He.ga K "is_integer")) := t.c.def_ 4 (d := d_is_integer) rfl
theorem u_Formzz_initzz (t : TX K mg) : FunD K "__init__" "Form.__init__" (defArgs s_Formzz_initzz) (defBody s_Formzz_initzz) (defScope s_Formzz_initzz) [.int 0, .int 0, .int 0] [] (He.ma K (He.ga K "Form") "__init__") (fdAt K (He.ma K (He.ga K "Form") "__init__")) := t.c.def_ 5 (d := d_Formzz_initzz) rfl
theorem u__law_made (t : TX K mg) : FunD K "_law_made" "_law_made" (defArgs s__law_made) (defBody s__law_made) (defScope s__law_made) [] [] (He.ga K "_law_made") (fdAt K (He.ga K "_law_made")) := t.c.def_ 6 (d := d__law_made) rfl
theorem u_Form_constant (t : TX K mg) : FunD K "constant" "Form.constant" (defArgs s_Form_constant) (defBody s_Form_constant) (defScope s_Form_constant) [] [] (He5.wf K (He.ga K "Form") "property" "constant") (fdAt K (He5.wf K (He.ga K "Form") "property" "constant")) := t.c.def_ 7 (d := d_Form_constant) rfl
theorem u_Form_y (t : TX K mg) : FunD K "y" "Form.y" (defArgs s_Form_y) (defBody s_Form_y) (defScope s_Form_y) [] [] (He5.wf K (He.ga K "Form") "property" "y") (fdAt K (He5.wf K (He.ga K "Form") "property" "y")) := t.c.def_ 8 (d := d_Form_y) rfl
theorem u_Form_x (t : TX K mg) : FunD K "x" "Form.x" (defArgs s_Form_x) (defBody s_Form_x) (defScope s_Form_x) [] [] (He5.wf K (He.ga K "Form") "property" "x") (fdAt K (He5.wf K (He.ga K "Form") "property" "x")) := t.c.def_ 9 (d := d_Form_x) rfl
theorem u_written_term (t : TX K mg) : FunD K "written_term" "written_term" (defArgs s_written_term) (defBody s_written_term) (defScope s_written_term) [] [] (He.ga K "written_term") (fdAt K (He.ga K "written_term")) := t.c.def_ 10 (d := d_written_term) rfl
theorem u_Formzz_strzz (t : TX K mg) : FunD K "__str__" "Form.__str__" (defArgs s_Formzz_strzz) (defBody s_Formzz_strzz) (defScope s_Formzz_strzz) [] [] (He.ma K (He.ga K "Form") "__str__") (fdAt K (He.ma K (He.ga K "Form") "__str__")) := t.c.def_ 11 (d := d_Formzz_strzz) rfl
theorem u__law_text (t : TX K mg) : FunD K "_law_text" "_law_text" (defArgs s__law_text) (defBody s__law_text) (defScope s__law_text) [] [] (He.ga K "_law_text") (fdAt K (He.ga K "_law_text")) := t.c.def_ 12 (d := d__law_text) rfl
theorem u_Form_is_number (t : TX K mg) : FunD K "is_number" "Form.is_number" (defArgs s_Form_is_number) (defBody s_Form_is_number) (defScope s_Form_is_number) [] [] (He5.wf K (He.ga K "Form") "property" "is_number") (fdAt K (He5.wf K (He.ga K "Form") "property" "is_number")) := t.c.def_ 13 (d := d_Form_is_number) rfl
theorem u_Formzz_reprzz (t : TX K mg) : FunD K "__repr__" "Form.__repr__" (defArgs s_Formzz_reprzz) (defBody s_Formzz_reprzz) (defScope s_Formzz_reprzz) [] [] (He.ma K (He.ga K "Form") "__repr__") (fdAt K (He.ma K (He.ga K "Form") "__repr__")) := t.c.def_ 14 (d := d_Formzz_reprzz) rfl
theorem u__law_is (t : TX K mg) : FunD K "_law_is" "_law_is" (defArgs s__law_is) (defBody s__law_is) (defScope s__law_is) [] [] (He.ga K "_law_is") (fdAt K (He.ga K "_law_is")) := t.c.def_ 15 (d := d__law_is) rfl
theorem u_form_of (t : TX K mg) : FunD K "form_of" "form_of" (defArgs s_form_of) (defBody s_form_of) (defScope s_form_of) [] [] (He.ga K "form_of") (fdAt K (He.ga K "form_of")) := t.c.def_ 16 (d := d_form_of) rfl
theorem u_Formzz_addzz (t : TX K mg) : FunD K "__add__" "Form.__add__" (defArgs s_Formzz_addzz) (defBody s_Formzz_addzz) (defScope s_Formzz_addzz) [] [] (He.ma K (He.ga K "Form") "__add__") (fdAt K (He.ma K (He.ga K "Form") "__add__")) := t.c.def_ 17 (d := d_Formzz_addzz) rfl
theorem u_Formzz_subzz (t : TX K mg) : FunD K "__sub__" "Form.__sub__" (defArgs s_Formzz_subzz) (defBody s_Formzz_subzz) (defScope s_Formzz_subzz) [] [] (He.ma K (He.ga K "Form") "__sub__") (fdAt K (He.ma K (He.ga K "Form") "__sub__")) := t.c.def_ 18 (d := d_Formzz_subzz) rfl
theorem u_Formzz_negzz (t : TX K mg) : FunD K "__neg__" "Form.__neg__" (defArgs s_Formzz_negzz) (defBody s_Formzz_negzz) (defScope s_Formzz_negzz) [] [] (He.ma K (He.ga K "Form") "__neg__") (fdAt K (He.ma K (He.ga K "Form") "__neg__")) := t.c.def_ 19 (d := d_Formzz_negzz) rfl
theorem u_Formzz_mulzz (t : TX K mg) : FunD K "__mul__" "Form.__mul__" (defArgs s_Formzz_mulzz) (defBody s_Formzz_mulzz) (defScope s_Formzz_mulzz) [] [] (He.ma K (He.ga K "Form") "__mul__") (fdAt K (He.ma K (He.ga K "Form") "__mul__")) := t.c.def_ 20 (d := d_Formzz_mulzz) rfl
theorem u__law_sum_right (t : TX K mg) : FunD K "_law_sum_right" "_law_sum_right" (defArgs s__law_sum_right) (defBody s__law_sum_right) (defScope s__law_sum_right) [] [] (He.ga K "_law_sum_right") (fdAt K (He.ga K "_law_sum_right")) := t.c.def_ 21 (d := d__law_sum_right) rfl
theorem u_Form_at (t : TX K mg) : FunD K "at" "Form.at" (defArgs s_Form_at) (defBody s_Form_at) (defScope s_Form_at) [.int 0] [] (He.ma K (He.ga K "Form") "at") (fdAt K (He.ma K (He.ga K "Form") "at")) := t.c.def_ 22 (d := d_Form_at) rfl
theorem u__law_value (t : TX K mg) : FunD K "_law_value" "_law_value" (defArgs s__law_value) (defBody s__law_value) (defScope s__law_value) [] [] (He.ga K "_law_value") (fdAt K (He.ga K "_law_value")) := t.c.def_ 23 (d := d__law_value) rfl
theorem u_Form_put (t : TX K mg) : FunD K "put" "Form.put" (defArgs s_Form_put) (defBody s_Form_put) (defScope s_Form_put) [] [] (He.ma K (He.ga K "Form") "put") (fdAt K (He.ma K (He.ga K "Form") "put")) := t.c.def_ 24 (d := d_Form_put) rfl
theorem u_Formzz_eqzz (t : TX K mg) : FunD K "__eq__" "Form.__eq__" (defArgs s_Formzz_eqzz) (defBody s_Formzz_eqzz) (defScope s_Formzz_eqzz) [] [] (He.ma K (He.ga K "Form") "__eq__") (fdAt K (He.ma K (He.ga K "Form") "__eq__")) := t.c.def_ 25 (d := d_Formzz_eqzz) rfl
theorem u__law_right (t : TX K mg) : FunD K "_law_right" "_law_right" (defArgs s__law_right) (defBody s__law_right) (defScope s__law_right) [] [] (He.ga K "_law_right") (fdAt K (He.ga K "_law_right")) := t.c.def_ 26 (d := d__law_right) rfl
theorem u__law_pot (t : TX K mg) : FunD K "_law_pot" "_law_pot" (defArgs s__law_pot) (defBody s__law_pot) (defScope s__law_pot) [] [] (He.ga K "_law_pot") (fdAt K (He.ga K "_law_pot")) := t.c.def_ 27 (d := d__law_pot) rfl
theorem u_law (t : TX K mg) : FunD K "law" "law" (defArgs s_law) (defBody s_law) (defScope s_law) [] [] (He.ga K "law") (fdAt K (He.ga K "law")) := t.c.def_ 28 (d := d_law) rfl
theorem b__law_draw (t : TX K mg) : Binds K (fdAt K (He.ga K "_law_draw")) ["_law_pot_here", "_law_many"] [] := FunD.bindsN (u__law_draw t) fun _ _ _ _ _ _ us hl => match us, hl with | [_, _], _ => rfl
theorem sc__law_draw : FnScope ["_law_pot_here", "_law_many", "_law_digit"] ["_law_pot_here", "_law_many"] (defScope s__law_draw) := ⟨rfl, rfl, rfl, by decide +kernel, rfl, by decide +kernel, by decide +kernel⟩
def g__law_draw : Slots → M Out := (seqS (ifS (testE (binE (pu iGt) (binE ixM (bvarE 0) (cE (.int 0))) (cE (.int 0)))) (seqS (potS2 0 2 (bltE dmF (consA (binE ixM (bvarE 0) (cE (.int 0))) (consA (bvarE 1) nilA))))
  (retS (varE 2))) nilS)
  (seqS (potS 0 (binE (pu iMod) (bltE (pu1 intF) (consA (binE addU (binE (pu iMul) (binE ixM (bvarE 0) (cE (.int 1))) (cE (.int 44203))) (cE (.int 15511))) nilA)) (cE (.int 2147483587))))
  (retS (binE (pu iMod) (bltE (pu1 intF) (consA (binE (pu iDiv) (binE (pu iMod) (bltE (pu1 intF) (consA (binE (pu iMul) (binE ixM (bvarE 0) (cE (.int 1))) (binE ixM (bvarE 0) (cE (.int 1)))) nilA)) (cE (.int 2147483549))) (cE (.int 11))) nilA)) (bvarE 1)))))
def m__law_draw : List D → M D := fnM 3 g__law_draw
theorem ok__law_draw (t : TX K mg) : FnOk P w K mg base (L2.CX P w) 1 (He.ga K "_law_draw") (fdAt K (He.ga K "_law_draw")) ["_law_pot_here", "_law_many"] (spF K (tbOf cls_ K) 2 m__law_draw) :=
  fnD (st := s__law_draw) (N := ["_law_pot_here", "_law_many", "_law_digit"]) (ps := ["_law_pot_here", "_law_many"]) (k := 0) (g := g__law_draw) (u__law_draw t) sc__law_draw (by decide) fun cdv A outer s H E p S hr =>
  (dss_cons (ds_if (dt_cmp od_iGt (db_of (de_ix (db_var 0) (db_of de_int))) (db_of de_int)) (dss_cons (ds_pot2 (i := 0) (j := 2) rfl sc__law_draw.nd (de_blt cd_divmod (t.free 1) bo_divmod (dab_cons (db_of (de_ix (db_var 0) (db_of de_int))) (dab_cons (db_var 1) dab_nil))))
  (dss_one (ds_ret (de_var 2)))) dss_nil)
  (dss_cons (ds_pot (i := 0) (de_op od_iMod (db_of (de_blt_ty cd_int (t.free 2) bo_int (dab_cons (db_of (de_op od_addU (db_of (de_op od_iMul (db_of (de_ix (db_var 0) (db_of de_int))) (db_of de_int))) (db_of de_int))) dab_nil))) (db_of de_int)))
  (dss_one (ds_ret (de_op od_iMod (db_of (de_blt_ty cd_int (t.free 2) bo_int (dab_cons (db_of (de_op od_iDiv (db_of (de_op od_iMod (db_of (de_blt_ty cd_int (t.free 2) bo_int (dab_cons (db_of (de_op od_iMul (db_of (de_ix (db_var 0) (db_of de_int))) (db_of (de_ix (db_var 0) (db_of de_int))))) dab_nil))) (db_of de_int))) (db_of de_int))) dab_nil))) (db_var 1))))))
theorem b__law_pick (t : TX K mg) : Binds K (fdAt K (He.ga K "_law_pick")) ["_law_pot_here", "_law_some"] [] := FunD.bindsN (u__law_pick t) fun _ _ _ _ _ _ us hl => match us, hl with | [_, _], _ => rfl
theorem sc__law_pick : FnScope ["_law_pot_here", "_law_some"] ["_law_pot_here", "_law_some"] (defScope s__law_pick) := ⟨rfl, rfl, rfl, by decide +kernel, rfl, by decide +kernel, by decide +kernel⟩
def g__law_pick : Slots → M Out := (retS (binE ixM (bvarE 1) (callE 2 m__law_draw [] (consA (varE 0) (consA (bltE (pu1 lenF) (consA (bvarE 1) nilA)) nilA)))))
def m__law_pick : List D → M D := fnM 2 g__law_pick
theorem ok__law_pick (t : TX K mg) : FnOk P w K mg base (L2.CX P w) 2 (He.ga K "_law_pick") (fdAt K (He.ga K "_law_pick")) ["_law_pot_here", "_law_some"] (spF K (tbOf cls_ K) 2 m__law_pick) :=
  fnD (st := s__law_pick) (N := ["_law_pot_here", "_law_some"]) (ps := ["_law_pot_here", "_law_some"]) (k := 1) (g := g__law_pick) (u__law_pick t) sc__law_pick (by decide) fun cdv A outer s H E p S hr =>
  (dss_one (ds_ret (de_ix (db_var 1) (db_of (de_call (ok__law_draw t) (hr.mono (by decide)) (takes_of rfl rfl rfl rfl) (t.glo 3) (u__law_draw t).kp (b__law_draw t) .nil cst_nil (da_cons (de_var 0) (da_cons (de_blt cd_len (t.free 4) bo_len (dab_cons (db_var 1) dab_nil)) da_nil)))))))
theorem b__law_number (t : TX K mg) : Binds K (fdAt K (He.ga K "_law_number")) ["_law_pot_here"] [] := FunD.bindsN (u__law_number t) fun _ _ _ _ _ _ us hl => match us, hl with | [_], _ => rfl
theorem sc__law_number : FnScope ["_law_pot_here", "_law_number_here"] ["_law_pot_here"] (defScope s__law_number) := ⟨rfl, rfl, rfl, by decide +kernel, rfl, by decide +kernel, by decide +kernel⟩
def g__law_number : Slots → M Out := (seqS (asgS 1 (binE (pu iSub) (callE 2 m__law_draw [] (consA (varE 0) (consA (cE (.int 7)) nilA))) (cE (.int 3))))
  (seqS (ifS (testE (binE (pu dEq) (callE 2 m__law_draw [] (consA (varE 0) (consA (cE (.int 5)) nilA))) (cE (.int 0)))) (asgS 1 (binE (pu iMul) (callE 2 m__law_pick [] (consA (varE 0) (consA (boxE (lenA (consA (negE (cE (.int 1))) (consA (cE (.int 1)) nilA)))) nilA))) (binE addU (binE (pu iPow) (cE (.int 10)) (cE (.int 25))) (callE 2 m__law_draw [] (consA (varE 0) (consA (cE (.int 1000)) nilA)))))) nilS)
  (retS (varE 1))))
def m__law_number : List D → M D := fnM 2 g__law_number
theorem ok__law_number (t : TX K mg) : FnOk P w K mg base (L2.CX P w) 3 (He.ga K "_law_number") (fdAt K (He.ga K "_law_number")) ["_law_pot_here"] (spF K (tbOf cls_ K) 1 m__law_number) :=
  fnD (st := s__law_number) (N := ["_law_pot_here", "_law_number_here"]) (ps := ["_law_pot_here"]) (k := 2) (g := g__law_number) (u__law_number t) sc__law_number (by decide) fun cdv A outer s H E p S hr =>
  (dss_cons (ds_asg (i := 1) sc__law_number.nd (de_op od_iSub (db_of (de_call (ok__law_draw t) (hr.mono (by decide)) (takes_of rfl rfl rfl rfl) (t.glo 3) (u__law_draw t).kp (b__law_draw t) .nil cst_nil (da_cons (de_var 0) (da_cons de_int da_nil)))) (db_of de_int)))
  (dss_cons (ds_if (dt_cmp (od_dEq hr) (db_of (de_call (ok__law_draw t) (hr.mono (by decide)) (takes_of rfl rfl rfl rfl) (t.glo 3) (u__law_draw t).kp (b__law_draw t) .nil cst_nil (da_cons (de_var 0) (da_cons de_int da_nil)))) (db_of de_int)) (dss_one (ds_asg (i := 1) sc__law_number.nd (de_op od_iMul (db_of (de_call (ok__law_pick t) (hr.mono (by decide)) (takes_of rfl rfl rfl rfl) (t.glo 5) (u__law_pick t).kp (b__law_pick t) .nil cst_nil (da_cons (de_var 0) (da_cons (de_box (dl_lst (da_cons (de_neg de_int) (da_cons de_int da_nil)))) da_nil)))) (db_of (de_op od_addU (db_of (de_op od_iPow (db_of de_int) (db_of de_int))) (db_of (de_call (ok__law_draw t) (hr.mono (by decide)) (takes_of rfl rfl rfl rfl) (t.glo 3) (u__law_draw t).kp (b__law_draw t) .nil cst_nil (da_cons (de_var 0) (da_cons de_int da_nil))))))))) dss_nil)
  (dss_one (ds_ret (de_var 1)))))
theorem b__law_numbers (t : TX K mg) : Binds K (fdAt K (He.ga K "_law_numbers")) ["_law_pot_here"] [] := FunD.bindsN (u__law_numbers t) fun _ _ _ _ _ _ us hl => match us, hl with | [_], _ => rfl
theorem sc__law_numbers : FnScope ["_law_pot_here"] ["_law_pot_here"] (defScope s__law_numbers) := ⟨rfl, rfl, rfl, by decide +kernel, rfl, by decide +kernel, by decide +kernel⟩
def g__law_numbers : Slots → M Out := (retS (tupE (consA (callE 1 m__law_number [] (consA (varE 0) nilA)) (consA (callE 1 m__law_number [] (consA (varE 0) nilA)) (consA (callE 1 m__law_number [] (consA (varE 0) nilA)) nilA)))))
def m__law_numbers : List D → M D := fnM 1 g__law_numbers
theorem ok__law_numbers (t : TX K mg) : FnOk P w K mg base (L2.CX P w) 4 (He.ga K "_law_numbers") (fdAt K (He.ga K "_law_numbers")) ["_law_pot_here"] (spF K (tbOf cls_ K) 1 m__law_numbers) :=
  fnD (st := s__law_numbers) (N := ["_law_pot_here"]) (ps := ["_law_pot_here"]) (k := 3) (g := g__law_numbers) (u__law_numbers t) sc__law_numbers (by decide) fun cdv A outer s H E p S hr =>
  (dss_one (ds_ret (de_tup (da_cons (de_call (ok__law_number t) (hr.mono (by decide)) (takes_of rfl rfl rfl rfl) (t.glo 6) (u__law_number t).kp (b__law_number t) .nil cst_nil (da_cons (de_var 0) da_nil)) (da_cons (de_call (ok__law_number t) (hr.mono (by decide)) (takes_of rfl rfl rfl rfl) (t.glo 6) (u__law_number t).kp (b__law_number t) .nil cst_nil (da_cons (de_var 0) da_nil)) (da_cons (de_call (ok__law_number t) (hr.mono (by decide)) (takes_of rfl rfl rfl rfl) (t.glo 6) (u__law_number t).kp (b__law_number t) .nil cst_nil (da_cons (de_var 0) da_nil)) da_nil))))))
theorem b_is_integer (t : TX K mg) : Binds K (fdAt K (He.ga K "is_integer")) ["value"] [] := FunD.bindsN (u_is_integer t) fun _ _ _ _ _ _ us hl => match us, hl with | [_], _ => rfl
theorem sc_is_integer : FnScope ["value"] ["value"] (defScope s_is_integer) := ⟨rfl, rfl, rfl, by decide +kernel, rfl, by decide +kernel, by decide +kernel⟩
def g_is_integer : Slots → M Out := (retS (andE (isiE 1 (ansOf ["int", "bool"] [false]) (bvarE 0)) (notE (isiE 1 (ansOf ["bool"] [false]) (bvarE 0)))))
def m_is_integer : List D → M D := fnM 1 g_is_integer
theorem ok_is_integer (t : TX K mg) : FnOk P w K mg base (L2.CX P w) 1 (He.ga K "is_integer") (fdAt K (He.ga K "is_integer")) ["value"] (spF K (tbOf cls_ K) 1 m_is_integer) :=
  fnD (st := s_is_integer) (N := ["value"]) (ps := ["value"]) (k := 0) (g := g_is_integer) (u_is_integer t) sc_is_integer (by decide) fun cdv A outer s H E p S hr =>
  (dss_one (ds_ret (de_and (de_isi (hCs t) (db_var 0) (pe_bty (t.free 2) bo_int) (.ty _) (t.isi (cs := cls_) (u := fun _ => .type "int") 8 rfl) (t.free 10) bo_isinstance) (de_one (de_not (de_isi (hCs t) (db_var 0) (pe_bty (t.free 11) bo_bool) (.ty _) (t.isi (cs := cls_) (u := fun _ => .type "bool") 12 rfl) (t.free 10) bo_isinstance))))))
theorem b_Formzz_initzz_4 (t : TX K mg) : ∃ ds, Vals [] ds ∧ Binds K (fdAt K (He.ma K (He.ga K "Form") "__init__")) ["self", "x", "y", "constant"] ds := FunD.binds1 (u_Formzz_initzz t) 4 3 (by intro e; cases e) rfl fun T kV doc pm an cdv ct us its h1 h2 => match us, its, h1, h2 with | [_, _, _, _], [_, _, _], _, _ => ⟨_, rfl, rfl⟩
theorem b_Formzz_initzz_3 (t : TX K mg) : ∃ ds, Vals [.int 0] ds ∧ Binds K (fdAt K (He.ma K (He.ga K "Form") "__init__")) ["self", "x", "y", "constant"] ds := FunD.binds1 (u_Formzz_initzz t) 3 2 (by intro e; cases e) rfl fun T kV doc pm an cdv ct us its h1 h2 => match us, its, h1, h2 with | [_, _, _], [_, _, _], _, _ => ⟨_, rfl, rfl⟩
theorem b_Formzz_initzz_2 (t : TX K mg) : ∃ ds, Vals [.int 0, .int 0] ds ∧ Binds K (fdAt K (He.ma K (He.ga K "Form") "__init__")) ["self", "x", "y", "constant"] ds := FunD.binds1 (u_Formzz_initzz t) 2 1 (by intro e; cases e) rfl fun T kV doc pm an cdv ct us its h1 h2 => match us, its, h1, h2 with | [_, _], [_, _, _], _, _ => ⟨_, rfl, rfl⟩
theorem b_Formzz_initzz_1 (t : TX K mg) : ∃ ds, Vals [.int 0, .int 0, .int 0] ds ∧ Binds K (fdAt K (He.ma K (He.ga K "Form") "__init__")) ["self", "x", "y", "constant"] ds := FunD.binds1 (u_Formzz_initzz t) 1 0 (by intro e; cases e) rfl fun T kV doc pm an cdv ct us its h1 h2 => match us, its, h1, h2 with | [_], [_, _, _], _, _ => ⟨_, rfl, rfl⟩
theorem sc_Formzz_initzz : FnScope ["self", "x", "y", "constant", "value"] ["self", "x", "y", "constant"] (defScope s_Formzz_initzz) := ⟨rfl, rfl, rfl, by decide +kernel, rfl, by decide +kernel, by decide +kernel⟩
def g_Formzz_initzz_b1 : Slots → M Out := (ifS (notT (testE (callE 1 m_is_integer [] (consA (varE 4) nilA)))) (fun _ => fail) nilS)
def g_Formzz_initzz : Slots → M Out := (seqS (forS (itE (tupE (consA (varE 1) (consA (varE 2) (consA (varE 3) nilA))))) (tgN 4) g_Formzz_initzz_b1)
  (seqS (fldS 0 0 0 (varE 1))
  (seqS (fldS 0 0 1 (varE 2))
  (fldS 0 0 2 (varE 3)))))
def m_Formzz_initzz : List D → M (List D) := iniM 0 3 4 g_Formzz_initzz
theorem ok_Formzz_initzz (t : TX K mg) : FnOk P w K mg base (L2.CX P w) 2 (He.ma K (He.ga K "Form") "__init__") (fdAt K (He.ma K (He.ga K "Form") "__init__")) ["self", "x", "y", "constant"] (spI K (tbOf cls_ K) 0 4 m_Formzz_initzz) :=
  fnI (st := s_Formzz_initzz) (y := "self") (N := ["x", "y", "constant", "value"]) (ps := ["x", "y", "constant"]) (k := 1) (kc := 0) (g := g_Formzz_initzz) (u_Formzz_initzz t) sc_Formzz_initzz (by decide) (fun cdv A outer s H H0 E p me S hr =>
  (dss_cons (ds_for (passes_of rfl) rfl (di_val (de_tup (da_cons (de_var 1) (da_cons (de_var 2) (da_cons (de_var 3) da_nil))))) (dg_name (vs := [4]) sc_Formzz_initzz.nd (by decide)) (dss_one (ds_if (dt_not (dt_val (de_call (ok_is_integer t) (hr.mono (by decide)) (takes_of rfl rfl rfl rfl) (t.glo 13) (u_is_integer t).kp (b_is_integer t) .nil cst_nil (da_cons (de_var 4) da_nil)))) (dss_one ds_never) dss_nil)))
  (dss_cons (ds_fld (i := 0) (kc := 0) (ix := 0) (de_var 1) rfl (t.cls 15) (t.noat 14) nd_Form rfl (show 3 < 1000 by decide))
  (dss_cons (ds_fld (i := 0) (kc := 0) (ix := 1) (de_var 2) rfl (t.cls 15) (t.noat 16) nd_Form rfl (show 3 < 1000 by decide))
  (dss_one (ds_fld (i := 0) (kc := 0) (ix := 2) (de_var 3) rfl (t.cls 15) (t.noat 17) nd_Form rfl (show 3 < 1000 by decide))))))) rfl
theorem b__law_made (t : TX K mg) : Binds K (fdAt K (He.ga K "_law_made")) ["_law_told"] [] := FunD.bindsN (u__law_made t) fun _ _ _ _ _ _ us hl => match us, hl with | [_], _ => rfl
theorem sc__law_made : FnScope ["_law_told"] ["_law_told"] (defScope s__law_made) := ⟨rfl, rfl, rfl, by decide +kernel, rfl, by decide +kernel, by decide +kernel⟩
def g__law_made : Slots → M Out := (retS (makeE 0 4 m_Formzz_initzz [] (consA (binE ixM (bvarE 0) (cE (.int 0))) (consA (binE ixM (bvarE 0) (cE (.int 1))) (consA (binE ixM (bvarE 0) (cE (.int 2))) nilA)))))
def m__law_made : List D → M D := fnM 1 g__law_made
theorem ok__law_made (t : TX K mg) : FnOk P w K mg base (L2.CX P w) 4 (He.ga K "_law_made") (fdAt K (He.ga K "_law_made")) ["_law_told"] (spF K (tbOf cls_ K) 1 m__law_made) := by
  obtain ⟨ds_Formzz_initzz_4, hd_Formzz_initzz_4, hb_Formzz_initzz_4⟩ := b_Formzz_initzz_4 t
  exact fnD (st := s__law_made) (N := ["_law_told"]) (ps := ["_law_told"]) (k := 3) (g := g__law_made) (u__law_made t) sc__law_made (by decide) fun cdv A outer s H E p S hr =>
  (dss_one (ds_ret (de_make (t.mk_ 19) (ok_Formzz_initzz t) (hr.mono (by decide)) (takes_of rfl rfl rfl rfl) (t.glo 18) rfl hb_Formzz_initzz_4 hd_Formzz_initzz_4 cst_nil (da_cons (de_ix (db_var 0) (db_of de_int)) (da_cons (de_ix (db_var 0) (db_of de_int)) (da_cons (de_ix (db_var 0) (db_of de_int)) da_nil))))))
theorem b_Form_constant (t : TX K mg) : Binds K (fdAt K (He5.wf K (He.ga K "Form") "property" "constant")) ["self"] [] := FunD.bindsN (u_Form_constant t) fun _ _ _ _ _ _ us hl => match us, hl with | [_], _ => rfl
theorem sc_Form_constant : FnScope ["self"] ["self"] (defScope s_Form_constant) := ⟨rfl, rfl, rfl, by decide +kernel, rfl, by decide +kernel, by decide +kernel⟩
def g_Form_constant : Slots → M Out := (retS (getE 0 2 (varE 0)))
def m_Form_constant : List D → M D := fnM 1 g_Form_constant
theorem ok_Form_constant (t : TX K mg) : FnOk P w K mg base (L2.CX P w) 1 (He5.wf K (He.ga K "Form") "property" "constant") (fdAt K (He5.wf K (He.ga K "Form") "property" "constant")) ["self"] (spF K (tbOf cls_ K) 1 m_Form_constant) :=
  fnD (st := s_Form_constant) (N := ["self"]) (ps := ["self"]) (k := 0) (g := g_Form_constant) (u_Form_constant t) sc_Form_constant (by decide) fun cdv A outer s H E p S hr =>
  (dss_one (ds_ret (de_get (de_var 0) rfl (t.cls 15) (t.noat 17) nd_Form rfl)))
theorem b_Form_y (t : TX K mg) : Binds K (fdAt K (He5.wf K (He.ga K "Form") "property" "y")) ["self"] [] := FunD.bindsN (u_Form_y t) fun _ _ _ _ _ _ us hl => match us, hl with | [_], _ => rfl
theorem sc_Form_y : FnScope ["self"] ["self"] (defScope s_Form_y) := ⟨rfl, rfl, rfl, by decide +kernel, rfl, by decide +kernel, by decide +kernel⟩
def g_Form_y : Slots → M Out := (retS (getE 0 1 (varE 0)))
def m_Form_y : List D → M D := fnM 1 g_Form_y
theorem ok_Form_y (t : TX K mg) : FnOk P w K mg base (L2.CX P w) 1 (He5.wf K (He.ga K "Form") "property" "y") (fdAt K (He5.wf K (He.ga K "Form") "property" "y")) ["self"] (spF K (tbOf cls_ K) 1 m_Form_y) :=
  fnD (st := s_Form_y) (N := ["self"]) (ps := ["self"]) (k := 0) (g := g_Form_y) (u_Form_y t) sc_Form_y (by decide) fun cdv A outer s H E p S hr =>
  (dss_one (ds_ret (de_get (de_var 0) rfl (t.cls 15) (t.noat 16) nd_Form rfl)))
theorem b_Form_x (t : TX K mg) : Binds K (fdAt K (He5.wf K (He.ga K "Form") "property" "x")) ["self"] [] := FunD.bindsN (u_Form_x t) fun _ _ _ _ _ _ us hl => match us, hl with | [_], _ => rfl
theorem sc_Form_x : FnScope ["self"] ["self"] (defScope s_Form_x) := ⟨rfl, rfl, rfl, by decide +kernel, rfl, by decide +kernel, by decide +kernel⟩
def g_Form_x : Slots → M Out := (retS (getE 0 0 (varE 0)))
def m_Form_x : List D → M D := fnM 1 g_Form_x
theorem ok_Form_x (t : TX K mg) : FnOk P w K mg base (L2.CX P w) 1 (He5.wf K (He.ga K "Form") "property" "x") (fdAt K (He5.wf K (He.ga K "Form") "property" "x")) ["self"] (spF K (tbOf cls_ K) 1 m_Form_x) :=
  fnD (st := s_Form_x) (N := ["self"]) (ps := ["self"]) (k := 0) (g := g_Form_x) (u_Form_x t) sc_Form_x (by decide) fun cdv A outer s H E p S hr =>
  (dss_one (ds_ret (de_get (de_var 0) rfl (t.cls 15) (t.noat 14) nd_Form rfl)))
theorem b_written_term (t : TX K mg) : Binds K (fdAt K (He.ga K "written_term")) ["factor", "name"] [] := FunD.bindsN (u_written_term t) fun _ _ _ _ _ _ us hl => match us, hl with | [_, _], _ => rfl
theorem sc_written_term : FnScope ["factor", "name"] ["factor", "name"] (defScope s_written_term) := ⟨rfl, rfl, rfl, by decide +kernel, rfl, by decide +kernel, by decide +kernel⟩
def g_written_term : Slots → M Out := (seqS (ifS (orT (testE (binE (pu dEq) (bvarE 1) (cE (.str "")))) (testE (binE (pu dNe) (bltE (pu1 absF) (consA (bvarE 0) nilA)) (cE (.int 1))))) (retS (binE addU (bltE (pu1 strF) (consA (bvarE 0) nilA)) (bvarE 1))) nilS)
  (retS (ifE (testE (binE (pu dEq) (bvarE 0) (cE (.int 1)))) (varE 1) (binE addU (cE (.str "-")) (bvarE 1)))))
def m_written_term : List D → M D := fnM 2 g_written_term
theorem ok_written_term (t : TX K mg) : FnOk P w K mg base (L2.CX P w) 1 (He.ga K "written_term") (fdAt K (He.ga K "written_term")) ["factor", "name"] (spF K (tbOf cls_ K) 2 m_written_term) :=
  fnD (st := s_written_term) (N := ["factor", "name"]) (ps := ["factor", "name"]) (k := 0) (g := g_written_term) (u_written_term t) sc_written_term (by decide) fun cdv A outer s H E p S hr =>
  (dss_cons (ds_if ((dw_or (dt_cmp (od_dEq hr) (db_var 1) (db_of de_str)) (dw_or1 (dt_cmp (od_dNe hr) (db_of (de_blt cd_abs (t.free 25) bo_abs (dab_cons (db_var 0) dab_nil))) (db_of de_int))))).pt (dss_one (ds_ret (de_op od_addU (db_of (de_blt_ty cd_strI (t.free 26) bo_str (dab_cons (db_var 0) dab_nil))) (db_var 1)))) dss_nil)
  (dss_one (ds_ret (de_if (dt_cmp (od_dEq hr) (db_var 0) (db_of de_int)) (de_var 1) (de_op od_addU (db_of de_str) (db_var 1))))))
theorem b_Formzz_strzz (t : TX K mg) : Binds K (fdAt K (He.ma K (He.ga K "Form") "__str__")) ["self"] [] := FunD.bindsN (u_Formzz_strzz t) fun _ _ _ _ _ _ us hl => match us, hl with | [_], _ => rfl
theorem sc_Formzz_strzz : FnScope ["self", "words", "factor", "name"] ["self"] (defScope s_Formzz_strzz) := ⟨rfl, rfl, rfl, by decide +kernel, rfl, by decide +kernel, by decide +kernel⟩
def g_Formzz_strzz_b1 : Slots → M Out := (ifS (andT (testE (binE (pu dNe) (bvarE 2) (cE (.int 0)))) (testE (binE (pu dEq) (bvarE 1) (boxE (lenA nilA))))) (appS 1 (callE 2 m_written_term [] (consA (varE 2) (consA (varE 3) nilA)))) (ifS (testE (binE (pu dNe) (bvarE 2) (cE (.int 0)))) (extS 1 (boxE (lenA (consA (ifE (testE (binE (pu iLt) (bvarE 2) (cE (.int 0)))) (cE (.str "-")) (cE (.str "+"))) (consA (callE 2 m_written_term [] (consA (bltE (pu1 absF) (consA (bvarE 2) nilA)) (consA (varE 3) nilA))) nilA))))) nilS))
def g_Formzz_strzz : Slots → M Out := (seqS (asgL 1 (lenA nilA))
  (seqS (forS (itE (tupE (consA (tupE (consA (getE 0 0 (varE 0)) (consA (cE (.str "x")) nilA))) (consA (tupE (consA (getE 0 1 (varE 0)) (consA (cE (.str "y")) nilA))) (consA (tupE (consA (getE 0 2 (varE 0)) (consA (cE (.str "")) nilA))) nilA))))) (tgT [(tgN 2), (tgN 3)]) g_Formzz_strzz_b1)
  (seqS (ifS (testE (binE (pu dEq) (bvarE 1) (boxE (lenA nilA)))) (retS (cE (.str "0"))) nilS)
  (retS (joinE (cE (.str " ")) (bvarE 1))))))
def m_Formzz_strzz : List D → M D := fnM 4 g_Formzz_strzz
theorem ok_Formzz_strzz (t : TX K mg) : FnOk P w K mg base (L2.CX P w) 2 (He.ma K (He.ga K "Form") "__str__") (fdAt K (He.ma K (He.ga K "Form") "__str__")) ["self"] (spF K (tbOf cls_ K) 1 m_Formzz_strzz) :=
  fnD (st := s_Formzz_strzz) (N := ["self", "words", "factor", "name"]) (ps := ["self"]) (k := 1) (g := g_Formzz_strzz) (u_Formzz_strzz t) sc_Formzz_strzz (by decide) fun cdv A outer s H E p S hr =>
  (dss_cons (ds_asgL (i := 1) sc_Formzz_strzz.nd (dl_lst da_nil))
  (dss_cons (ds_for (passes_of rfl) rfl (di_val (de_tup (da_cons (de_tup (da_cons (de_get (de_var 0) rfl (t.cls 15) (t.noat 14) nd_Form rfl) (da_cons de_str da_nil))) (da_cons (de_tup (da_cons (de_get (de_var 0) rfl (t.cls 15) (t.noat 16) nd_Form rfl) (da_cons de_str da_nil))) (da_cons (de_tup (da_cons (de_get (de_var 0) rfl (t.cls 15) (t.noat 17) nd_Form rfl) (da_cons de_str da_nil))) da_nil))))) (dg_tup rfl (dgs_cons (dg_name (vs := [2, 3]) sc_Formzz_strzz.nd (by decide)) (dgs_cons (dg_name (vs := [2, 3]) sc_Formzz_strzz.nd (by decide)) dgs_nil))) (dss_one (ds_if ((dw_and (dt_cmp (od_dNe hr) (db_var 2) (db_of de_int)) (dw_and1 (dt_cmp (od_dEq hr) (db_var 1) (db_of (de_box (dl_lst da_nil))))))).pt (dss_one (ds_app (i := 1) (de_call (ok_written_term t) (hr.mono (by decide)) (takes_of rfl rfl rfl rfl) (t.glo 27) (u_written_term t).kp (b_written_term t) .nil cst_nil (da_cons (de_var 2) (da_cons (de_var 3) da_nil))))) (dss_one (ds_if (dt_cmp (od_dNe hr) (db_var 2) (db_of de_int)) (dss_one (ds_ext (i := 1) (de_box (dl_lst (da_cons (de_if (dt_cmp od_iLt (db_var 2) (db_of de_int)) de_str de_str) (da_cons (de_call (ok_written_term t) (hr.mono (by decide)) (takes_of rfl rfl rfl rfl) (t.glo 27) (u_written_term t).kp (b_written_term t) .nil cst_nil (da_cons (de_blt cd_abs (t.free 25) bo_abs (dab_cons (db_var 2) dab_nil)) (da_cons (de_var 3) da_nil))) da_nil)))))) dss_nil)))))
  (dss_cons (ds_if (dt_cmp (od_dEq hr) (db_var 1) (db_of (de_box (dl_lst da_nil)))) (dss_one (ds_ret de_str)) dss_nil)
  (dss_one (ds_ret (de_join (db_of de_str) (db_var 1)))))))
theorem b__law_text (t : TX K mg) : Binds K (fdAt K (He.ga K "_law_text")) ["_law_told"] [] := FunD.bindsN (u__law_text t) fun _ _ _ _ _ _ us hl => match us, hl with | [_], _ => rfl
theorem sc__law_text : FnScope ["_law_told", "_law_found", "_law_number_here", "_law_sign", "_law_size", "_law_joint"] ["_law_told"] (defScope s__law_text) := ⟨rfl, rfl, rfl, by decide +kernel, rfl, by decide +kernel, by decide +kernel⟩
def g__law_text_b1 : Slots → M Out := (seqS (asgS 4 (ifE (andT (testE (binE (pu dEq) (bltE (pu1 absF) (consA (bvarE 2) nilA)) (cE (.int 1)))) (testE (binE (pu dNe) (bvarE 3) (cE (.str ""))))) (cE (.str "")) (bltE (pu1 strF) (consA (bltE (pu1 absF) (consA (bvarE 2) nilA)) nilA))))
  (ifS (testE (binE (pu dNe) (bvarE 2) (cE (.int 0)))) (seqS (asgS 5 (ifE (testE (binE (pu iLt) (bvarE 2) (cE (.int 0)))) (cE (.str " - ")) (cE (.str " + "))))
  (seqS (ifS (testE (binE (pu dEq) (bvarE 1) (cE (.str "")))) (asgS 5 (ifE (testE (binE (pu iLt) (bvarE 2) (cE (.int 0)))) (cE (.str "-")) (cE (.str "")))) nilS)
  (asgS 1 (binE addU (binE addU (binE addU (bvarE 1) (bvarE 5)) (bvarE 4)) (bvarE 3))))) nilS))
def g__law_text : Slots → M Out := (seqS (asgS 1 (cE (.str "")))
  (seqS (forS (itE (boxE (lenA (consA (tupE (consA (binE ixM (bvarE 0) (cE (.int 0))) (consA (cE (.str "x")) nilA))) (consA (tupE (consA (binE ixM (bvarE 0) (cE (.int 1))) (consA (cE (.str "y")) nilA))) (consA (tupE (consA (binE ixM (bvarE 0) (cE (.int 2))) (consA (cE (.str "")) nilA))) nilA)))))) (tgT [(tgN 2), (tgN 3)]) g__law_text_b1)
  (retS (ifE (testE (binE (pu dNe) (bvarE 1) (cE (.str "")))) (varE 1) (cE (.str "0"))))))
def m__law_text : List D → M D := fnM 6 g__law_text
theorem ok__law_text (t : TX K mg) : FnOk P w K mg base (L2.CX P w) 1 (He.ga K "_law_text") (fdAt K (He.ga K "_law_text")) ["_law_told"] (spF K (tbOf cls_ K) 1 m__law_text) :=
  fnD (st := s__law_text) (N := ["_law_told", "_law_found", "_law_number_here", "_law_sign", "_law_size", "_law_joint"]) (ps := ["_law_told"]) (k := 0) (g := g__law_text) (u__law_text t) sc__law_text (by decide) fun cdv A outer s H E p S hr =>
  (dss_cons (ds_asg (i := 1) sc__law_text.nd de_str)
  (dss_cons (ds_for (passes_of rfl) rfl (di_val (de_box (dl_lst (da_cons (de_tup (da_cons (de_ix (db_var 0) (db_of de_int)) (da_cons de_str da_nil))) (da_cons (de_tup (da_cons (de_ix (db_var 0) (db_of de_int)) (da_cons de_str da_nil))) (da_cons (de_tup (da_cons (de_ix (db_var 0) (db_of de_int)) (da_cons de_str da_nil))) da_nil)))))) (dg_tup rfl (dgs_cons (dg_name (vs := [2, 3]) sc__law_text.nd (by decide)) (dgs_cons (dg_name (vs := [2, 3]) sc__law_text.nd (by decide)) dgs_nil))) (dss_cons (ds_asg (i := 4) sc__law_text.nd (de_if ((dw_and (dt_cmp (od_dEq hr) (db_of (de_blt cd_abs (t.free 25) bo_abs (dab_cons (db_var 2) dab_nil))) (db_of de_int)) (dw_and1 (dt_cmp (od_dNe hr) (db_var 3) (db_of de_str))))).pt de_str (de_blt_ty cd_strI (t.free 26) bo_str (dab_cons (db_of (de_blt cd_abs (t.free 25) bo_abs (dab_cons (db_var 2) dab_nil))) dab_nil))))
  (dss_one (ds_if (dt_cmp (od_dNe hr) (db_var 2) (db_of de_int)) (dss_cons (ds_asg (i := 5) sc__law_text.nd (de_if (dt_cmp od_iLt (db_var 2) (db_of de_int)) de_str de_str))
  (dss_cons (ds_if (dt_cmp (od_dEq hr) (db_var 1) (db_of de_str)) (dss_one (ds_asg (i := 5) sc__law_text.nd (de_if (dt_cmp od_iLt (db_var 2) (db_of de_int)) de_str de_str))) dss_nil)
  (dss_one (ds_asg (i := 1) sc__law_text.nd (de_op od_addU (db_of (de_op od_addU (db_of (de_op od_addU (db_var 1) (db_var 5))) (db_var 4))) (db_var 3)))))) dss_nil))))
  (dss_one (ds_ret (de_if (dt_cmp (od_dNe hr) (db_var 1) (db_of de_str)) (de_var 1) de_str)))))
theorem b_Form_is_number (t : TX K mg) : Binds K (fdAt K (He5.wf K (He.ga K "Form") "property" "is_number")) ["self"] [] := FunD.bindsN (u_Form_is_number t) fun _ _ _ _ _ _ us hl => match us, hl with | [_], _ => rfl
theorem sc_Form_is_number : FnScope ["self"] ["self"] (defScope s_Form_is_number) := ⟨rfl, rfl, rfl, by decide +kernel, rfl, by decide +kernel, by decide +kernel⟩
def g_Form_is_number : Slots → M Out := (retS (andE (binE (pu dEq) (getE 0 0 (varE 0)) (cE (.int 0))) (binE (pu dEq) (getE 0 1 (varE 0)) (cE (.int 0)))))
def m_Form_is_number : List D → M D := fnM 1 g_Form_is_number
theorem ok_Form_is_number (t : TX K mg) : FnOk P w K mg base (L2.CX P w) 1 (He5.wf K (He.ga K "Form") "property" "is_number") (fdAt K (He5.wf K (He.ga K "Form") "property" "is_number")) ["self"] (spF K (tbOf cls_ K) 1 m_Form_is_number) :=
  fnD (st := s_Form_is_number) (N := ["self"]) (ps := ["self"]) (k := 0) (g := g_Form_is_number) (u_Form_is_number t) sc_Form_is_number (by decide) fun cdv A outer s H E p S hr =>
  (dss_one (ds_ret (de_and (de_cmp (od_dEq hr) (db_of (de_get (de_var 0) rfl (t.cls 15) (t.noat 14) nd_Form rfl)) (db_of de_int)) (de_one (de_cmp (od_dEq hr) (db_of (de_get (de_var 0) rfl (t.cls 15) (t.noat 16) nd_Form rfl)) (db_of de_int))))))
theorem b_Formzz_reprzz (t : TX K mg) : Binds K (fdAt K (He.ma K (He.ga K "Form") "__repr__")) ["self"] [] := FunD.bindsN (u_Formzz_reprzz t) fun _ _ _ _ _ _ us hl => match us, hl with | [_], _ => rfl
theorem sc_Formzz_reprzz : FnScope ["self"] ["self"] (defScope s_Formzz_reprzz) := ⟨rfl, rfl, rfl, by decide +kernel, rfl, by decide +kernel, by decide +kernel⟩
def g_Formzz_reprzz : Slots → M Out := (retS (joinedE [(cE (.str "Form(")), (oneE fmtF (getE 0 0 (varE 0))), (cE (.str ", ")), (oneE fmtF (getE 0 1 (varE 0))), (cE (.str ", ")), (oneE fmtF (getE 0 2 (varE 0))), (cE (.str ")"))]))
def m_Formzz_reprzz : List D → M D := fnM 1 g_Formzz_reprzz
theorem ok_Formzz_reprzz (t : TX K mg) : FnOk P w K mg base (L2.CX P w) 1 (He.ma K (He.ga K "Form") "__repr__") (fdAt K (He.ma K (He.ga K "Form") "__repr__")) ["self"] (spF K (tbOf cls_ K) 1 m_Formzz_reprzz) :=
  fnD (st := s_Formzz_reprzz) (N := ["self"]) (ps := ["self"]) (k := 0) (g := g_Formzz_reprzz) (u_Formzz_reprzz t) sc_Formzz_reprzz (by decide) fun cdv A outer s H E p S hr =>
  (dss_one (ds_ret (de_joined (fs := [(cE (.str "Form(")), (oneE fmtF (getE 0 0 (varE 0))), (cE (.str ", ")), (oneE fmtF (getE 0 1 (varE 0))), (cE (.str ", ")), (oneE fmtF (getE 0 2 (varE 0))), (cE (.str ")"))]) (.cons de_str (.cons (de_fmt (de_get (de_var 0) rfl (t.cls 15) (t.noat 14) nd_Form rfl)) (.cons de_str (.cons (de_fmt (de_get (de_var 0) rfl (t.cls 15) (t.noat 16) nd_Form rfl)) (.cons de_str (.cons (de_fmt (de_get (de_var 0) rfl (t.cls 15) (t.noat 17) nd_Form rfl)) (.cons de_str PJ.nil))))))))))
theorem b__law_is (t : TX K mg) : Binds K (fdAt K (He.ga K "_law_is")) ["_law_form", "_law_told"] [] := FunD.bindsN (u__law_is t) fun _ _ _ _ _ _ us hl => match us, hl with | [_, _], _ => rfl
theorem sc__law_is : FnScope ["_law_form", "_law_told", "_law_number_here"] ["_law_form", "_law_told"] (defScope s__law_is) := ⟨rfl, rfl, rfl, by decide +kernel, rfl, by decide +kernel, by decide +kernel⟩
def g__law_is : Slots → M Out := (seqS (ifS (orT (testE (binE (pu dNe) (boxE (lenA (consA (propE 0 m_Form_x (varE 0)) (consA (propE 0 m_Form_y (varE 0)) (consA (propE 0 m_Form_constant (varE 0)) nilA))))) (boxE (bltE listF (consA (bvarE 1) nilA))))) (testE (binE (pu dNe) (bltE (txM 0 m_Formzz_strzz) (consA (bvarE 0) nilA)) (callE 1 m__law_text [] (consA (varE 1) nilA))))) (retS (cE (.bl false))) nilS)
  (seqS (ifS (testE (binE (pu dNe) (bltE (pu1 reprF) (consA (propE 0 m_Form_is_number (varE 0)) nilA)) (bltE (pu1 reprF) (consA (binE (pu dEq) (slE (bvarE 1) noO (soO (cE (.int 2)))) (tupE (consA (cE (.int 0)) (consA (cE (.int 0)) nilA)))) nilA)))) (retS (cE (.bl false))) nilS)
  (retS (binE (pu dEq) (bltE (txM 0 m_Formzz_reprzz) (consA (bvarE 0) nilA)) (binE addU (binE addU (cE (.str "Form(")) (joinE (cE (.str ", ")) (boxE (compE (itE (varE 1)) [2] (tgN 2) yesT (bltE (pu1 strF) (consA (bvarE 2) nilA)))))) (cE (.str ")")))))))
def m__law_is : List D → M D := fnM 3 g__law_is
theorem ok__law_is (t : TX K mg) : FnOk P w K mg base (L2.CX P w) 5 (He.ga K "_law_is") (fdAt K (He.ga K "_law_is")) ["_law_form", "_law_told"] (spF K (tbOf cls_ K) 2 m__law_is) :=
  fnD (st := s__law_is) (N := ["_law_form", "_law_told", "_law_number_here"]) (ps := ["_law_form", "_law_told"]) (k := 4) (g := g__law_is) (u__law_is t) sc__law_is (by decide) fun cdv A outer s H E p S hr =>
  (dss_cons (ds_if ((dw_or (dt_cmp (od_dNe hr) (db_of (de_box (dl_lst (da_cons (de_prop (de_var 0) rfl (t.cls 15) (t.prop 23) (ok_Form_x t) (hr.mono (by decide)) (b_Form_x t)) (da_cons (de_prop (de_var 0) rfl (t.cls 15) (t.prop 22) (ok_Form_y t) (hr.mono (by decide)) (b_Form_y t)) (da_cons (de_prop (de_var 0) rfl (t.cls 15) (t.prop 21) (ok_Form_constant t) (hr.mono (by decide)) (b_Form_constant t)) da_nil)))))) (db_of (de_box (dl_blt_ty cn_list (t.free 24) bo_list (dab_cons (db_var 1) dab_nil))))) (dw_or1 (dt_cmp (od_dNe hr) (db_of (de_blt_ty (cd_strO rfl (t.meth 28).at_ (t.meth 28).fn (ok_Formzz_strzz t) (hr.mono (by decide)) (b_Formzz_strzz t) (takes_of rfl rfl rfl rfl)) (t.free 26) bo_str (dab_cons (db_var 0) dab_nil))) (db_of (de_call (ok__law_text t) (hr.mono (by decide)) (takes_of rfl rfl rfl rfl) (t.glo 29) (u__law_text t).kp (b__law_text t) .nil cst_nil (da_cons (de_var 1) da_nil))))))).pt (dss_one (ds_ret de_bl)) dss_nil)
  (dss_cons (ds_if (dt_cmp (od_dNe hr) (db_of (de_blt cd_repr (t.free 31) bo_repr (dab_cons (db_of (de_prop (de_var 0) rfl (t.cls 15) (t.prop 30) (ok_Form_is_number t) (hr.mono (by decide)) (b_Form_is_number t))) dab_nil))) (db_of (de_blt cd_repr (t.free 31) bo_repr (dab_cons (db_of (de_cmp (od_dEq hr) (db_of (de_slice (db_var 1) do_none (do_some (db_of de_int)))) (db_of (de_tup (da_cons de_int (da_cons de_int da_nil)))))) dab_nil)))) (dss_one (ds_ret de_bl)) dss_nil)
  (dss_one (ds_ret (de_cmp (od_dEq hr) (db_of (de_blt (cd_reprO rfl (t.meth 32).at_ (t.meth 32).fn (ok_Formzz_reprzz t) (hr.mono (by decide)) (b_Formzz_reprzz t) (takes_of rfl rfl rfl rfl)) (t.free 31) bo_repr (dab_cons (db_var 0) dab_nil))) (db_of (de_op od_addU (db_of (de_op od_addU (db_of de_str) (db_of (de_join (db_of de_str) (db_of (de_box (dl_lc rfl sc__law_is.nd (own := [(("_law_number_here" : Str), 2)]) (di_val (de_var 1)) (blkOk_by (by kernel_rfl)) (fun l s H C cl fp => (dg_name (vs := [2]) sc__law_is.nd (by decide))) (fun l s H C cl fp => dts_nil) (fun l s H C cl fp => (de_blt_ty cd_strI (t.free 26) bo_str (dab_cons (db_var 2) dab_nil)))))))))) (db_of de_str))))))))
theorem b_form_of (t : TX K mg) : Binds K (fdAt K (He.ga K "form_of")) ["value"] [] := FunD.bindsN (u_form_of t) fun _ _ _ _ _ _ us hl => match us, hl with | [_], _ => rfl
theorem sc_form_of : FnScope ["value"] ["value"] (defScope s_form_of) := ⟨rfl, rfl, rfl, by decide +kernel, rfl, by decide +kernel, by decide +kernel⟩
def g_form_of : Slots → M Out := (seqS (ifS (testE (isiE 1 (ansOf [] [true]) (bvarE 0))) (retS (varE 0)) nilS)
  (seqS (ifS (notT (testE (callE 1 m_is_integer [] (consA (varE 0) nilA)))) (fun _ => fail) nilS)
  (retS (makeE 0 4 m_Formzz_initzz [] (consA (cE (.int 0)) (consA (cE (.int 0)) (consA (varE 0) nilA)))))))
def m_form_of : List D → M D := fnM 1 g_form_of
theorem ok_form_of (t : TX K mg) : FnOk P w K mg base (L2.CX P w) 4 (He.ga K "form_of") (fdAt K (He.ga K "form_of")) ["value"] (spF K (tbOf cls_ K) 1 m_form_of) := by
  obtain ⟨ds_Formzz_initzz_4, hd_Formzz_initzz_4, hb_Formzz_initzz_4⟩ := b_Formzz_initzz_4 t
  exact fnD (st := s_form_of) (N := ["value"]) (ps := ["value"]) (k := 3) (g := g_form_of) (u_form_of t) sc_form_of (by decide) fun cdv A outer s H E p S hr =>
  (dss_cons (ds_if (dt_val (de_isi (hCs t) (db_var 0) (pe_gcl (t.glo 18)) (.own _) (t.isi (cs := cls_) (u := fun K => .ref (He.ga K "Form")) 36 rfl) (t.free 10) bo_isinstance)) (dss_one (ds_ret (de_var 0))) dss_nil)
  (dss_cons (ds_if (dt_not (dt_val (de_call (ok_is_integer t) (hr.mono (by decide)) (takes_of rfl rfl rfl rfl) (t.glo 13) (u_is_integer t).kp (b_is_integer t) .nil cst_nil (da_cons (de_var 0) da_nil)))) (dss_one ds_never) dss_nil)
  (dss_one (ds_ret (de_make (t.mk_ 19) (ok_Formzz_initzz t) (hr.mono (by decide)) (takes_of rfl rfl rfl rfl) (t.glo 18) rfl hb_Formzz_initzz_4 hd_Formzz_initzz_4 cst_nil (da_cons de_int (da_cons de_int (da_cons (de_var 0) da_nil))))))))
theorem b_Formzz_addzz (t : TX K mg) : Binds K (fdAt K (He.ma K (He.ga K "Form") "__add__")) ["self", "other"] [] := FunD.bindsN (u_Formzz_addzz t) fun _ _ _ _ _ _ us hl => match us, hl with | [_, _], _ => rfl
theorem sc_Formzz_addzz : FnScope ["self", "other", "more"] ["self", "other"] (defScope s_Formzz_addzz) := ⟨rfl, rfl, rfl, by decide +kernel, rfl, by decide +kernel, by decide +kernel⟩
def g_Formzz_addzz : Slots → M Out := (seqS (asgS 2 (callE 1 m_form_of [] (consA (varE 1) nilA)))
  (retS (makeE 0 4 m_Formzz_initzz [] (consA (binE addU (getE 0 0 (varE 0)) (propE 0 m_Form_x (varE 2))) (consA (binE addU (getE 0 1 (varE 0)) (propE 0 m_Form_y (varE 2))) (consA (binE addU (getE 0 2 (varE 0)) (propE 0 m_Form_constant (varE 2))) nilA))))))
def m_Formzz_addzz : List D → M D := fnM 3 g_Formzz_addzz
theorem ok_Formzz_addzz (t : TX K mg) : FnOk P w K mg base (L2.CX P w) 5 (He.ma K (He.ga K "Form") "__add__") (fdAt K (He.ma K (He.ga K "Form") "__add__")) ["self", "other"] (spF K (tbOf cls_ K) 2 m_Formzz_addzz) := by
  obtain ⟨ds_Formzz_initzz_4, hd_Formzz_initzz_4, hb_Formzz_initzz_4⟩ := b_Formzz_initzz_4 t
  exact fnD (st := s_Formzz_addzz) (N := ["self", "other", "more"]) (ps := ["self", "other"]) (k := 4) (g := g_Formzz_addzz) (u_Formzz_addzz t) sc_Formzz_addzz (by decide) fun cdv A outer s H E p S hr =>
  (dss_cons (ds_asg (i := 2) sc_Formzz_addzz.nd (de_call (ok_form_of t) (hr.mono (by decide)) (takes_of rfl rfl rfl rfl) (t.glo 37) (u_form_of t).kp (b_form_of t) .nil cst_nil (da_cons (de_var 1) da_nil)))
  (dss_one (ds_ret (de_make (t.mk_ 19) (ok_Formzz_initzz t) (hr.mono (by decide)) (takes_of rfl rfl rfl rfl) (t.glo 18) rfl hb_Formzz_initzz_4 hd_Formzz_initzz_4 cst_nil (da_cons (de_op od_addU (db_of (de_get (de_var 0) rfl (t.cls 15) (t.noat 14) nd_Form rfl)) (db_of (de_prop (de_var 2) rfl (t.cls 15) (t.prop 23) (ok_Form_x t) (hr.mono (by decide)) (b_Form_x t)))) (da_cons (de_op od_addU (db_of (de_get (de_var 0) rfl (t.cls 15) (t.noat 16) nd_Form rfl)) (db_of (de_prop (de_var 2) rfl (t.cls 15) (t.prop 22) (ok_Form_y t) (hr.mono (by decide)) (b_Form_y t)))) (da_cons (de_op od_addU (db_of (de_get (de_var 0) rfl (t.cls 15) (t.noat 17) nd_Form rfl)) (db_of (de_prop (de_var 2) rfl (t.cls 15) (t.prop 21) (ok_Form_constant t) (hr.mono (by decide)) (b_Form_constant t)))) da_nil)))))))
theorem b_Formzz_subzz (t : TX K mg) : Binds K (fdAt K (He.ma K (He.ga K "Form") "__sub__")) ["self", "other"] [] := FunD.bindsN (u_Formzz_subzz t) fun _ _ _ _ _ _ us hl => match us, hl with | [_, _], _ => rfl
theorem sc_Formzz_subzz : FnScope ["self", "other", "less"] ["self", "other"] (defScope s_Formzz_subzz) := ⟨rfl, rfl, rfl, by decide +kernel, rfl, by decide +kernel, by decide +kernel⟩
def g_Formzz_subzz : Slots → M Out := (seqS (asgS 2 (callE 1 m_form_of [] (consA (varE 1) nilA)))
  (retS (makeE 0 4 m_Formzz_initzz [] (consA (binE (pu iSub) (getE 0 0 (varE 0)) (propE 0 m_Form_x (varE 2))) (consA (binE (pu iSub) (getE 0 1 (varE 0)) (propE 0 m_Form_y (varE 2))) (consA (binE (pu iSub) (getE 0 2 (varE 0)) (propE 0 m_Form_constant (varE 2))) nilA))))))
def m_Formzz_subzz : List D → M D := fnM 3 g_Formzz_subzz
theorem ok_Formzz_subzz (t : TX K mg) : FnOk P w K mg base (L2.CX P w) 5 (He.ma K (He.ga K "Form") "__sub__") (fdAt K (He.ma K (He.ga K "Form") "__sub__")) ["self", "other"] (spF K (tbOf cls_ K) 2 m_Formzz_subzz) := by
  obtain ⟨ds_Formzz_initzz_4, hd_Formzz_initzz_4, hb_Formzz_initzz_4⟩ := b_Formzz_initzz_4 t
  exact fnD (st := s_Formzz_subzz) (N := ["self", "other", "less"]) (ps := ["self", "other"]) (k := 4) (g := g_Formzz_subzz) (u_Formzz_subzz t) sc_Formzz_subzz (by decide) fun cdv A outer s H E p S hr =>
  (dss_cons (ds_asg (i := 2) sc_Formzz_subzz.nd (de_call (ok_form_of t) (hr.mono (by decide)) (takes_of rfl rfl rfl rfl) (t.glo 37) (u_form_of t).kp (b_form_of t) .nil cst_nil (da_cons (de_var 1) da_nil)))
  (dss_one (ds_ret (de_make (t.mk_ 19) (ok_Formzz_initzz t) (hr.mono (by decide)) (takes_of rfl rfl rfl rfl) (t.glo 18) rfl hb_Formzz_initzz_4 hd_Formzz_initzz_4 cst_nil (da_cons (de_op od_iSub (db_of (de_get (de_var 0) rfl (t.cls 15) (t.noat 14) nd_Form rfl)) (db_of (de_prop (de_var 2) rfl (t.cls 15) (t.prop 23) (ok_Form_x t) (hr.mono (by decide)) (b_Form_x t)))) (da_cons (de_op od_iSub (db_of (de_get (de_var 0) rfl (t.cls 15) (t.noat 16) nd_Form rfl)) (db_of (de_prop (de_var 2) rfl (t.cls 15) (t.prop 22) (ok_Form_y t) (hr.mono (by decide)) (b_Form_y t)))) (da_cons (de_op od_iSub (db_of (de_get (de_var 0) rfl (t.cls 15) (t.noat 17) nd_Form rfl)) (db_of (de_prop (de_var 2) rfl (t.cls 15) (t.prop 21) (ok_Form_constant t) (hr.mono (by decide)) (b_Form_constant t)))) da_nil)))))))
theorem b_Formzz_negzz (t : TX K mg) : Binds K (fdAt K (He.ma K (He.ga K "Form") "__neg__")) ["self"] [] := FunD.bindsN (u_Formzz_negzz t) fun _ _ _ _ _ _ us hl => match us, hl with | [_], _ => rfl
theorem sc_Formzz_negzz : FnScope ["self"] ["self"] (defScope s_Formzz_negzz) := ⟨rfl, rfl, rfl, by decide +kernel, rfl, by decide +kernel, by decide +kernel⟩
def g_Formzz_negzz : Slots → M Out := (retS (makeE 0 4 m_Formzz_initzz [] (consA (negE (getE 0 0 (varE 0))) (consA (negE (getE 0 1 (varE 0))) (consA (negE (getE 0 2 (varE 0))) nilA)))))
def m_Formzz_negzz : List D → M D := fnM 1 g_Formzz_negzz
theorem ok_Formzz_negzz (t : TX K mg) : FnOk P w K mg base (L2.CX P w) 4 (He.ma K (He.ga K "Form") "__neg__") (fdAt K (He.ma K (He.ga K "Form") "__neg__")) ["self"] (spF K (tbOf cls_ K) 1 m_Formzz_negzz) := by
  obtain ⟨ds_Formzz_initzz_4, hd_Formzz_initzz_4, hb_Formzz_initzz_4⟩ := b_Formzz_initzz_4 t
  exact fnD (st := s_Formzz_negzz) (N := ["self"]) (ps := ["self"]) (k := 3) (g := g_Formzz_negzz) (u_Formzz_negzz t) sc_Formzz_negzz (by decide) fun cdv A outer s H E p S hr =>
  (dss_one (ds_ret (de_make (t.mk_ 19) (ok_Formzz_initzz t) (hr.mono (by decide)) (takes_of rfl rfl rfl rfl) (t.glo 18) rfl hb_Formzz_initzz_4 hd_Formzz_initzz_4 cst_nil (da_cons (de_neg (de_get (de_var 0) rfl (t.cls 15) (t.noat 14) nd_Form rfl)) (da_cons (de_neg (de_get (de_var 0) rfl (t.cls 15) (t.noat 16) nd_Form rfl)) (da_cons (de_neg (de_get (de_var 0) rfl (t.cls 15) (t.noat 17) nd_Form rfl)) da_nil))))))
theorem b_Formzz_mulzz (t : TX K mg) : Binds K (fdAt K (He.ma K (He.ga K "Form") "__mul__")) ["self", "other"] [] := FunD.bindsN (u_Formzz_mulzz t) fun _ _ _ _ _ _ us hl => match us, hl with | [_, _], _ => rfl
theorem sc_Formzz_mulzz : FnScope ["self", "other"] ["self", "other"] (defScope s_Formzz_mulzz) := ⟨rfl, rfl, rfl, by decide +kernel, rfl, by decide +kernel, by decide +kernel⟩
def g_Formzz_mulzz : Slots → M Out := (seqS (ifS (notT (testE (callE 1 m_is_integer [] (consA (varE 1) nilA)))) (fun _ => fail) nilS)
  (retS (makeE 0 4 m_Formzz_initzz [] (consA (binE (pu iMul) (getE 0 0 (varE 0)) (bvarE 1)) (consA (binE (pu iMul) (getE 0 1 (varE 0)) (bvarE 1)) (consA (binE (pu iMul) (getE 0 2 (varE 0)) (bvarE 1)) nilA))))))
def m_Formzz_mulzz : List D → M D := fnM 2 g_Formzz_mulzz
theorem ok_Formzz_mulzz (t : TX K mg) : FnOk P w K mg base (L2.CX P w) 4 (He.ma K (He.ga K "Form") "__mul__") (fdAt K (He.ma K (He.ga K "Form") "__mul__")) ["self", "other"] (spF K (tbOf cls_ K) 2 m_Formzz_mulzz) := by
  obtain ⟨ds_Formzz_initzz_4, hd_Formzz_initzz_4, hb_Formzz_initzz_4⟩ := b_Formzz_initzz_4 t
  exact fnD (st := s_Formzz_mulzz) (N := ["self", "other"]) (ps := ["self", "other"]) (k := 3) (g := g_Formzz_mulzz) (u_Formzz_mulzz t) sc_Formzz_mulzz (by decide) fun cdv A outer s H E p S hr =>
  (dss_cons (ds_if (dt_not (dt_val (de_call (ok_is_integer t) (hr.mono (by decide)) (takes_of rfl rfl rfl rfl) (t.glo 13) (u_is_integer t).kp (b_is_integer t) .nil cst_nil (da_cons (de_var 1) da_nil)))) (dss_one ds_never) dss_nil)
  (dss_one (ds_ret (de_make (t.mk_ 19) (ok_Formzz_initzz t) (hr.mono (by decide)) (takes_of rfl rfl rfl rfl) (t.glo 18) rfl hb_Formzz_initzz_4 hd_Formzz_initzz_4 cst_nil (da_cons (de_op od_iMul (db_of (de_get (de_var 0) rfl (t.cls 15) (t.noat 14) nd_Form rfl)) (db_var 1)) (da_cons (de_op od_iMul (db_of (de_get (de_var 0) rfl (t.cls 15) (t.noat 16) nd_Form rfl)) (db_var 1)) (da_cons (de_op od_iMul (db_of (de_get (de_var 0) rfl (t.cls 15) (t.noat 17) nd_Form rfl)) (db_var 1)) da_nil)))))))
theorem b__law_sum_right (t : TX K mg) : Binds K (fdAt K (He.ga K "_law_sum_right")) ["_law_form", "_law_two", "_law_near", "_law_far"] [] := FunD.bindsN (u__law_sum_right t) fun _ _ _ _ _ _ us hl => match us, hl with | [_, _, _, _], _ => rfl
theorem sc__law_sum_right : FnScope ["_law_form", "_law_two", "_law_near", "_law_far", "_law_number_here", "_law_due", "_law_one", "_law_more", "_law_less"] ["_law_form", "_law_two", "_law_near", "_law_far"] (defScope s__law_sum_right) := ⟨rfl, rfl, rfl, by decide +kernel, rfl, by decide +kernel, by decide +kernel⟩
def g__law_sum_right : Slots → M Out := (seqS (asgS 4 (binE ixM (bvarE 3) (cE (.int 2))))
  (seqS (asgS 5 (bltE tupF (consA (boxE (compE (itA zipA (consA (varE 2) (consA (varE 3) nilA))) [6, 7] (tgT [(tgN 6), (tgN 7)]) yesT (binE addU (bvarE 6) (bvarE 7)))) nilA)))
  (seqS (asgS 8 (bltE tupF (consA (boxE (compE (itA zipA (consA (varE 2) (consA (varE 3) nilA))) [6, 7] (tgT [(tgN 6), (tgN 7)]) yesT (binE (pu iSub) (bvarE 6) (bvarE 7)))) nilA)))
  (seqS (ifS (orT (notT (testE (callE 2 m__law_is [] (consA (binE (ownM 1 0 m_Formzz_addzz) (varE 0) (varE 1)) (consA (varE 5) nilA))))) (notT (testE (callE 2 m__law_is [] (consA (binE (ownM 1 0 m_Formzz_subzz) (varE 0) (varE 1)) (consA (varE 8) nilA)))))) (retS (cE (.bl false))) nilS)
  (seqS (ifS (notT (testE (callE 2 m__law_is [] (consA (binE (ownM 1 0 m_Formzz_addzz) (varE 0) (varE 4)) (consA (binE addU (slE (bvarE 2) noO (soO (cE (.int 2)))) (tupE (consA (binE addU (binE ixM (bvarE 2) (cE (.int 2))) (bvarE 4)) nilA))) nilA))))) (retS (cE (.bl false))) nilS)
  (seqS (ifS (notT (testE (callE 2 m__law_is [] (consA (binE (ownM 1 0 m_Formzz_subzz) (varE 0) (varE 4)) (consA (binE addU (slE (bvarE 2) noO (soO (cE (.int 2)))) (tupE (consA (binE (pu iSub) (binE ixM (bvarE 2) (cE (.int 2))) (bvarE 4)) nilA))) nilA))))) (retS (cE (.bl false))) nilS)
  (seqS (ifS (notT (testE (callE 2 m__law_is [] (consA (unE (unM 0 m_Formzz_negzz) (varE 0)) (consA (bltE tupF (consA (boxE (compE (itE (varE 2)) [6] (tgN 6) yesT (negE (varE 6)))) nilA)) nilA))))) (retS (cE (.bl false))) nilS)
  (retS (andE (callE 2 m__law_is [] (consA (binE (ownM 1 0 m_Formzz_mulzz) (varE 0) (varE 4)) (consA (bltE tupF (consA (boxE (compE (itE (varE 2)) [6] (tgN 6) yesT (binE (pu iMul) (bvarE 6) (bvarE 4)))) nilA)) nilA))) (callE 2 m__law_is [] (consA (binE (ownM 1 0 m_Formzz_mulzz) (varE 0) (cE (.int 0))) (consA (tupE (consA (cE (.int 0)) (consA (cE (.int 0)) (consA (cE (.int 0)) nilA)))) nilA))))))))))))
def m__law_sum_right : List D → M D := fnM 9 g__law_sum_right
theorem ok__law_sum_right (t : TX K mg) : FnOk P w K mg base (L2.CX P w) 6 (He.ga K "_law_sum_right") (fdAt K (He.ga K "_law_sum_right")) ["_law_form", "_law_two", "_law_near", "_law_far"] (spF K (tbOf cls_ K) 4 m__law_sum_right) :=
  fnD (st := s__law_sum_right) (N := ["_law_form", "_law_two", "_law_near", "_law_far", "_law_number_here", "_law_due", "_law_one", "_law_more", "_law_less"]) (ps := ["_law_form", "_law_two", "_law_near", "_law_far"]) (k := 5) (g := g__law_sum_right) (u__law_sum_right t) sc__law_sum_right (by decide) fun cdv A outer s H E p S hr =>
  (dss_cons (ds_asg (i := 4) sc__law_sum_right.nd (de_ix (db_var 3) (db_of de_int)))
  (dss_cons (ds_asg (i := 5) sc__law_sum_right.nd (de_blt_ty cd_tuple (t.free 35) bo_tuple (dab_cons (db_of (de_box (dl_lc rfl sc__law_sum_right.nd (own := [(("_law_one" : Str), 6), (("_law_more" : Str), 7)]) (di_zip (da_cons (de_var 2) (da_cons (de_var 3) da_nil)) (t.free 34)) (blkOk_by (by kernel_rfl)) (fun l s H C cl fp => (dg_tup rfl (dgs_cons (dg_name (vs := [6, 7]) sc__law_sum_right.nd (by decide)) (dgs_cons (dg_name (vs := [6, 7]) sc__law_sum_right.nd (by decide)) dgs_nil)))) (fun l s H C cl fp => dts_nil) (fun l s H C cl fp => (de_op od_addU (db_var 6) (db_var 7)))))) dab_nil)))
  (dss_cons (ds_asg (i := 8) sc__law_sum_right.nd (de_blt_ty cd_tuple (t.free 35) bo_tuple (dab_cons (db_of (de_box (dl_lc rfl sc__law_sum_right.nd (own := [(("_law_one" : Str), 6), (("_law_more" : Str), 7)]) (di_zip (da_cons (de_var 2) (da_cons (de_var 3) da_nil)) (t.free 34)) (blkOk_by (by kernel_rfl)) (fun l s H C cl fp => (dg_tup rfl (dgs_cons (dg_name (vs := [6, 7]) sc__law_sum_right.nd (by decide)) (dgs_cons (dg_name (vs := [6, 7]) sc__law_sum_right.nd (by decide)) dgs_nil)))) (fun l s H C cl fp => dts_nil) (fun l s H C cl fp => (de_op od_iSub (db_var 6) (db_var 7)))))) dab_nil)))
  (dss_cons (ds_if ((dw_or (dt_not (dt_val (de_call (ok__law_is t) (hr.mono (by decide)) (takes_of rfl rfl rfl rfl) (t.glo 33) (u__law_is t).kp (b__law_is t) .nil cst_nil (da_cons (de_opV (ov_binS du_add (hCs t) rfl rfl hn1_Form (t.cmpI 38) (t.meth 39) (t.bin (op := .Add) 40) (ok_Formzz_addzz t) (hr.mono (by decide)) (b_Formzz_addzz t) (takes_of rfl rfl rfl rfl)) (de_var 0) (de_var 1)) (da_cons (de_var 5) da_nil))))) (dw_or1 (dt_not (dt_val (de_call (ok__law_is t) (hr.mono (by decide)) (takes_of rfl rfl rfl rfl) (t.glo 33) (u__law_is t).kp (b__law_is t) .nil cst_nil (da_cons (de_opV (ov_binS du_sub (hCs t) rfl rfl hn1_Form (t.cmpI 38) (t.meth 41) (t.bin (op := .Sub) 42) (ok_Formzz_subzz t) (hr.mono (by decide)) (b_Formzz_subzz t) (takes_of rfl rfl rfl rfl)) (de_var 0) (de_var 1)) (da_cons (de_var 8) da_nil)))))))).pt (dss_one (ds_ret de_bl)) dss_nil)
  (dss_cons (ds_if (dt_not (dt_val (de_call (ok__law_is t) (hr.mono (by decide)) (takes_of rfl rfl rfl rfl) (t.glo 33) (u__law_is t).kp (b__law_is t) .nil cst_nil (da_cons (de_opV (ov_binS du_add (hCs t) rfl rfl hn1_Form (t.cmpI 38) (t.meth 39) (t.bin (op := .Add) 40) (ok_Formzz_addzz t) (hr.mono (by decide)) (b_Formzz_addzz t) (takes_of rfl rfl rfl rfl)) (de_var 0) (de_var 4)) (da_cons (de_op od_addU (db_of (de_slice (db_var 2) do_none (do_some (db_of de_int)))) (db_of (de_tup (da_cons (de_op od_addU (db_of (de_ix (db_var 2) (db_of de_int))) (db_var 4)) da_nil)))) da_nil))))) (dss_one (ds_ret de_bl)) dss_nil)
  (dss_cons (ds_if (dt_not (dt_val (de_call (ok__law_is t) (hr.mono (by decide)) (takes_of rfl rfl rfl rfl) (t.glo 33) (u__law_is t).kp (b__law_is t) .nil cst_nil (da_cons (de_opV (ov_binS du_sub (hCs t) rfl rfl hn1_Form (t.cmpI 38) (t.meth 41) (t.bin (op := .Sub) 42) (ok_Formzz_subzz t) (hr.mono (by decide)) (b_Formzz_subzz t) (takes_of rfl rfl rfl rfl)) (de_var 0) (de_var 4)) (da_cons (de_op od_addU (db_of (de_slice (db_var 2) do_none (do_some (db_of de_int)))) (db_of (de_tup (da_cons (de_op od_iSub (db_of (de_ix (db_var 2) (db_of de_int))) (db_var 4)) da_nil)))) da_nil))))) (dss_one (ds_ret de_bl)) dss_nil)
  (dss_cons (ds_if (dt_not (dt_val (de_call (ok__law_is t) (hr.mono (by decide)) (takes_of rfl rfl rfl rfl) (t.glo 33) (u__law_is t).kp (b__law_is t) .nil cst_nil (da_cons (de_negO (de_var 0) rfl (t.meth 43).at_ (t.meth 43).fn (ok_Formzz_negzz t) (hr.mono (by decide)) (b_Formzz_negzz t) (takes_of rfl rfl rfl rfl)) (da_cons (de_blt_ty cd_tuple (t.free 35) bo_tuple (dab_cons (db_of (de_box (dl_lc rfl sc__law_sum_right.nd (own := [(("_law_one" : Str), 6)]) (di_val (de_var 2)) (blkOk_by (by kernel_rfl)) (fun l s H C cl fp => (dg_name (vs := [6]) sc__law_sum_right.nd (by decide))) (fun l s H C cl fp => dts_nil) (fun l s H C cl fp => (de_neg (de_var 6)))))) dab_nil)) da_nil))))) (dss_one (ds_ret de_bl)) dss_nil)
  (dss_one (ds_ret (de_and (de_call (ok__law_is t) (hr.mono (by decide)) (takes_of rfl rfl rfl rfl) (t.glo 33) (u__law_is t).kp (b__law_is t) .nil cst_nil (da_cons (de_opV (ov_binS du_mul (hCs t) rfl rfl hn1_Form (t.cmpI 38) (t.meth 44) (t.bin (op := .Mult) 45) (ok_Formzz_mulzz t) (hr.mono (by decide)) (b_Formzz_mulzz t) (takes_of rfl rfl rfl rfl)) (de_var 0) (de_var 4)) (da_cons (de_blt_ty cd_tuple (t.free 35) bo_tuple (dab_cons (db_of (de_box (dl_lc rfl sc__law_sum_right.nd (own := [(("_law_one" : Str), 6)]) (di_val (de_var 2)) (blkOk_by (by kernel_rfl)) (fun l s H C cl fp => (dg_name (vs := [6]) sc__law_sum_right.nd (by decide))) (fun l s H C cl fp => dts_nil) (fun l s H C cl fp => (de_op od_iMul (db_var 6) (db_var 4)))))) dab_nil)) da_nil))) (de_one (de_call (ok__law_is t) (hr.mono (by decide)) (takes_of rfl rfl rfl rfl) (t.glo 33) (u__law_is t).kp (b__law_is t) .nil cst_nil (da_cons (de_opV (ov_binS du_mul (hCs t) rfl rfl hn1_Form (t.cmpI 38) (t.meth 44) (t.bin (op := .Mult) 45) (ok_Formzz_mulzz t) (hr.mono (by decide)) (b_Formzz_mulzz t) (takes_of rfl rfl rfl rfl)) (de_var 0) de_int) (da_cons (de_tup (da_cons de_int (da_cons de_int (da_cons de_int da_nil)))) da_nil))))))))))))))
theorem b_Form_at_3 (t : TX K mg) : ∃ ds, Vals [] ds ∧ Binds K (fdAt K (He.ma K (He.ga K "Form") "at")) ["self", "x", "y"] ds := FunD.binds1 (u_Form_at t) 3 1 (by intro e; cases e) rfl fun T kV doc pm an cdv ct us its h1 h2 => match us, its, h1, h2 with | [_, _, _], [_], _, _ => ⟨_, rfl, rfl⟩
theorem b_Form_at_2 (t : TX K mg) : ∃ ds, Vals [.int 0] ds ∧ Binds K (fdAt K (He.ma K (He.ga K "Form") "at")) ["self", "x", "y"] ds := FunD.binds1 (u_Form_at t) 2 0 (by intro e; cases e) rfl fun T kV doc pm an cdv ct us its h1 h2 => match us, its, h1, h2 with | [_, _], [_], _, _ => ⟨_, rfl, rfl⟩
theorem sc_Form_at : FnScope ["self", "x", "y", "value"] ["self", "x", "y"] (defScope s_Form_at) := ⟨rfl, rfl, rfl, by decide +kernel, rfl, by decide +kernel, by decide +kernel⟩
def g_Form_at_b1 : Slots → M Out := (ifS (notT (testE (callE 1 m_is_integer [] (consA (varE 3) nilA)))) (fun _ => fail) nilS)
def g_Form_at : Slots → M Out := (seqS (forS (itE (tupE (consA (varE 1) (consA (varE 2) nilA)))) (tgN 3) g_Form_at_b1)
  (retS (binE addU (binE addU (binE (pu iMul) (getE 0 0 (varE 0)) (bvarE 1)) (binE (pu iMul) (getE 0 1 (varE 0)) (bvarE 2))) (getE 0 2 (varE 0)))))
def m_Form_at : List D → M D := fnM 4 g_Form_at
theorem ok_Form_at (t : TX K mg) : FnOk P w K mg base (L2.CX P w) 2 (He.ma K (He.ga K "Form") "at") (fdAt K (He.ma K (He.ga K "Form") "at")) ["self", "x", "y"] (spF K (tbOf cls_ K) 3 m_Form_at) :=
  fnD (st := s_Form_at) (N := ["self", "x", "y", "value"]) (ps := ["self", "x", "y"]) (k := 1) (g := g_Form_at) (u_Form_at t) sc_Form_at (by decide) fun cdv A outer s H E p S hr =>
  (dss_cons (ds_for (passes_of rfl) rfl (di_val (de_tup (da_cons (de_var 1) (da_cons (de_var 2) da_nil)))) (dg_name (vs := [3]) sc_Form_at.nd (by decide)) (dss_one (ds_if (dt_not (dt_val (de_call (ok_is_integer t) (hr.mono (by decide)) (takes_of rfl rfl rfl rfl) (t.glo 13) (u_is_integer t).kp (b_is_integer t) .nil cst_nil (da_cons (de_var 3) da_nil)))) (dss_one ds_never) dss_nil)))
  (dss_one (ds_ret (de_op od_addU (db_of (de_op od_addU (db_of (de_op od_iMul (db_of (de_get (de_var 0) rfl (t.cls 15) (t.noat 14) nd_Form rfl)) (db_var 1))) (db_of (de_op od_iMul (db_of (de_get (de_var 0) rfl (t.cls 15) (t.noat 16) nd_Form rfl)) (db_var 2))))) (db_of (de_get (de_var 0) rfl (t.cls 15) (t.noat 17) nd_Form rfl))))))
theorem b__law_value (t : TX K mg) : Binds K (fdAt K (He.ga K "_law_value")) ["_law_told", "_law_point"] [] := FunD.bindsN (u__law_value t) fun _ _ _ _ _ _ us hl => match us, hl with | [_, _], _ => rfl
theorem sc__law_value : FnScope ["_law_told", "_law_point"] ["_law_told", "_law_point"] (defScope s__law_value) := ⟨rfl, rfl, rfl, by decide +kernel, rfl, by decide +kernel, by decide +kernel⟩
def g__law_value : Slots → M Out := (retS (binE addU (binE addU (binE (pu iMul) (binE ixM (bvarE 0) (cE (.int 0))) (binE ixM (bvarE 1) (cE (.int 0)))) (binE (pu iMul) (binE ixM (bvarE 0) (cE (.int 1))) (binE ixM (bvarE 1) (cE (.int 1))))) (binE ixM (bvarE 0) (cE (.int 2)))))
def m__law_value : List D → M D := fnM 2 g__law_value
theorem ok__law_value (t : TX K mg) : FnOk P w K mg base (L2.CX P w) 1 (He.ga K "_law_value") (fdAt K (He.ga K "_law_value")) ["_law_told", "_law_point"] (spF K (tbOf cls_ K) 2 m__law_value) :=
  fnD (st := s__law_value) (N := ["_law_told", "_law_point"]) (ps := ["_law_told", "_law_point"]) (k := 0) (g := g__law_value) (u__law_value t) sc__law_value (by decide) fun cdv A outer s H E p S hr =>
  (dss_one (ds_ret (de_op od_addU (db_of (de_op od_addU (db_of (de_op od_iMul (db_of (de_ix (db_var 0) (db_of de_int))) (db_of (de_ix (db_var 1) (db_of de_int))))) (db_of (de_op od_iMul (db_of (de_ix (db_var 0) (db_of de_int))) (db_of (de_ix (db_var 1) (db_of de_int))))))) (db_of (de_ix (db_var 0) (db_of de_int))))))
theorem b_Form_put (t : TX K mg) : Binds K (fdAt K (He.ma K (He.ga K "Form") "put")) ["self", "first", "second"] [] := FunD.bindsN (u_Form_put t) fun _ _ _ _ _ _ us hl => match us, hl with | [_, _, _], _ => rfl
theorem sc_Form_put : FnScope ["self", "first", "second", "value"] ["self", "first", "second"] (defScope s_Form_put) := ⟨rfl, rfl, rfl, by decide +kernel, rfl, by decide +kernel, by decide +kernel⟩
def g_Form_put_b1 : Slots → M Out := (ifS (notT (testE (isiE 1 (ansOf [] [true]) (bvarE 3)))) (fun _ => fail) nilS)
def g_Form_put : Slots → M Out := (seqS (forS (itE (tupE (consA (varE 1) (consA (varE 2) nilA)))) (tgN 3) g_Form_put_b1)
  (retS (binE (ownM 1 0 m_Formzz_addzz) (binE (ownM 1 0 m_Formzz_addzz) (binE (ownM 1 0 m_Formzz_mulzz) (varE 1) (getE 0 0 (varE 0))) (binE (ownM 1 0 m_Formzz_mulzz) (varE 2) (getE 0 1 (varE 0)))) (getE 0 2 (varE 0)))))
def m_Form_put : List D → M D := fnM 4 g_Form_put
theorem ok_Form_put (t : TX K mg) : FnOk P w K mg base (L2.CX P w) 6 (He.ma K (He.ga K "Form") "put") (fdAt K (He.ma K (He.ga K "Form") "put")) ["self", "first", "second"] (spF K (tbOf cls_ K) 3 m_Form_put) :=
  fnD (st := s_Form_put) (N := ["self", "first", "second", "value"]) (ps := ["self", "first", "second"]) (k := 5) (g := g_Form_put) (u_Form_put t) sc_Form_put (by decide) fun cdv A outer s H E p S hr =>
  (dss_cons (ds_for (passes_of rfl) rfl (di_val (de_tup (da_cons (de_var 1) (da_cons (de_var 2) da_nil)))) (dg_name (vs := [3]) sc_Form_put.nd (by decide)) (dss_one (ds_if (dt_not (dt_val (de_isi (hCs t) (db_var 3) (pe_gcl (t.glo 18)) (.own _) (t.isi (cs := cls_) (u := fun K => .ref (He.ga K "Form")) 36 rfl) (t.free 10) bo_isinstance))) (dss_one ds_never) dss_nil)))
  (dss_one (ds_ret (de_opV (ov_binS du_add (hCs t) rfl rfl hn1_Form (t.cmpI 38) (t.meth 39) (t.bin (op := .Add) 40) (ok_Formzz_addzz t) (hr.mono (by decide)) (b_Formzz_addzz t) (takes_of rfl rfl rfl rfl)) (de_opV (ov_binS du_add (hCs t) rfl rfl hn1_Form (t.cmpI 38) (t.meth 39) (t.bin (op := .Add) 40) (ok_Formzz_addzz t) (hr.mono (by decide)) (b_Formzz_addzz t) (takes_of rfl rfl rfl rfl)) (de_opV (ov_binS du_mul (hCs t) rfl rfl hn1_Form (t.cmpI 38) (t.meth 44) (t.bin (op := .Mult) 45) (ok_Formzz_mulzz t) (hr.mono (by decide)) (b_Formzz_mulzz t) (takes_of rfl rfl rfl rfl)) (de_var 1) (de_get (de_var 0) rfl (t.cls 15) (t.noat 14) nd_Form rfl)) (de_opV (ov_binS du_mul (hCs t) rfl rfl hn1_Form (t.cmpI 38) (t.meth 44) (t.bin (op := .Mult) 45) (ok_Formzz_mulzz t) (hr.mono (by decide)) (b_Formzz_mulzz t) (takes_of rfl rfl rfl rfl)) (de_var 2) (de_get (de_var 0) rfl (t.cls 15) (t.noat 16) nd_Form rfl))) (de_get (de_var 0) rfl (t.cls 15) (t.noat 17) nd_Form rfl)))))
theorem b_Formzz_eqzz (t : TX K mg) : Binds K (fdAt K (He.ma K (He.ga K "Form") "__eq__")) ["self", "other"] [] := FunD.bindsN (u_Formzz_eqzz t) fun _ _ _ _ _ _ us hl => match us, hl with | [_, _], _ => rfl
theorem sc_Formzz_eqzz : FnScope ["self", "other"] ["self", "other"] (defScope s_Formzz_eqzz) := ⟨rfl, rfl, rfl, by decide +kernel, rfl, by decide +kernel, by decide +kernel⟩
def g_Formzz_eqzz : Slots → M Out := (seqS (ifS (notT (testE (isiE 1 (ansOf [] [true]) (bvarE 1)))) (retS (cE (.bl false))) nilS)
  (retS (binE (pu dEq) (tupE (consA (getE 0 0 (varE 0)) (consA (getE 0 1 (varE 0)) (consA (getE 0 2 (varE 0)) nilA)))) (tupE (consA (propE 0 m_Form_x (varE 1)) (consA (propE 0 m_Form_y (varE 1)) (consA (propE 0 m_Form_constant (varE 1)) nilA)))))))
def m_Formzz_eqzz : List D → M D := fnM 2 g_Formzz_eqzz
theorem ok_Formzz_eqzz (t : TX K mg) : FnOk P w K mg base (L2.CX P w) 3 (He.ma K (He.ga K "Form") "__eq__") (fdAt K (He.ma K (He.ga K "Form") "__eq__")) ["self", "other"] (spF K (tbOf cls_ K) 2 m_Formzz_eqzz) :=
  fnD (st := s_Formzz_eqzz) (N := ["self", "other"]) (ps := ["self", "other"]) (k := 2) (g := g_Formzz_eqzz) (u_Formzz_eqzz t) sc_Formzz_eqzz (by decide) fun cdv A outer s H E p S hr =>
  (dss_cons (ds_if (dt_not (dt_val (de_isi (hCs t) (db_var 1) (pe_gcl (t.glo 18)) (.own _) (t.isi (cs := cls_) (u := fun K => .ref (He.ga K "Form")) 36 rfl) (t.free 10) bo_isinstance))) (dss_one (ds_ret de_bl)) dss_nil)
  (dss_one (ds_ret (de_cmp (od_dEq hr) (db_of (de_tup (da_cons (de_get (de_var 0) rfl (t.cls 15) (t.noat 14) nd_Form rfl) (da_cons (de_get (de_var 0) rfl (t.cls 15) (t.noat 16) nd_Form rfl) (da_cons (de_get (de_var 0) rfl (t.cls 15) (t.noat 17) nd_Form rfl) da_nil))))) (db_of (de_tup (da_cons (de_prop (de_var 1) rfl (t.cls 15) (t.prop 23) (ok_Form_x t) (hr.mono (by decide)) (b_Form_x t)) (da_cons (de_prop (de_var 1) rfl (t.cls 15) (t.prop 22) (ok_Form_y t) (hr.mono (by decide)) (b_Form_y t)) (da_cons (de_prop (de_var 1) rfl (t.cls 15) (t.prop 21) (ok_Form_constant t) (hr.mono (by decide)) (b_Form_constant t)) da_nil)))))))))
theorem b__law_right (t : TX K mg) : Binds K (fdAt K (He.ga K "_law_right")) ["_law_pot_here"] [] := FunD.bindsN (u__law_right t) fun _ _ _ _ _ _ us hl => match us, hl with | [_], _ => rfl
theorem sc__law_right : FnScope ["_law_pot_here", "_law_lists", "_law_turn", "_law_near", "_law_far", "_law_third", "_law_form", "_law_two", "_law_three", "_law_point", "_law_mixed", "_law_inner", "_law_due"] ["_law_pot_here"] (defScope s__law_right) := ⟨rfl, rfl, rfl, by decide +kernel, rfl, by decide +kernel, by decide +kernel⟩
def g__law_right_s1 : Slots → M Out := (asgS 1 (boxE (compE (itA rng1 (consA (cE (.int 3)) nilA)) [2] (tgN 2) yesT (callE 1 m__law_numbers [] (consA (varE 0) nilA)))))
def g__law_right_s2 : Slots → M Out := (unpS (tgL [(tgN 3), (tgN 4), (tgN 5)]) (varE 1))
def g__law_right_s3 : Slots → M Out := (par3S 6 7 8 (consA (callE 1 m__law_made [] (consA (varE 3) nilA)) (consA (callE 1 m__law_made [] (consA (varE 4) nilA)) (consA (callE 1 m__law_made [] (consA (varE 5) nilA)) nilA))))
def g__law_right_s4 : Slots → M Out := (ifS (orT (notT (testE (callE 2 m__law_is [] (consA (varE 6) (consA (varE 3) nilA))))) (orT (notT (testE (callE 2 m__law_is [] (consA (varE 7) (consA (varE 4) nilA))))) (notT (testE (callE 4 m__law_sum_right [] (consA (varE 6) (consA (varE 7) (consA (varE 3) (consA (varE 4) nilA))))))))) (retS (cE (.bl false))) nilS)
def g__law_right_s5 : Slots → M Out := (asgS 9 (tupE (consA (callE 1 m__law_number [] (consA (varE 0) nilA)) (consA (callE 1 m__law_number [] (consA (varE 0) nilA)) nilA))))
def g__law_right_s6 : Slots → M Out := (ifS (orT (testE (binE (pu dNe) (methE 0 3 m_Form_at [] (varE 6) (consA (binE ixM (bvarE 9) (cE (.int 0))) (consA (binE ixM (bvarE 9) (cE (.int 1))) nilA))) (callE 2 m__law_value [] (consA (varE 3) (consA (varE 9) nilA))))) (testE (binE (pu dNe) (methE 0 3 m_Form_at [.int 0] (varE 6) (consA (binE ixM (bvarE 9) (cE (.int 0))) nilA)) (callE 2 m__law_value [] (consA (varE 3) (consA (tupE (consA (binE ixM (bvarE 9) (cE (.int 0))) (consA (cE (.int 0)) nilA))) nilA)))))) (retS (cE (.bl false))) nilS)
def g__law_right_s7 : Slots → M Out := (asgS 10 (methE 0 3 m_Form_put [] (varE 6) (consA (varE 7) (consA (varE 8) nilA))))
def g__law_right_s8 : Slots → M Out := (asgS 11 (tupE (consA (callE 2 m__law_value [] (consA (varE 4) (consA (varE 9) nilA))) (consA (callE 2 m__law_value [] (consA (varE 5) (consA (varE 9) nilA))) nilA))))
def g__law_right_s9 : Slots → M Out := (ifS (testE (binE (pu dNe) (methE 0 3 m_Form_at [] (varE 10) (consA (binE ixM (bvarE 9) (cE (.int 0))) (consA (binE ixM (bvarE 9) (cE (.int 1))) nilA))) (callE 2 m__law_value [] (consA (varE 3) (consA (varE 11) nilA))))) (retS (cE (.bl false))) nilS)
def g__law_right_s10 : Slots → M Out := (asgS 12 (tupE (consA (binE addU (binE (pu iMul) (binE ixM (bvarE 3) (cE (.int 0))) (binE ixM (bvarE 4) (cE (.int 0)))) (binE (pu iMul) (binE ixM (bvarE 3) (cE (.int 1))) (binE ixM (bvarE 5) (cE (.int 0))))) (consA (binE addU (binE (pu iMul) (binE ixM (bvarE 3) (cE (.int 0))) (binE ixM (bvarE 4) (cE (.int 1)))) (binE (pu iMul) (binE ixM (bvarE 3) (cE (.int 1))) (binE ixM (bvarE 5) (cE (.int 1))))) nilA))))
def g__law_right_s11 : Slots → M Out := (ifS (orT (notT (testE (callE 2 m__law_is [] (consA (varE 10) (consA (binE addU (bvarE 12) (tupE (consA (callE 2 m__law_value [] (consA (varE 3) (consA (tupE (consA (binE ixM (bvarE 4) (cE (.int 2))) (consA (binE ixM (bvarE 5) (cE (.int 2))) nilA))) nilA))) nilA))) nilA))))) (testE (binE (neM 1 0 m_Formzz_eqzz) (methE 0 3 m_Form_put [] (varE 6) (consA (makeE 0 4 m_Formzz_initzz [.int 0, .int 0] (consA (cE (.int 1)) nilA)) (consA (makeE 0 4 m_Formzz_initzz [.int 0] (consA (cE (.int 0)) (consA (cE (.int 1)) nilA))) nilA))) (varE 6)))) (retS (cE (.bl false))) nilS)
def g__law_right_s12 : Slots → M Out := (ifS (orT (testE (binE (pu dNe) (binE (ownM 1 0 m_Formzz_eqzz) (varE 6) (varE 7)) (binE (pu dEq) (bvarE 3) (bvarE 4)))) (orT (testE (binE (pu dNe) (binE (neM 1 0 m_Formzz_eqzz) (varE 6) (varE 8)) (binE (pu dNe) (bvarE 3) (bvarE 5)))) (orT (testE (binE (ownM 1 0 m_Formzz_eqzz) (varE 6) (varE 3))) (testE (binE (ownM 1 0 m_Formzz_eqzz) (varE 6) (bltE (txM 0 m_Formzz_strzz) (consA (bvarE 6) nilA))))))) (retS (cE (.bl false))) nilS)
def g__law_right_s13 : Slots → M Out := (ifS (orT (testE (binE (neM 1 0 m_Formzz_eqzz) (makeE 0 4 m_Formzz_initzz [.int 0, .int 0, .int 0] nilA) (makeE 0 4 m_Formzz_initzz [] (consA (cE (.int 0)) (consA (cE (.int 0)) (consA (cE (.int 0)) nilA)))))) (testE (binE (neM 1 0 m_Formzz_eqzz) (makeE 0 4 m_Formzz_initzz [.int 0, .int 0] (consA (binE ixM (bvarE 3) (cE (.int 0))) nilA)) (makeE 0 4 m_Formzz_initzz [] (consA (binE ixM (bvarE 3) (cE (.int 0))) (consA (cE (.int 0)) (consA (cE (.int 0)) nilA))))))) (retS (cE (.bl false))) nilS)
def g__law_right_s14 : Slots → M Out := (ifS (testE (binE (neM 1 0 m_Formzz_eqzz) (makeE 0 4 m_Formzz_initzz [.int 0] (consA (binE ixM (bvarE 3) (cE (.int 0))) (consA (binE ixM (bvarE 3) (cE (.int 1))) nilA))) (makeE 0 4 m_Formzz_initzz [] (consA (binE ixM (bvarE 3) (cE (.int 0))) (consA (binE ixM (bvarE 3) (cE (.int 1))) (consA (cE (.int 0)) nilA)))))) (retS (cE (.bl false))) nilS)
def g__law_right_s15 : Slots → M Out := (retS (andE (callE 2 m__law_is [] (consA (varE 6) (consA (varE 3) nilA))) (andE (callE 2 m__law_is [] (consA (varE 7) (consA (varE 4) nilA))) (callE 2 m__law_is [] (consA (varE 8) (consA (varE 5) nilA))))))
def g__law_right : Slots → M Out := (seqS g__law_right_s1
  (seqS g__law_right_s2
  (seqS g__law_right_s3
  (seqS g__law_right_s4
  (seqS g__law_right_s5
  (seqS g__law_right_s6
  (seqS g__law_right_s7
  (seqS g__law_right_s8
  (seqS g__law_right_s9
  (seqS g__law_right_s10
  (seqS g__law_right_s11
  (seqS g__law_right_s12
  (seqS g__law_right_s13
  (seqS g__law_right_s14
  g__law_right_s15))))))))))))))
def m__law_right : List D → M D := fnM 13 g__law_right
theorem ok__law_right (t : TX K mg) : FnOk P w K mg base (L2.CX P w) 7 (He.ga K "_law_right") (fdAt K (He.ga K "_law_right")) ["_law_pot_here"] (spF K (tbOf cls_ K) 1 m__law_right) := by
  obtain ⟨ds_Form_at_3, hd_Form_at_3, hb_Form_at_3⟩ := b_Form_at_3 t
  obtain ⟨ds_Form_at_2, hd_Form_at_2, hb_Form_at_2⟩ := b_Form_at_2 t
  obtain ⟨ds_Formzz_initzz_3, hd_Formzz_initzz_3, hb_Formzz_initzz_3⟩ := b_Formzz_initzz_3 t
  obtain ⟨ds_Formzz_initzz_2, hd_Formzz_initzz_2, hb_Formzz_initzz_2⟩ := b_Formzz_initzz_2 t
  obtain ⟨ds_Formzz_initzz_1, hd_Formzz_initzz_1, hb_Formzz_initzz_1⟩ := b_Formzz_initzz_1 t
  obtain ⟨ds_Formzz_initzz_4, hd_Formzz_initzz_4, hb_Formzz_initzz_4⟩ := b_Formzz_initzz_4 t
  exact fnD (st := s__law_right) (N := ["_law_pot_here", "_law_lists", "_law_turn", "_law_near", "_law_far", "_law_third", "_law_form", "_law_two", "_law_three", "_law_point", "_law_mixed", "_law_inner", "_law_due"]) (ps := ["_law_pot_here"]) (k := 6) (g := g__law_right) (u__law_right t) sc__law_right (by decide) fun cdv A outer s H E p S hr =>
  (dss_cons (ds_box (ps_lc (i := 1) rfl sc__law_right.nd rfl rfl rfl (own := [(("_law_turn" : Str), 2)]) (di_range1 (dab_cons (db_of de_int) dab_nil) (t.free 0)) (blkOk_by (by kernel_rfl)) (fun l s H C cl fp => (dg_name (vs := [2]) sc__law_right.nd (by decide))) (fun l s H C cl fp => dts_nil) (fun l s H C cl fp => (de_call (ok__law_numbers t) (hr.mono (by decide)) takes0 (t.glo 7) (u__law_numbers t).kp (b__law_numbers t) .nil cst_nil (da_cons (de_var 0) da_nil)))))
  (dss_cons (ds_unp (de_var 1) (dg_seq rfl (dgs_cons (dg_name (vs := [3, 4, 5]) sc__law_right.nd (by decide)) (dgs_cons (dg_name (vs := [3, 4, 5]) sc__law_right.nd (by decide)) (dgs_cons (dg_name (vs := [3, 4, 5]) sc__law_right.nd (by decide)) dgs_nil)))))
  (dss_cons (ds_par3 (i := 6) (j := 7) (l := 8) rfl sc__law_right.nd (da_cons (de_call (ok__law_made t) (hr.mono (by decide)) (takes_of rfl rfl rfl rfl) (t.glo 20) (u__law_made t).kp (b__law_made t) .nil cst_nil (da_cons (de_var 3) da_nil)) (da_cons (de_call (ok__law_made t) (hr.mono (by decide)) (takes_of rfl rfl rfl rfl) (t.glo 20) (u__law_made t).kp (b__law_made t) .nil cst_nil (da_cons (de_var 4) da_nil)) (da_cons (de_call (ok__law_made t) (hr.mono (by decide)) (takes_of rfl rfl rfl rfl) (t.glo 20) (u__law_made t).kp (b__law_made t) .nil cst_nil (da_cons (de_var 5) da_nil)) da_nil))))
  (dss_cons (ds_if ((dw_or (dt_not (dt_val (de_call (ok__law_is t) (hr.mono (by decide)) (takes_of rfl rfl rfl rfl) (t.glo 33) (u__law_is t).kp (b__law_is t) .nil cst_nil (da_cons (de_var 6) (da_cons (de_var 3) da_nil))))) (dw_or (dt_not (dt_val (de_call (ok__law_is t) (hr.mono (by decide)) (takes_of rfl rfl rfl rfl) (t.glo 33) (u__law_is t).kp (b__law_is t) .nil cst_nil (da_cons (de_var 7) (da_cons (de_var 4) da_nil))))) (dw_or1 (dt_not (dt_val (de_call (ok__law_sum_right t) (hr.mono (by decide)) (takes_of rfl rfl rfl rfl) (t.glo 46) (u__law_sum_right t).kp (b__law_sum_right t) .nil cst_nil (da_cons (de_var 6) (da_cons (de_var 7) (da_cons (de_var 3) (da_cons (de_var 4) da_nil))))))))))).pt (dss_one (ds_ret de_bl)) dss_nil)
  (dss_cons (ds_asg (i := 9) sc__law_right.nd (de_tup (da_cons (de_call (ok__law_number t) (hr.mono (by decide)) (takes_of rfl rfl rfl rfl) (t.glo 6) (u__law_number t).kp (b__law_number t) .nil cst_nil (da_cons (de_var 0) da_nil)) (da_cons (de_call (ok__law_number t) (hr.mono (by decide)) (takes_of rfl rfl rfl rfl) (t.glo 6) (u__law_number t).kp (b__law_number t) .nil cst_nil (da_cons (de_var 0) da_nil)) da_nil))))
  (dss_cons (ds_if ((dw_or (dt_cmp (od_dNe hr) (db_of (de_meth (pl := _) (de_var 6) rfl no_Form_at (t.cls 15) (t.meth 47) (ok_Form_at t) (hr.mono (by decide)) (takes_of rfl rfl rfl rfl) hb_Form_at_3 hd_Form_at_3 cst_nil (da_cons (de_ix (db_var 9) (db_of de_int)) (da_cons (de_ix (db_var 9) (db_of de_int)) da_nil)))) (db_of (de_call (ok__law_value t) (hr.mono (by decide)) (takes_of rfl rfl rfl rfl) (t.glo 48) (u__law_value t).kp (b__law_value t) .nil cst_nil (da_cons (de_var 3) (da_cons (de_var 9) da_nil))))) (dw_or1 (dt_cmp (od_dNe hr) (db_of (de_meth (pl := _) (de_var 6) rfl no_Form_at (t.cls 15) (t.meth 47) (ok_Form_at t) (hr.mono (by decide)) (takes_of rfl rfl rfl rfl) hb_Form_at_2 hd_Form_at_2 (cst_int cst_nil) (da_cons (de_ix (db_var 9) (db_of de_int)) da_nil))) (db_of (de_call (ok__law_value t) (hr.mono (by decide)) (takes_of rfl rfl rfl rfl) (t.glo 48) (u__law_value t).kp (b__law_value t) .nil cst_nil (da_cons (de_var 3) (da_cons (de_tup (da_cons (de_ix (db_var 9) (db_of de_int)) (da_cons de_int da_nil))) da_nil)))))))).pt (dss_one (ds_ret de_bl)) dss_nil)
  (dss_cons (ds_asg (i := 10) sc__law_right.nd (de_meth (pl := _) (de_var 6) rfl no_Form_put (t.cls 15) (t.meth 49) (ok_Form_put t) (hr.mono (by decide)) (takes_of rfl rfl rfl rfl) (b_Form_put t) .nil cst_nil (da_cons (de_var 7) (da_cons (de_var 8) da_nil))))
  (dss_cons (ds_asg (i := 11) sc__law_right.nd (de_tup (da_cons (de_call (ok__law_value t) (hr.mono (by decide)) (takes_of rfl rfl rfl rfl) (t.glo 48) (u__law_value t).kp (b__law_value t) .nil cst_nil (da_cons (de_var 4) (da_cons (de_var 9) da_nil))) (da_cons (de_call (ok__law_value t) (hr.mono (by decide)) (takes_of rfl rfl rfl rfl) (t.glo 48) (u__law_value t).kp (b__law_value t) .nil cst_nil (da_cons (de_var 5) (da_cons (de_var 9) da_nil))) da_nil))))
  (dss_cons (ds_if (dt_cmp (od_dNe hr) (db_of (de_meth (pl := _) (de_var 10) rfl no_Form_at (t.cls 15) (t.meth 47) (ok_Form_at t) (hr.mono (by decide)) (takes_of rfl rfl rfl rfl) hb_Form_at_3 hd_Form_at_3 cst_nil (da_cons (de_ix (db_var 9) (db_of de_int)) (da_cons (de_ix (db_var 9) (db_of de_int)) da_nil)))) (db_of (de_call (ok__law_value t) (hr.mono (by decide)) (takes_of rfl rfl rfl rfl) (t.glo 48) (u__law_value t).kp (b__law_value t) .nil cst_nil (da_cons (de_var 3) (da_cons (de_var 11) da_nil))))) (dss_one (ds_ret de_bl)) dss_nil)
  (dss_cons (ds_asg (i := 12) sc__law_right.nd (de_tup (da_cons (de_op od_addU (db_of (de_op od_iMul (db_of (de_ix (db_var 3) (db_of de_int))) (db_of (de_ix (db_var 4) (db_of de_int))))) (db_of (de_op od_iMul (db_of (de_ix (db_var 3) (db_of de_int))) (db_of (de_ix (db_var 5) (db_of de_int)))))) (da_cons (de_op od_addU (db_of (de_op od_iMul (db_of (de_ix (db_var 3) (db_of de_int))) (db_of (de_ix (db_var 4) (db_of de_int))))) (db_of (de_op od_iMul (db_of (de_ix (db_var 3) (db_of de_int))) (db_of (de_ix (db_var 5) (db_of de_int)))))) da_nil))))
  (dss_cons (ds_if ((dw_or (dt_not (dt_val (de_call (ok__law_is t) (hr.mono (by decide)) (takes_of rfl rfl rfl rfl) (t.glo 33) (u__law_is t).kp (b__law_is t) .nil cst_nil (da_cons (de_var 10) (da_cons (de_op od_addU (db_var 12) (db_of (de_tup (da_cons (de_call (ok__law_value t) (hr.mono (by decide)) (takes_of rfl rfl rfl rfl) (t.glo 48) (u__law_value t).kp (b__law_value t) .nil cst_nil (da_cons (de_var 3) (da_cons (de_tup (da_cons (de_ix (db_var 4) (db_of de_int)) (da_cons (de_ix (db_var 5) (db_of de_int)) da_nil))) da_nil))) da_nil)))) da_nil))))) (dw_or1 (dt_cmpV (ov_ne (hCs t) rfl rfl (t.cmpI 38) (t.ne 51).1 (t.ne 51).2 (t.meth 50).at_ (t.meth 50).fn (ok_Formzz_eqzz t) (hr.mono (by decide)) (b_Formzz_eqzz t) (takes_of rfl rfl rfl rfl)) (de_meth (pl := _) (de_var 6) rfl no_Form_put (t.cls 15) (t.meth 49) (ok_Form_put t) (hr.mono (by decide)) (takes_of rfl rfl rfl rfl) (b_Form_put t) .nil cst_nil (da_cons (de_make (t.mk_ 19) (ok_Formzz_initzz t) (hr.mono (by decide)) (takes_of rfl rfl rfl rfl) (t.glo 18) rfl hb_Formzz_initzz_2 hd_Formzz_initzz_2 (cst_int (cst_int cst_nil)) (da_cons de_int da_nil)) (da_cons (de_make (t.mk_ 19) (ok_Formzz_initzz t) (hr.mono (by decide)) (takes_of rfl rfl rfl rfl) (t.glo 18) rfl hb_Formzz_initzz_3 hd_Formzz_initzz_3 (cst_int cst_nil) (da_cons de_int (da_cons de_int da_nil))) da_nil))) (de_var 6))))).pt (dss_one (ds_ret de_bl)) dss_nil)
  (dss_cons (ds_if ((dw_or (dt_cmp (od_dNe hr) (db_of (de_cmpV (ov_eq (hCs t) rfl rfl (t.cmpI 38) (t.meth 50).at_ (t.meth 50).fn (ok_Formzz_eqzz t) (hr.mono (by decide)) (b_Formzz_eqzz t) (takes_of rfl rfl rfl rfl)) (de_var 6) (de_var 7))) (db_of (de_cmp (od_dEq hr) (db_var 3) (db_var 4)))) (dw_or (dt_cmp (od_dNe hr) (db_of (de_cmpV (ov_ne (hCs t) rfl rfl (t.cmpI 38) (t.ne 51).1 (t.ne 51).2 (t.meth 50).at_ (t.meth 50).fn (ok_Formzz_eqzz t) (hr.mono (by decide)) (b_Formzz_eqzz t) (takes_of rfl rfl rfl rfl)) (de_var 6) (de_var 8))) (db_of (de_cmp (od_dNe hr) (db_var 3) (db_var 5)))) (dw_or (dt_cmpV (ov_eq (hCs t) rfl rfl (t.cmpI 38) (t.meth 50).at_ (t.meth 50).fn (ok_Formzz_eqzz t) (hr.mono (by decide)) (b_Formzz_eqzz t) (takes_of rfl rfl rfl rfl)) (de_var 6) (de_var 3)) (dw_or1 (dt_cmpV (ov_eq (hCs t) rfl rfl (t.cmpI 38) (t.meth 50).at_ (t.meth 50).fn (ok_Formzz_eqzz t) (hr.mono (by decide)) (b_Formzz_eqzz t) (takes_of rfl rfl rfl rfl)) (de_var 6) (de_blt_ty (cd_strO rfl (t.meth 28).at_ (t.meth 28).fn (ok_Formzz_strzz t) (hr.mono (by decide)) (b_Formzz_strzz t) (takes_of rfl rfl rfl rfl)) (t.free 26) bo_str (dab_cons (db_var 6) dab_nil)))))))).pt (dss_one (ds_ret de_bl)) dss_nil)
  (dss_cons (ds_if ((dw_or (dt_cmpV (ov_ne (hCs t) rfl rfl (t.cmpI 38) (t.ne 51).1 (t.ne 51).2 (t.meth 50).at_ (t.meth 50).fn (ok_Formzz_eqzz t) (hr.mono (by decide)) (b_Formzz_eqzz t) (takes_of rfl rfl rfl rfl)) (de_make0 (t.mk_ 19) (ok_Formzz_initzz t) (hr.mono (by decide)) (takes_of rfl rfl rfl rfl) (t.glo 18) rfl hb_Formzz_initzz_1 hd_Formzz_initzz_1 (cst_int (cst_int (cst_int cst_nil)))) (de_make (t.mk_ 19) (ok_Formzz_initzz t) (hr.mono (by decide)) (takes_of rfl rfl rfl rfl) (t.glo 18) rfl hb_Formzz_initzz_4 hd_Formzz_initzz_4 cst_nil (da_cons de_int (da_cons de_int (da_cons de_int da_nil))))) (dw_or1 (dt_cmpV (ov_ne (hCs t) rfl rfl (t.cmpI 38) (t.ne 51).1 (t.ne 51).2 (t.meth 50).at_ (t.meth 50).fn (ok_Formzz_eqzz t) (hr.mono (by decide)) (b_Formzz_eqzz t) (takes_of rfl rfl rfl rfl)) (de_make (t.mk_ 19) (ok_Formzz_initzz t) (hr.mono (by decide)) (takes_of rfl rfl rfl rfl) (t.glo 18) rfl hb_Formzz_initzz_2 hd_Formzz_initzz_2 (cst_int (cst_int cst_nil)) (da_cons (de_ix (db_var 3) (db_of de_int)) da_nil)) (de_make (t.mk_ 19) (ok_Formzz_initzz t) (hr.mono (by decide)) (takes_of rfl rfl rfl rfl) (t.glo 18) rfl hb_Formzz_initzz_4 hd_Formzz_initzz_4 cst_nil (da_cons (de_ix (db_var 3) (db_of de_int)) (da_cons de_int (da_cons de_int da_nil)))))))).pt (dss_one (ds_ret de_bl)) dss_nil)
  (dss_cons (ds_if (dt_cmpV (ov_ne (hCs t) rfl rfl (t.cmpI 38) (t.ne 51).1 (t.ne 51).2 (t.meth 50).at_ (t.meth 50).fn (ok_Formzz_eqzz t) (hr.mono (by decide)) (b_Formzz_eqzz t) (takes_of rfl rfl rfl rfl)) (de_make (t.mk_ 19) (ok_Formzz_initzz t) (hr.mono (by decide)) (takes_of rfl rfl rfl rfl) (t.glo 18) rfl hb_Formzz_initzz_3 hd_Formzz_initzz_3 (cst_int cst_nil) (da_cons (de_ix (db_var 3) (db_of de_int)) (da_cons (de_ix (db_var 3) (db_of de_int)) da_nil))) (de_make (t.mk_ 19) (ok_Formzz_initzz t) (hr.mono (by decide)) (takes_of rfl rfl rfl rfl) (t.glo 18) rfl hb_Formzz_initzz_4 hd_Formzz_initzz_4 cst_nil (da_cons (de_ix (db_var 3) (db_of de_int)) (da_cons (de_ix (db_var 3) (db_of de_int)) (da_cons de_int da_nil))))) (dss_one (ds_ret de_bl)) dss_nil)
  (dss_one (ds_ret (de_and (de_call (ok__law_is t) (hr.mono (by decide)) (takes_of rfl rfl rfl rfl) (t.glo 33) (u__law_is t).kp (b__law_is t) .nil cst_nil (da_cons (de_var 6) (da_cons (de_var 3) da_nil))) (de_and (de_call (ok__law_is t) (hr.mono (by decide)) (takes_of rfl rfl rfl rfl) (t.glo 33) (u__law_is t).kp (b__law_is t) .nil cst_nil (da_cons (de_var 7) (da_cons (de_var 4) da_nil))) (de_one (de_call (ok__law_is t) (hr.mono (by decide)) (takes_of rfl rfl rfl rfl) (t.glo 33) (u__law_is t).kp (b__law_is t) .nil cst_nil (da_cons (de_var 8) (da_cons (de_var 5) da_nil))))))))))))))))))))))
end
end LW

set_option Elab.async false
set_option linter.all false
set_option maxRecDepth 100000
set_option maxHeartbeats 4000000
namespace LW
open PySem L2 DF
section
variable {P : Program} {w : World} {K : PySem.W.Frag} {mg : Str → Option Value} {base : Heap}
theorem sc__law_pot : FnScope ["_law_script", "_law_k", "_law_cell"] ["_law_script", "_law_k"] (defScope s__law_pot) := ⟨rfl, rfl, rfl, by decide +kernel, rfl, by decide +kernel, by decide +kernel⟩
theorem b__law_pot (t : TX K mg) : Binds K (fdAt K (He.ga K "_law_pot")) ["_law_script", "_law_k"] [] := FunD.bindsN (u__law_pot t) fun _ _ _ _ _ _ us hl => match us, hl with | [_, _], _ => rfl
theorem ok__law_pot (t : TX K mg) (fL : mg "len" = none) (fM : mg "max" = none) (fA : mg "abs" = none) (fI : mg "int" = none) : FnOk P w K mg base (L2.CX P w) 1 (He.ga K "_law_pot") (fdAt K (He.ga K "_law_pot")) ["_law_script", "_law_k"] (spPot K) := by
  refine (u__law_pot t).ok (k := 0) sc__law_pot (fun vs H Q E h => ?_) (fun cdv A outer s H vs Q E hr h => ?_)
  · obtain ⟨a, ns, k, rfl, _⟩ := h
    rfl
  · obtain ⟨a, ns, k, rfl, hS, h0, h1, q⟩ := h
    refine ⟨_, pss_cons (ps_set (i := 2) sc__law_pot.nd rfl (Or.inl rfl) (pe_ifExp (pt_cmpR op_lt (pv 1) (pe_callB call_len rfl fL bo_len (pa_cons (pv 0) pa_nil)) (nomark _)) (pe_ix ix_list (pv 0) (pv 1) (by intro _ _; rfl)) (pe_op op_mulW pe_int (pv 1))))
      (pss_one (ps_ret (pe_lst (pa_cons (pe_callB (call_max2 rfl) rfl fM bo_max (pa_cons pe_int (pa_cons (pe_op op_sub (pe_callB call_abs rfl fA bo_abs (pa_cons (pv 2) pa_nil)) (pe_op op_pow pe_int pe_int)) pa_nil)))
        (pa_cons (pe_op op_add (pe_op op_mod (pe_cty call_int1 fI bo_int (pa_cons (pe_op op_add (pe_op op_add (pe_op op_mulW (pe_op op_mod (pe_cty call_int1 fI bo_int (pa_cons (pe_callB call_abs rfl fA bo_abs (pa_cons (pv 2) pa_nil)) pa_nil)) pe_int) pe_int) (pe_op op_mulW pe_int (pv 1))) pe_int) pa_nil)) pe_int) pe_int) pa_nil))))), ?_⟩
    refine cell_read hS h0 h1 rfl rfl fun c => ?_
    have p1 : (0 : Int) ≤ absI c % 2147483563 := Int.emod_nonneg _ (by decide)
    have p2 : absI c % 2147483563 < 2147483563 := Int.emod_lt_of_pos _ (by decide)
    refine ⟨_, rfl, c, rfl, 10, 18, rfl, rfl, ⟨by decide, by decide, by decide⟩, _, _, rfl, rfl, 0, _, rfl, ?_⟩
    refine ⟨_, rfl, c, rfl, .inl ⟨_, rfl, _, _, rfl, rfl, (show (0 : Int) < 2147483563 by decide), _, _, rfl, rfl, small_mul p1 (by decide) (by omega) (by decide), _, rfl, _, _, rfl, rfl, small_mul (by decide) h0 (by decide) (by omega), _, _, rfl, rfl, _, _, rfl, rfl, .inl ⟨_, rfl, _, _, rfl, rfl, (show (0 : Int) < 2147483629 by decide), _, _, rfl, rfl, ?_⟩⟩⟩
    exact ⟨(show 2 ≤ sizeLine by decide), fun l hl => q _ (pot_ok c k h0 h1) l hl⟩
theorem sc_law : FnScope ["_law_script", "_law_k"] ["_law_script"] (defScope s_law) := ⟨rfl, rfl, rfl, by decide +kernel, rfl, by decide +kernel, by decide +kernel⟩
theorem ok_law (hm : AllPots m__law_right) (t : TX K mg) (fL : mg "len" = none) (fM : mg "max" = none) (fN : mg "min" = none) (fA : mg "abs" = none) (fI : mg "int" = none) (fR : mg "range" = none) (fE : mg "all" = none) (gP : mg "_law_pot" = some (.ref (He.ga K "_law_pot"))) (gR : mg "_law_right" = some (.ref (He.ga K "_law_right"))) :
    FnOk P w K mg base (L2.CX P w) 8 (He.ga K "law") (fdAt K (He.ga K "law")) ["_law_script"] (spLaw K) := by
  refine (u_law t).ok (k := 7) sc_law (fun vs H Q E h => ?_) (fun cdv A outer s H vs Q E hr h => ?_)
  · obtain ⟨a, ns, rfl, _⟩ := h
    rfl
  · obtain ⟨a, ns, rfl, hS, hlen, q⟩ := h
    refine ⟨_, pss_one (ps_ret (pe_callB (cr_all rfl) rfl fE bo_all (pa_cons (pe_lc (own := [(("_law_k" : Str), 1)]) rfl sc_law.nd
      (pi_range1 rfl fR (pa_cons (pe_callB (call_max2 rfl) rfl fM bo_max (pa_cons pe_int (pa_cons (pe_callB (call_min2 rfl) rfl fN bo_min (pa_cons (pe_callB call_len rfl fL bo_len (pa_cons (pv 0) pa_nil)) (pa_cons pe_int pa_nil))) pa_nil))) pa_nil)) (blkOk_by (by kernel_rfl))
      (fun s H C cl fp => pg_name (i := 1) sc_law.nd rfl (Or.inl rfl) (.inr rfl)) (fun s H C cl fp => pts_nil)
      (fun s H C cl fp => pe_callA (E := WE W0) (ok__law_right t) (hr.mono (by decide)) rfl gR (u__law_right t).kp (b__law_right t) .nil (passAt takes0) (pa_cons (pe_callA (E := WE W0) (ok__law_pot t fL fM fA fI) (hr.mono (by decide)) rfl gP (u__law_pot t).kp (b__law_pot t) .nil (passAt takes0) (pa_cons (pv 0) (pa_cons (pv 1) pa_nil))) pa_nil))) pa_nil))), ?_⟩
    have cap := cap_ok (m := if (4 : Int) < ((ns.map V.int).length : Int) then 4 else ((ns.map V.int).length : Int)) (by split <;> omega)
    refine ⟨_, rfl, _, _, rfl, .inl ⟨_, hS, rfl⟩, _, _, rfl, 1, _, rfl, _, rfl, cap.1, cap.2.1, ?_⟩
    exact law_lc (T := tbOf cls_ K) (Q := fun x H1 => rAll K [x] H1 Q) (σ := L2.start ["_law_script", "_law_k"] [.ref a]) hm cap.2.2 hS rfl fun D H' hd => ⟨D, _, rfl, .inl (.inl hd), by rw [all_reps]; exact q _⟩
end
end LW

set_option Elab.async false
set_option linter.all false
set_option maxRecDepth 100000
set_option maxHeartbeats 4000000
namespace LW
open PySem L2 DF
theorem draw1 {pt : Pot} {n : Int} (h : Pt pt) (h0 : 0 < n) (h1 : n < 1073741824) : ∃ z q, m__law_draw [.pot, .int n] pt = .ok (.int z) q ∧ 0 ≤ z ∧ z < n ∧ Pt q := by
  obtain ⟨a, b, c⟩ := h
  unfold m__law_draw g__law_draw
  rw [e_fnM]
  by_cases hp : 0 < pt.1
  · refine ⟨pt.1 % n, (pt.1 / n, pt.2), ?_, Int.emod_nonneg _ (by omega), Int.emod_lt_of_pos _ h0, Int.ediv_nonneg a (Int.le_of_lt h0), b, c⟩
    simp [ini, hp, dmF, h0, h1, potS2, two, isPot, setP]
  · have hq0 : 0 ≤ (pt.2 * 44203 + 15511) % 2147483587 := Int.emod_nonneg _ (by decide)
    have hq1 : (pt.2 * 44203 + 15511) % 2147483587 < 2147483587 := Int.emod_lt_of_pos _ (by decide)
    have b1 : Bd 32 pt.2 := by unfold Bd; omega
    have b2 : Bd 16 44203 := by unfold Bd; decide
    have b3 : Bd 32 ((pt.2 * 44203 + 15511) % 2147483587) := by unfold Bd; omega
    have k1 := b1.ok b2 (by decide) (by decide) (by decide)
    have k2 := b3.ok b3 (by decide) (by decide) (by decide)
    refine ⟨((pt.2 * 44203 + 15511) % 2147483587 * ((pt.2 * 44203 + 15511) % 2147483587) % 2147483549 / 11) % n, (pt.1, (pt.2 * 44203 + 15511) % 2147483587), ?_, Int.emod_nonneg _ (by omega), Int.emod_lt_of_pos _ h0, a, hq0, by show _ < (4294967296 : Int); omega⟩
    generalize hq : (pt.2 * 44203 + 15511) % 2147483587 = q at *
    simp [ini, hp, potS, isPot, setP, intOf, intF, k1, k2, h0, hq]
theorem pick2 {pt : Pot} (h : Pt pt) : ∃ z q, m__law_pick [.pot, .lst [.int (-1), .int 1]] pt = .ok (.int z) q ∧ (z = -1 ∨ z = 1) ∧ Pt q := by
  obtain ⟨z, q, e, z0, z1, hq⟩ := draw1 (n := 2) h (by decide) (by decide)
  have hz : z = 0 ∨ z = 1 := by omega
  unfold m__law_pick g__law_pick
  rw [e_fnM]
  rcases hz with rfl | rfl
  · exact ⟨-1, q, by simp [ini, lenF, e], .inl rfl, hq⟩
  · exact ⟨1, q, by simp [ini, lenF, e], .inr rfl, hq⟩
theorem number1 {pt : Pot} (h : Pt pt) : ∃ z q, m__law_number [.pot] pt = .ok (.int z) q ∧ Bd 90 z ∧ Pt q := by
  obtain ⟨a, p1, e1, a0, a1, h1⟩ := draw1 (n := 7) h (by decide) (by decide)
  obtain ⟨b, p2, e2, b0, b1, h2⟩ := draw1 (n := 5) h1 (by decide) (by decide)
  obtain ⟨s, p3, e3, hs, h3⟩ := pick2 h2
  obtain ⟨d, p4, e4, d0, d1, h4⟩ := draw1 (n := 1000) h3 (by decide) (by decide)
  unfold m__law_number g__law_number
  rw [e_fnM]
  by_cases hb : b = 0
  · have bs : Bd 1 s := by unfold Bd; rcases hs with rfl | rfl <;> decide
    have bd : Bd 89 (10000000000000000000000000 + d) := by unfold Bd; omega
    have k := bs.ok bd (by decide) (by decide) (by decide)
    refine ⟨s * (10000000000000000000000000 + d), p4, ?_, (bs.mul bd).mono (by decide), h4⟩
    simp [ini, e1, e2, e3, e4, hb, k]
  · refine ⟨a - 3, p2, ?_, by unfold Bd; omega, h2⟩
    simp [ini, e1, e2, hb]
theorem numbers1 {pt : Pot} (h : Pt pt) : ∃ x y z q, m__law_numbers [.pot] pt = .ok (.tup [.int x, .int y, .int z]) q ∧ Bd 90 x ∧ Bd 90 y ∧ Bd 90 z ∧ Pt q := by
  obtain ⟨x, p1, e1, b1, h1⟩ := number1 h
  obtain ⟨y, p2, e2, b2, h2⟩ := number1 h1
  obtain ⟨z, p3, e3, b3, h3⟩ := number1 h2
  refine ⟨x, y, z, p3, ?_, b1, b2, b3, h3⟩
  unfold m__law_numbers g__law_numbers
  rw [e_fnM]
  simp [ini, e1, e2, e3]
/-! ### the forms -/
abbrev F3 (x y z : Int) : D := .obj 0 [.int x, .int y, .int z]
abbrev T3 (x y z : Int) : D := .tup [.int x, .int y, .int z]
section
variable {pt : Pot} {x y z a b c : Int}
@[simp] theorem q_t3 : dEq (T3 x y z) (T3 a b c) = some (.bl (decide (x = a) && (decide (y = b) && (decide (z = c) && true)))) := rfl
@[simp] theorem q_nt3 : dNe (T3 x y z) (T3 a b c) = some (.bl (!(decide (x = a) && (decide (y = b) && (decide (z = c) && true))))) := rfl
@[simp] theorem q_l3 : dNe (.lst [.int x, .int y, .int z]) (.lst [.int a, .int b, .int c]) = some (.bl (!(decide (x = a) && (decide (y = b) && (decide (z = c) && true))))) := rfl
@[simp] theorem q_t2 : dEq (.tup [.int x, .int y]) (.tup [.int a, .int b]) = some (.bl (decide (x = a) && (decide (y = b) && true))) := rfl
@[simp] theorem q_w1 (u : Str) (hu : PyData.strOk u = true) : dEq (.lst [.str u]) (.lst []) = some (.bl false) := by
  simp [dEq, eqP, toPy, toPyL, SeqAt.shaped, PyData.canLay0, PyData.canLayAll0, hu, PyData.eqv, PyData.eqvAll]
  exact ⟨Nat.le_of_ble_eq_true rfl, Nat.le_of_ble_eq_true rfl⟩
@[simp] theorem q_w3 (u v w : Str) (hu : PyData.strOk u = true) (hv : PyData.strOk v = true) (hw : PyData.strOk w = true) : dEq (.lst [.str u, .str v, .str w]) (.lst []) = some (.bl false) := by
  simp [dEq, eqP, toPy, toPyL, SeqAt.shaped, PyData.canLay0, PyData.canLayAll0, hu, hv, hw, PyData.eqv, PyData.eqvAll]
  exact ⟨Nat.le_of_ble_eq_true rfl, Nat.le_of_ble_eq_true rfl⟩
@[simp] theorem q_w5 (u v w r s : Str) (hu : PyData.strOk u = true) (hv : PyData.strOk v = true) (hw : PyData.strOk w = true) (hr : PyData.strOk r = true) (hs : PyData.strOk s = true) : dEq (.lst [.str u, .str v, .str w, .str r, .str s]) (.lst []) = some (.bl false) := by
  simp [dEq, eqP, toPy, toPyL, SeqAt.shaped, PyData.canLay0, PyData.canLayAll0, hu, hv, hw, hr, hs, PyData.eqv, PyData.eqvAll]
  exact ⟨Nat.le_of_ble_eq_true rfl, Nat.le_of_ble_eq_true rfl⟩
@[simp] theorem q_w2 (u v : Str) (hu : PyData.strOk u = true) (hv : PyData.strOk v = true) : dEq (.lst [.str u, .str v]) (.lst []) = some (.bl false) := by
  simp [dEq, eqP, toPy, toPyL, SeqAt.shaped, PyData.canLay0, PyData.canLayAll0, hu, hv, PyData.eqv, PyData.eqvAll]
  exact ⟨Nat.le_of_ble_eq_true rfl, Nat.le_of_ble_eq_true rfl⟩
@[simp] theorem q_w4 (u v w r : Str) (hu : PyData.strOk u = true) (hv : PyData.strOk v = true) (hw : PyData.strOk w = true) (hr : PyData.strOk r = true) : dEq (.lst [.str u, .str v, .str w, .str r]) (.lst []) = some (.bl false) := by
  simp [dEq, eqP, toPy, toPyL, SeqAt.shaped, PyData.canLay0, PyData.canLayAll0, hu, hv, hw, hr, PyData.eqv, PyData.eqvAll]
  exact ⟨Nat.le_of_ble_eq_true rfl, Nat.le_of_ble_eq_true rfl⟩
@[simp] theorem q_l0 : dEq (.lst []) (.lst []) = some (.bl true) := rfl
@[simp] theorem v_isint (i : Int) : m_is_integer [.int i] pt = .ok (.bl true) pt := by
  unfold m_is_integer g_is_integer
  rw [e_fnM]
  simp [ini]
@[simp] theorem v_init : m_Formzz_initzz [.int x, .int y, .int z] pt = .ok [.int x, .int y, .int z] pt := by
  unfold m_Formzz_initzz g_Formzz_initzz
  rw [e_iniM]
  simp [ini, g_Formzz_initzz_b1]
@[simp] theorem v_x : m_Form_x [F3 x y z] pt = .ok (.int x) pt := by
  unfold m_Form_x g_Form_x
  rw [e_fnM]
  simp [ini]
@[simp] theorem v_y : m_Form_y [F3 x y z] pt = .ok (.int y) pt := by
  unfold m_Form_y g_Form_y
  rw [e_fnM]
  simp [ini]
@[simp] theorem v_c : m_Form_constant [F3 x y z] pt = .ok (.int z) pt := by
  unfold m_Form_constant g_Form_constant
  rw [e_fnM]
  simp [ini]
@[simp] theorem v_num : m_Form_is_number [F3 x y z] pt = .ok (.bl (decide (x = 0) && decide (y = 0))) pt := by
  unfold m_Form_is_number g_Form_is_number
  rw [e_fnM]
  by_cases h : x = 0 <;> simp [ini, h]
@[simp] theorem v_made : m__law_made [T3 x y z] pt = .ok (F3 x y z) pt := by
  unfold m__law_made g__law_made
  rw [e_fnM]
  simp [ini]
@[simp] theorem v_of : m_form_of [F3 x y z] pt = .ok (F3 x y z) pt := by
  unfold m_form_of g_form_of
  rw [e_fnM]
  simp [ini]
@[simp] theorem v_ofI (i : Int) : m_form_of [.int i] pt = .ok (F3 0 0 i) pt := by
  unfold m_form_of g_form_of
  rw [e_fnM]
  simp [ini]
@[simp] theorem v_add : m_Formzz_addzz [F3 x y z, F3 a b c] pt = .ok (F3 (x + a) (y + b) (z + c)) pt := by
  unfold m_Formzz_addzz g_Formzz_addzz
  rw [e_fnM]
  simp [ini]
@[simp] theorem v_addI (i : Int) : m_Formzz_addzz [F3 x y z, .int i] pt = .ok (F3 x y (z + i)) pt := by
  unfold m_Formzz_addzz g_Formzz_addzz
  rw [e_fnM]
  simp [ini]
@[simp] theorem v_sub : m_Formzz_subzz [F3 x y z, F3 a b c] pt = .ok (F3 (x - a) (y - b) (z - c)) pt := by
  unfold m_Formzz_subzz g_Formzz_subzz
  rw [e_fnM]
  simp [ini]
@[simp] theorem v_subI (i : Int) : m_Formzz_subzz [F3 x y z, .int i] pt = .ok (F3 x y (z - i)) pt := by
  unfold m_Formzz_subzz g_Formzz_subzz
  rw [e_fnM]
  simp [ini]
@[simp] theorem v_neg : m_Formzz_negzz [F3 x y z] pt = .ok (F3 (-x) (-y) (-z)) pt := by
  unfold m_Formzz_negzz g_Formzz_negzz
  rw [e_fnM]
  simp [ini]
@[simp] theorem v_mul (i : Int) (h1 : MulOk x i) (h2 : MulOk y i) (h3 : MulOk z i) : m_Formzz_mulzz [F3 x y z, .int i] pt = .ok (F3 (x * i) (y * i) (z * i)) pt := by
  unfold m_Formzz_mulzz g_Formzz_mulzz
  rw [e_fnM]
  simp [ini, h1, h2, h3]
@[simp] theorem v_eq : m_Formzz_eqzz [F3 x y z, F3 a b c] pt = .ok (.bl (decide (x = a) && (decide (y = b) && decide (z = c)))) pt := by
  unfold m_Formzz_eqzz g_Formzz_eqzz
  rw [e_fnM]
  simp [ini]
@[simp] theorem v_at (h1 : MulOk x a) (h2 : MulOk y b) : m_Form_at [F3 x y z, .int a, .int b] pt = .ok (.int (x * a + y * b + z)) pt := by
  unfold m_Form_at g_Form_at
  rw [e_fnM]
  simp [ini, h1, h2, g_Form_at_b1]
@[simp] theorem v_value (h1 : MulOk x a) (h2 : MulOk y b) : m__law_value [T3 x y z, .tup [.int a, .int b]] pt = .ok (.int (x * a + y * b + z)) pt := by
  unfold m__law_value g__law_value
  rw [e_fnM]
  simp [ini, h1, h2]
@[simp] theorem v_eqT (ds : List D) : m_Formzz_eqzz [F3 x y z, .tup ds] pt = .ok (.bl false) pt := by
  unfold m_Formzz_eqzz g_Formzz_eqzz
  rw [e_fnM]
  simp [ini]
@[simp] theorem v_eqS (s : Str) : m_Formzz_eqzz [F3 x y z, .str s] pt = .ok (.bl false) pt := by
  unfold m_Formzz_eqzz g_Formzz_eqzz
  rw [e_fnM]
  simp [ini]
@[simp] theorem v_put {x1 y1 z1 x2 y2 z2 : Int} (h1 : MulOk x1 x) (h2 : MulOk y1 x) (h3 : MulOk z1 x) (h4 : MulOk x2 y) (h5 : MulOk y2 y) (h6 : MulOk z2 y) : m_Form_put [F3 x y z, F3 x1 y1 z1, F3 x2 y2 z2] pt = .ok (F3 (x1 * x + x2 * y) (y1 * x + y2 * y) (z1 * x + z2 * y + z)) pt := by
  unfold m_Form_put g_Form_put
  rw [e_fnM]
  simp [ini, h1, h2, h3, h4, h5, h6, g_Form_put_b1]
/-! ### texts -/
def term (f : Int) (n : Str) : Str := if n = "" ∨ ¬ absI f = 1 then tx f ++ n else if f = 1 then n else "-" ++ n
@[simp] theorem v_abs (i : Int) : absF [.int i] = some (.int (absI i)) := rfl
theorem v_term (f : Int) (n : Str) (h : Log f) (hn : n.length ≤ 10) : m_written_term [.int f, .str n] pt = .ok (.str (term f n)) pt := by
  have l := tx_len h
  have l2 : (tx f).length + n.length ≤ 1000000 := by omega
  have l3 : ("-" : Str).length + n.length ≤ 1000000 := by
    have : ("-" : Str).length = 1 := by decide
    omega
  unfold m_written_term g_written_term term
  rw [e_fnM]
  by_cases h1 : n = ""
  · subst h1
    simp [ini, h, l2]
  · by_cases h2 : absI f = 1
    · by_cases h3 : f = 1
      · subst h3
        simp [ini, h1, show absI 1 = 1 from rfl]
      · simp [ini, h, h1, h2, h3, l3]
    · simp [ini, h, h1, h2, l2]
theorem absI_log (f : Int) (h : Log f) : Log (absI f) := by
  unfold absI Log at *
  split
  · rw [Int.natAbs_neg]
    exact h
  · exact h
def joint (f : Int) : Str := if f < 0 then " - " else " + "
def joint0 (f : Int) : Str := if f < 0 then "-" else ""
def size (f : Int) (n : Str) : Str := if absI f = 1 ∧ ¬ n = "" then "" else tx (absI f)
theorem len1 : ("-" : Str).length = 1 := by decide
theorem len0 : ("" : Str).length = 0 := by decide
theorem len3 : (" - " : Str).length = 3 := by decide
theorem len3' : (" + " : Str).length = 3 := by decide
theorem joint_len (f : Int) : (joint f).length = 3 := by unfold joint; split <;> decide
theorem joint0_len (f : Int) : (joint0 f).length ≤ 1 := by unfold joint0; split <;> decide
theorem size_len (f : Int) (n : Str) (h : Log f) : (size f n).length ≤ 1921 := by
  unfold size
  split
  · decide
  · exact tx_len (absI_log f h)
def stepT (found : Str) (f : Int) (n : Str) : Str := if f = 0 then found else found ++ (if found = "" then joint0 f else joint f) ++ size f n ++ n
theorem text_body (s0 : Option SV) (found n : Str) (f : Int) (v4 v5 : Option SV) (h : Log f) (hn : n.length ≤ 10) (hf : found.length ≤ 10000) :
    ∃ w4 w5, g__law_text_b1 [s0, some (.val (.str found)), some (.val (.int f)), some (.val (.str n)), v4, v5] pt = .ok (.nx [s0, some (.val (.str (stepT found f n))), some (.val (.int f)), some (.val (.str n)), w4, w5]) pt := by
  have hz := size_len f n h
  have hl := absI_log f h
  have j1 := joint_len f
  have j0 := joint0_len f
  have c1 : (size f n) = size f n := rfl
  refine ⟨some (.val (.str (size f n))), if f = 0 then v5 else some (.val (.str (if found = "" then joint0 f else joint f))), ?_⟩
  have e4 : ∀ ρ : Slots, ρ = [s0, some (.val (.str found)), some (.val (.int f)), some (.val (.str n)), v4, v5] → (ifE (andT (testE (binE (pu dEq) (bltE (pu1 absF) (consA (bvarE 2) nilA)) (cE (.int 1)))) (testE (binE (pu dNe) (bvarE 3) (cE (.str ""))))) (cE (.str "")) (bltE (pu1 strF) (consA (bltE (pu1 absF) (consA (bvarE 2) nilA)) nilA))) ρ pt = .ok (.str (size f n)) pt := by
    rintro ρ rfl
    unfold size
    by_cases h1 : absI f = 1
    · by_cases h2 : n = ""
      · simp [h1, h2, show Log 1 from by unfold Log; decide]
      · simp [h1, h2]
    · simp [h1, hl]
  unfold g__law_text_b1
  rw [e_seqS, e_asgS, e4 _ rfl]
  unfold stepT
  generalize size f n = sz at *
  by_cases h0 : f = 0
  · simp [h0]
  · have jl : (if found = "" then joint0 f else joint f).length ≤ 3 := by split <;> omega
    have l1 : found.length + (if found = "" then joint0 f else joint f).length ≤ 1000000 := by omega
    have l2 : (found ++ (if found = "" then joint0 f else joint f)).length + sz.length ≤ 1000000 := by rw [Str.length_append]; omega
    have l3 : (found ++ (if found = "" then joint0 f else joint f) ++ sz).length + n.length ≤ 1000000 := by rw [Str.length_append, Str.length_append]; omega
    by_cases h1 : f < 0
    · by_cases h2 : found = ""
      · simp only [h2, if_true] at l1 l2 l3
        simp [h0, h1, h2, joint0] at l1 l2 l3 ⊢
        simp [l1, l2, l3]
      · simp only [h2, if_false] at l1 l2 l3
        simp [h0, h1, h2, joint] at l1 l2 l3 ⊢
        simp [l1, l2, l3]
    · by_cases h2 : found = ""
      · simp only [h2, if_true] at l1 l2 l3
        simp [h0, h1, h2, joint0] at l1 l2 l3 ⊢
        simp [l1, l2, l3]
      · simp only [h2, if_false] at l1 l2 l3
        simp [h0, h1, h2, joint] at l1 l2 l3 ⊢
        simp [l1, l2, l3]
theorem stepT_len (found : Str) (f : Int) (n : Str) (h : Log f) (hn : n.length ≤ 10) : (stepT found f n).length ≤ found.length + 2000 := by
  have hz := size_len f n h
  have j1 := joint_len f
  have j0 := joint0_len f
  unfold stepT
  split
  · omega
  · rw [Str.length_append, Str.length_append, Str.length_append]
    split <;> omega
def txt (x y z : Int) : Str := if stepT (stepT (stepT "" x "x") y "y") z "" = "" then "0" else stepT (stepT (stepT "" x "x") y "y") z ""
theorem v_text (hx : Log x) (hy : Log y) (hz : Log z) : m__law_text [T3 x y z] pt = .ok (.str (txt x y z)) pt := by
  have ex : ("x" : Str).length ≤ 10 := by decide
  have ey : ("y" : Str).length ≤ 10 := by decide
  have e0 : ("" : Str).length ≤ 10 := by decide
  have e00 : ("" : Str).length = 0 := by decide
  have l1 := stepT_len "" x "x" hx ex
  have l2 := stepT_len (stepT "" x "x") y "y" hy ey
  obtain ⟨a4, a5, h1⟩ := text_body (pt := pt) (some (.val (T3 x y z))) "" "x" x none none hx ex (by omega)
  obtain ⟨b4, b5, h2⟩ := text_body (pt := pt) (some (.val (T3 x y z))) (stepT "" x "x") "y" y a4 a5 hy ey (by omega)
  obtain ⟨c4, c5, h3⟩ := text_body (pt := pt) (some (.val (T3 x y z))) (stepT (stepT "" x "x") y "y") "" z b4 b5 hz e0 (by omega)
  unfold m__law_text g__law_text txt
  rw [e_fnM]
  generalize stepT (stepT (stepT "" x "x") y "y") z "" = R at *
  by_cases hR : R = "" <;> simp [ini, h1, h2, h3, hR]
/-! ### __str__ -/
def sg (f : Int) : Str := if f < 0 then "-" else "+"
def stepW (ws : List Str) (f : Int) (n : Str) : List Str := if f = 0 then ws else if ws = [] then [term f n] else ws ++ [sg f, term (absI f) n]
theorem str_body (s0 : Option SV) (ws : List Str) (n : Str) (f : Int) (v2 v3 : Option SV) (h : Log f) (hn : n.length ≤ 10) (hw : ws.length ≤ 10) (hq : dEq (.lst (ws.map .str)) (.lst []) = some (.bl (decide (ws = [])))) :
    g_Formzz_strzz_b1 [s0, some (.own (ws.map .str)), some (.val (.int f)), some (.val (.str n))] pt = .ok (.nx [s0, some (.own ((stepW ws f n).map .str)), some (.val (.int f)), some (.val (.str n))]) pt := by
  have hl := absI_log f h
  have t1 := v_term (pt := pt) f n h hn
  have t2 := v_term (pt := pt) (absI f) n hl hn
  unfold g_Formzz_strzz_b1 stepW
  by_cases h0 : f = 0
  · simp [h0]
  · by_cases h1 : ws = []
    · subst h1
      simp [h0, t1]
    · have hw2 : ws.length + 2 ≤ 100000 := by omega
      have hq2 : dEq (.lst (ws.map .str)) (.lst []) = some (.bl false) := by rw [hq]; simp [h1]
      unfold sg
      by_cases h2 : f < 0
      · simp [h0, h1, h2, hq2, t2, hw2]
      · simp [h0, h1, h2, hq2, t2, hw2]
theorem wq : ∀ (ws : List Str), (∀ u ∈ ws, PyData.strOk u = true) → ws.length ≤ 5 → dEq (.lst (ws.map .str)) (.lst []) = some (.bl (decide (ws = [])))
  | [], _, _ => rfl
  | [u], h, _ => by simpa using q_w1 u (h u (by simp))
  | [u, v], h, _ => by simpa using q_w2 u v (h u (by simp)) (h v (by simp))
  | [u, v, w], h, _ => by simpa using q_w3 u v w (h u (by simp)) (h v (by simp)) (h w (by simp))
  | [u, v, w, r], h, _ => by simpa using q_w4 u v w r (h u (by simp)) (h v (by simp)) (h w (by simp)) (h r (by simp))
  | [u, v, w, r, s], h, _ => by simpa using q_w5 u v w r s (h u (by simp)) (h v (by simp)) (h w (by simp)) (h r (by simp)) (h s (by simp))
  | _ :: _ :: _ :: _ :: _ :: _ :: _, _, h => by simp at h
theorem sok_term (f : Int) (n : Str) (hn : PyData.strOk n = true) : PyData.strOk (term f n) = true := by
  unfold term
  split
  · exact sok_app (sok_ofs _) hn
  · split
    · exact hn
    · exact sok_app (sok_ofs _) hn
theorem sok_sg (f : Int) : PyData.strOk (sg f) = true := by unfold sg; split <;> exact sok_ofs _
theorem stepW_ok (ws : List Str) (f : Int) (n : Str) (hn : PyData.strOk n = true) (h : ∀ u ∈ ws, PyData.strOk u = true) : ∀ u ∈ stepW ws f n, PyData.strOk u = true := by
  unfold stepW
  split
  · exact h
  · split
    · intro u hu
      rw [List.mem_singleton.mp hu]
      exact sok_term f n hn
    · intro u hu
      rcases List.mem_append.mp hu with hu | hu
      · exact h u hu
      · simp at hu
        rcases hu with rfl | rfl
        · exact sok_sg f
        · exact sok_term _ n hn
theorem stepW_len (ws : List Str) (f : Int) (n : Str) : (stepW ws f n).length ≤ ws.length + 2 ∧ (ws = [] → (stepW ws f n).length ≤ 1) := by
  unfold stepW
  split
  · exact ⟨by omega, fun e => by rw [e]; exact Nat.zero_le _⟩
  · split
    · rename_i h
      exact ⟨by rw [h]; exact Nat.le_succ 1, fun _ => Nat.le_refl _⟩
    · rename_i h
      exact ⟨by rw [List.length_append]; exact Nat.le_refl _, fun e => absurd e h⟩
abbrev W3 (x y z : Int) : List Str := stepW (stepW (stepW [] x "x") y "y") z ""
theorem W3_ok (x y z : Int) : (∀ u ∈ W3 x y z, PyData.strOk u = true) ∧ (W3 x y z).length ≤ 5 := by
  have o1 := stepW_ok [] x "x" (sok_ofs _) (by simp)
  have o2 := stepW_ok _ y "y" (sok_ofs _) o1
  have o3 := stepW_ok _ z "" (sok_ofs _) o2
  have l1 := (stepW_len [] x "x").2 rfl
  have l2 := (stepW_len (stepW [] x "x") y "y").1
  have l3 := (stepW_len (stepW (stepW [] x "x") y "y") z "").1
  exact ⟨o3, by show (stepW (stepW (stepW [] x "x") y "y") z "").length ≤ 5; omega⟩
theorem strsOf_map : ∀ ws : List Str, strsOf (ws.map .str) = some ws
  | [] => rfl
  | w :: ws => by simp [strsOf, strsOf_map ws]
def sTxt (x y z : Int) : Str := if W3 x y z = [] then "0" else Txt.join " " (W3 x y z)
theorem v_strF (hx : Log x) (hy : Log y) (hz : Log z) (hj : ((W3 x y z).map (·.length)).sum + (W3 x y z).length * (" " : Str).length ≤ 1000000) : m_Formzz_strzz [F3 x y z] pt = .ok (.str (sTxt x y z)) pt := by
  have ex : ("x" : Str).length ≤ 10 := by decide
  have ey : ("y" : Str).length ≤ 10 := by decide
  have e0 : ("" : Str).length ≤ 10 := by decide
  have o1 := stepW_ok [] x "x" (sok_ofs _) (by simp)
  have o2 := stepW_ok _ y "y" (sok_ofs _) o1
  have l1 := (stepW_len [] x "x").2 rfl
  have l2 := (stepW_len (stepW [] x "x") y "y").1
  obtain ⟨o3, l3⟩ := W3_ok x y z
  have h1 := str_body (pt := pt) (some (.val (F3 x y z))) [] "x" x none none hx ex (by simp) rfl
  have h2 := str_body (pt := pt) (some (.val (F3 x y z))) (stepW [] x "x") "y" y none none hy ey (by omega) (wq _ o1 (by omega))
  have h3 := str_body (pt := pt) (some (.val (F3 x y z))) (stepW (stepW [] x "x") y "y") "" z none none hz e0 (by omega) (wq _ o2 (by omega))
  have hq := wq _ o3 l3
  have hs := strsOf_map (W3 x y z)
  unfold m_Formzz_strzz g_Formzz_strzz sTxt
  rw [e_fnM]
  simp only [List.map_nil] at h1
  simp only [W3] at *
  by_cases hU : stepW (stepW (stepW [] x "x") y "y") z "" = []
  · simp [ini, h1, h2, h3, hU]
  · simp [ini, h1, h2, h3, hq, hU, joinF, seqOf, hs, hj]
/-! ### both texts are the same -/
theorem emp : ("" : Str) = Str.empty := by decide
theorem ne_len {n : Str} (h : ¬ n = "") : 0 < n.length := by
  apply Nat.pos_of_ne_zero
  intro e
  apply h
  rw [emp]
  apply Str.ext'
  exact Array.eq_empty_of_size_eq_zero e
theorem term_pos (f : Int) (n : Str) : 0 < (term f n).length := by
  unfold term
  split
  · rw [Str.length_append]
    have := tx_pos f
    omega
  · rename_i h
    have hn : ¬ n = "" := fun e => h (.inl e)
    have := ne_len hn
    split
    · exact this
    · rw [Str.length_append]
      omega
theorem first_eq (f : Int) (n : Str) (h0 : ¬ f = 0) : ("" : Str) ++ joint0 f ++ size f n ++ n = term f n := by
  rw [emp, Str.empty_append]
  unfold joint0 size term
  by_cases h1 : absI f = 1
  · by_cases h2 : n = ""
    · subst h2
      simp only [h1, not_true_eq_false, and_false, if_false, true_or, if_true]
      by_cases h3 : f < 0
      · have e : f = -1 := by unfold absI at h1; rw [if_pos h3] at h1; omega
        subst e
        decide
      · have e : f = 1 := by unfold absI at h1; rw [if_neg h3] at h1; omega
        subst e
        decide
    · simp only [h1, h2, not_false_eq_true, and_self, if_true, not_true_eq_false, or_self, if_false]
      by_cases h3 : f < 0
      · have e : ¬ f = 1 := by omega
        rw [if_pos h3, if_neg e, emp, Str.append_empty]
      · have e : f = 1 := by unfold absI at h1; rw [if_neg h3] at h1; omega
        rw [if_neg h3, if_pos e, emp, Str.empty_append, Str.empty_append]
  · simp only [h1, false_and, if_false, not_false_eq_true, or_true, if_true]
    by_cases h3 : f < 0
    · rw [if_pos h3]
      have e : absI f = -f := by unfold absI; rw [if_pos h3]
      rw [e]
      have := tx_neg (i := -f) (by omega)
      rw [Int.neg_neg] at this
      rw [this]
    · rw [if_neg h3]
      have e : absI f = f := by unfold absI; rw [if_neg h3]
      rw [e, emp, Str.empty_append]
theorem absabs (f : Int) : absI (absI f) = absI f := by
  have := absI_nn f
  unfold absI at *
  split <;> omega
theorem next_eq (f : Int) (n : Str) : size f n ++ n = term (absI f) n := by
  unfold size term
  rw [absabs]
  by_cases h1 : absI f = 1
  · by_cases h2 : n = ""
    · simp [h1, h2]
    · simp only [h1, h2, not_false_eq_true, and_self, if_true, not_true_eq_false, or_self, if_false]
      rw [emp, Str.empty_append]
  · simp [h1]
theorem joint_eq (f : Int) : joint f = (" " : Str) ++ sg f ++ " " := by
  unfold joint sg
  split <;> decide
theorem join_two (sep a b : Str) : ∀ ws : List Str, ws ≠ [] → Str.join sep (ws ++ [a, b]) = Str.join sep ws ++ sep ++ a ++ sep ++ b
  | [], h => absurd rfl h
  | [w], _ => by
    show w ++ sep ++ (a ++ sep ++ b) = w ++ sep ++ a ++ sep ++ b
    simp only [Str.append_assoc]
  | w :: v :: ws, _ => by
    have ih := join_two sep a b (v :: ws) (by simp)
    show w ++ sep ++ Str.join sep (v :: ws ++ [a, b]) = w ++ sep ++ Str.join sep (v :: ws) ++ sep ++ a ++ sep ++ b
    rw [ih]
    simp only [Str.append_assoc]
def Same2 (found : Str) (ws : List Str) : Prop := (ws = [] ∧ found = "") ∨ (ws ≠ [] ∧ found = Str.join " " ws ∧ 0 < found.length)
theorem same_step {found : Str} {ws : List Str} (f : Int) (n : Str) (h : Same2 found ws) : Same2 (stepT found f n) (stepW ws f n) := by
  unfold stepT stepW
  by_cases h0 : f = 0
  · rw [if_pos h0, if_pos h0]
    exact h
  · rw [if_neg h0, if_neg h0]
    rcases h with ⟨rfl, rfl⟩ | ⟨h1, h2, h3⟩
    · rw [if_pos rfl, if_pos rfl, first_eq f n h0]
      exact .inr ⟨by simp, rfl, term_pos f n⟩
    · have hf : ¬ found = "" := fun e => by rw [e] at h3; exact absurd h3 (by decide)
      rw [if_neg hf, if_neg h1]
      refine .inr ⟨by simp, ?_, by rw [Str.length_append, Str.length_append, Str.length_append]; omega⟩
      rw [join_two _ _ _ ws h1, ← h2, Str.append_assoc, next_eq, joint_eq]
      simp only [Str.append_assoc]
theorem same3 (x y z : Int) : Same2 (stepT (stepT (stepT "" x "x") y "y") z "") (W3 x y z) := same_step z "" (same_step y "y" (same_step x "x" (.inl ⟨rfl, rfl⟩)))
theorem txt_eq (x y z : Int) : sTxt x y z = txt x y z := by
  unfold sTxt txt
  rcases same3 x y z with ⟨h1, h2⟩ | ⟨h1, h2, h3⟩
  · rw [if_pos h1, if_pos h2]
  · have hf : ¬ stepT (stepT (stepT "" x "x") y "y") z "" = "" := fun e => by rw [e] at h3; exact absurd h3 (by decide)
    rw [if_neg h1, if_neg hf, h2]
    exact TL.join_eq _ _
theorem term_len (f : Int) (n : Str) (h : Log f) (hn : n.length ≤ 10) : (term f n).length ≤ 2000 := by
  have := tx_len h
  unfold term
  split
  · rw [Str.length_append]; omega
  · split
    · omega
    · rw [Str.length_append]
      have := len1
      omega
theorem stepW_sum (ws : List Str) (f : Int) (n : Str) (h : Log f) (hn : n.length ≤ 10) : ((stepW ws f n).map (·.length)).sum ≤ (ws.map (·.length)).sum + 2001 := by
  have a := term_len f n h hn
  have b := term_len (absI f) n (absI_log f h) hn
  have c : (sg f).length = 1 := by unfold sg; split <;> decide
  unfold stepW
  split
  · omega
  · split
    · simp
      omega
    · simp
      omega
theorem v_str (hx : Log x) (hy : Log y) (hz : Log z) : m_Formzz_strzz [F3 x y z] pt = .ok (.str (txt x y z)) pt := by
  rw [← txt_eq]
  refine v_strF hx hy hz ?_
  have a := stepW_sum [] x "x" hx (by decide)
  have b := stepW_sum (stepW [] x "x") y "y" hy (by decide)
  have c := stepW_sum (stepW (stepW [] x "x") y "y") z "" hz (by decide)
  have l : (stepW (stepW (stepW [] x "x") y "y") z "").length ≤ 5 := (W3_ok x y z).2
  have e : (" " : Str).length = 1 := by decide
  rw [e]
  simp only [List.map_nil, List.sum_nil] at a
  show ((stepW (stepW (stepW [] x "x") y "y") z "").map (·.length)).sum + (stepW (stepW (stepW [] x "x") y "y") z "").length * 1 ≤ 1000000
  omega
/-! ### repr -/
def rp (x y z : Int) : Str := "Form(" ++ tx x ++ ", " ++ tx y ++ ", " ++ tx z ++ ")"
theorem v_repr (hx : Log x) (hy : Log y) (hz : Log z) : m_Formzz_reprzz [F3 x y z] pt = .ok (.str (rp x y z)) pt := by
  have lx := tx_len hx
  have ly := tx_len hy
  have lz := tx_len hz
  have a : ("Form(" : Str).length = 5 := by decide
  have b : (", " : Str).length = 2 := by decide
  have c : (")" : Str).length = 1 := by decide
  unfold m_Formzz_reprzz g_Formzz_reprzz rp
  rw [e_fnM]
  have k1 : (Str.empty ++ "Form(" : Str).length ≤ 1000000 := by rw [Str.empty_append]; omega
  have k2 : ("Form(" ++ tx x : Str).length ≤ 1000000 := by simp only [Str.length_append]; omega
  have k3 : ("Form(" ++ tx x ++ ", " : Str).length ≤ 1000000 := by simp only [Str.length_append]; omega
  have k4 : ("Form(" ++ tx x ++ ", " ++ tx y : Str).length ≤ 1000000 := by simp only [Str.length_append]; omega
  have k5 : ("Form(" ++ tx x ++ ", " ++ tx y ++ ", " : Str).length ≤ 1000000 := by simp only [Str.length_append]; omega
  have k6 : ("Form(" ++ tx x ++ ", " ++ tx y ++ ", " ++ tx z : Str).length ≤ 1000000 := by simp only [Str.length_append]; omega
  have k7 : ("Form(" ++ tx x ++ ", " ++ tx y ++ ", " ++ tx z ++ ")" : Str).length ≤ 1000000 := by simp only [Str.length_append]; omega
  rw [Str.empty_append] at k1
  simp [ini, hx, hy, hz, Str.empty_append, k1, k2, k3, k4, k5, k6, k7]
theorem e_sl2 : slM (T3 x y z) none (some 2) pt = .ok (.tup [.int x, .int y]) pt := rfl
theorem v_is (hx : Log x) (hy : Log y) (hz : Log z) : m__law_is [F3 x y z, T3 x y z] pt = .ok (.bl true) pt := by
  have lx := tx_len hx
  have ly := tx_len hy
  have lz := tx_len hz
  have a : ("Form(" : Str).length = 5 := by decide
  have b : (", " : Str).length = 2 := by decide
  have c : (")" : Str).length = 1 := by decide
  have ej : joinF ", " (.lst [.str (tx x), .str (tx y), .str (tx z)]) = some (.str (tx x ++ ", " ++ (tx y ++ ", " ++ tx z))) := by
    have hs : strsOf [.str (tx x), .str (tx y), .str (tx z)] = some [tx x, tx y, tx z] := rfl
    unfold joinF
    simp only [seqOf, Option.bind_some, hs]
    rw [if_pos (by simp; omega), TL.join_eq]
    rfl
  have k1 : ("Form(" : Str).length + (tx x ++ ", " ++ (tx y ++ ", " ++ tx z) : Str).length ≤ 1000000 := by simp only [Str.length_append]; omega
  have k2 : ("Form(" ++ (tx x ++ ", " ++ (tx y ++ ", " ++ tx z)) : Str).length + (")" : Str).length ≤ 1000000 := by simp only [Str.length_append]; omega
  have er : rp x y z = "Form(" ++ (tx x ++ ", " ++ (tx y ++ ", " ++ tx z)) ++ ")" := by
    unfold rp
    simp only [Str.append_assoc]
  unfold m__law_is g__law_is
  rw [e_fnM]
  simp [ini, v_str hx hy hz, v_text hx hy hz, v_repr hx hy hz, e_sl2, reprF, hx, hy, hz, listF, seqOf, ej, k1, k2, noOwn, er]
/-! ### sums -/
theorem e_zipT (xs ys : List D) : zipA [.tup xs, .tup ys] = some (pairs xs ys) := rfl
theorem e_cat (xs : List D) (d e : D) (ys : List D) (h : xs.length + ys.length ≤ 1000) : tCat (.tup (e :: xs)) (.tup (d :: ys)) pt = .ok (.tup (e :: xs ++ d :: ys)) pt := by
  show (if (e :: xs).length + (d :: ys).length ≤ 100000 ∧ (e :: xs).isEmpty = false then ret (D.tup (e :: xs ++ d :: ys)) else fail) pt = _
  rw [if_pos ⟨by simp only [List.length_cons]; omega, rfl⟩]
  rfl
theorem lg {k : Nat} {i : Int} (h : Bd k i) (h0 : 0 < k := by decide) (h1 : k ≤ 1920 := by decide) : Log i := h.lg h0 h1
theorem mo {k l : Nat} {i j : Int} (h : Bd k i) (h' : Bd l j) (h0 : 0 < k := by decide) (h1 : 0 < l := by decide) (h2 : k + l ≤ 1000000 := by decide) : MulOk i j := h.ok h' h0 h1 h2
theorem b0 : Bd 1 0 := by unfold Bd; decide
theorem b1 : Bd 1 1 := by unfold Bd; decide
theorem v_sum (hx : Bd 90 x) (hy : Bd 90 y) (hz : Bd 90 z) (ha : Bd 90 a) (hb : Bd 90 b) (hc : Bd 90 c) : m__law_sum_right [F3 x y z, F3 a b c, T3 x y z, T3 a b c] pt = .ok (.bl true) pt := by
  have i1 := v_is (pt := pt) (lg (hx.add ha)) (lg (hy.add hb)) (lg (hz.add hc))
  have i2 := v_is (pt := pt) (lg (hx.sub ha)) (lg (hy.sub hb)) (lg (hz.sub hc))
  have i3 := v_is (pt := pt) (lg hx) (lg hy) (lg (hz.add hc))
  have i4 := v_is (pt := pt) (lg hx) (lg hy) (lg (hz.sub hc))
  have i5 := v_is (pt := pt) (lg hx.neg) (lg hy.neg) (lg hz.neg)
  have i6 := v_is (pt := pt) (lg (hx.mul hc)) (lg (hy.mul hc)) (lg (hz.mul hc))
  have i7 := v_is (pt := pt) (lg b0) (lg b0) (lg b0)
  have m1 := mo hx hc
  have m2 := mo hy hc
  have m3 := mo hz hc
  have m4 := mo hx b0
  have m5 := mo hy b0
  have m6 := mo hz b0
  unfold m__law_sum_right g__law_sum_right
  rw [e_fnM]
  simp [ini, noOwn, isOwn, e_zipT, pairs, tupF, listF, seqOf, e_sl2, e_cat, i1, i2, i3, i4, i5, i6, i7, m1, m2, m3, m4, m5, m6]
end
theorem ring1 (x y z a b c d e f u v : Int) : (a * x + d * y) * u + (b * x + e * y) * v + (c * x + f * y + z) = x * (a * u + b * v + c) + y * (d * u + e * v + f) + z := by grind
theorem ring2 (x y a d : Int) : x * a + y * d = a * x + d * y := by grind
abbrev VV (d : D) : Option SV := some (.val d)
abbrev RR (s1 s3 s4 s5 s6 s7 s8 s9 s10 s11 s12 : Option SV) : Slots := [some (.val .pot), s1, none, s3, s4, s5, s6, s7, s8, s9, s10, s11, s12]
theorem e_r3 : rng1 [.int 3] = some [.int 0, .int 1, .int 2] := rfl
theorem chain {pt p3 p5 : Pot} {r0 r1 r2 r3 r5 r7 r8 r10 : Slots} (q0 : ini 13 [.pot] = r0) (q1 : g__law_right_s1 r0 pt = .ok (.nx r1) p3) (q2 : g__law_right_s2 r1 p3 = .ok (.nx r2) p3) (q3 : g__law_right_s3 r2 p3 = .ok (.nx r3) p3) (q4 : g__law_right_s4 r3 p3 = .ok (.nx r3) p3) (q5 : g__law_right_s5 r3 p3 = .ok (.nx r5) p5)
    (q6 : g__law_right_s6 r5 p5 = .ok (.nx r5) p5) (q7 : g__law_right_s7 r5 p5 = .ok (.nx r7) p5) (q8 : g__law_right_s8 r7 p5 = .ok (.nx r8) p5) (q9 : g__law_right_s9 r8 p5 = .ok (.nx r8) p5) (q10 : g__law_right_s10 r8 p5 = .ok (.nx r10) p5) (q11 : g__law_right_s11 r10 p5 = .ok (.nx r10) p5) (q12 : g__law_right_s12 r10 p5 = .ok (.nx r10) p5)
    (q13 : g__law_right_s13 r10 p5 = .ok (.nx r10) p5) (q14 : g__law_right_s14 r10 p5 = .ok (.nx r10) p5) (q15 : g__law_right_s15 r10 p5 = .ok (.rt (.bl true)) p5) : m__law_right [.pot] pt = .ok (.bl true) p5 := by
  unfold m__law_right g__law_right
  rw [e_fnM, q0]
  simp only [e_seqS, q1, e_bndok, e_seqK, q2, q3, q4, q5, q6, q7, q8, q9, q10, q11, q12, q13, q14, q15, e_finr]
theorem v_right {pt : Pot} (h : Pt pt) : ∃ q, m__law_right [.pot] pt = .ok (.bl true) q := by
  obtain ⟨x, y, z, p1, e1, hx, hy, hz, h1⟩ := numbers1 h
  obtain ⟨a, b, c, p2, e2, ha, hb, hc, h2⟩ := numbers1 h1
  obtain ⟨d, e, f, p3, e3, hd, he, hf, h3⟩ := numbers1 h2
  obtain ⟨u, p4, e4, hu, h4⟩ := number1 h3
  obtain ⟨v, p5, e5, hv, h5⟩ := number1 h4
  refine ⟨p5, ?_⟩
  have i1 := v_is (pt := p3) (lg hx) (lg hy) (lg hz)
  have i2 := v_is (pt := p3) (lg ha) (lg hb) (lg hc)
  have s1 := v_sum (pt := p3) hx hy hz ha hb hc
  have n1 := mo hx hu
  have n2 := mo hy hv
  have n3 := mo hy b0
  have n4 := mo ha hu
  have n5 := mo hb hv
  have n6 := mo hd hu
  have n7 := mo he hv
  have c1 := mo ha hx
  have c2 := mo hb hx
  have c3 := mo hc hx
  have c4 := mo hd hy
  have c5 := mo he hy
  have c6 := mo hf hy
  have c1' := mo hx ha
  have c2' := mo hx hb
  have c3' := mo hx hc
  have c4' := mo hy hd
  have c5' := mo hy he
  have c6' := mo hy hf
  have bA : Bd 181 (a * x + d * y) := (ha.mul hx).add (hd.mul hy)
  have bB : Bd 181 (b * x + e * y) := (hb.mul hx).add (he.mul hy)
  have bC : Bd 182 (c * x + f * y + z) := ((hc.mul hx).add (hf.mul hy)).add (hz.mono (by decide))
  have g1 := mo bA hu
  have g2 := mo bB hv
  have w1 : Bd 182 (a * u + b * v + c) := ((ha.mul hu).add (hb.mul hv)).add (hc.mono (by decide))
  have w2 : Bd 182 (d * u + e * v + f) := ((hd.mul hu).add (he.mul hv)).add (hf.mono (by decide))
  have g3 := mo hx w1
  have g4 := mo hy w2
  have r1 : (a * x + d * y) * u + (b * x + e * y) * v + (c * x + f * y + z) = x * (a * u + b * v + c) + y * (d * u + e * v + f) + z := ring1 ..
  have j1 : m__law_is [F3 (a * x + d * y) (b * x + e * y) (c * x + f * y + z), T3 (x * a + y * d) (x * b + y * e) (x * c + y * f + z)] p5 = .ok (.bl true) p5 := by
    have := v_is (pt := p5) (lg bA) (lg bB) (lg bC)
    rw [ring2 x y a d, ring2 x y b e, ring2 x y c f]
    exact this
  have o1 := mo b1 hx
  have o2 := mo b0 hx
  have o3 := mo b0 hy
  have o4 := mo b1 hy
  have t1 := v_str (pt := p5) (lg hx) (lg hy) (lg hz)
  have k1 := v_is (pt := p5) (lg hx) (lg hy) (lg hz)
  have k2 := v_is (pt := p5) (lg ha) (lg hb) (lg hc)
  have k3 := v_is (pt := p5) (lg hd) (lg he) (lg hf)
  let L : D := .lst [T3 x y z, T3 a b c, T3 d e f]
  let mx : D := F3 (a * x + d * y) (b * x + e * y) (c * x + f * y + z)
  let inn : D := .tup [.int (a * u + b * v + c), .int (d * u + e * v + f)]
  let due : D := .tup [.int (x * a + y * d), .int (x * b + y * e)]
  have q0 : ini 13 [.pot] = RR none none none none none none none none none none none := rfl
  have q1 : g__law_right_s1 (RR none none none none none none none none none none none) pt = .ok (.nx (RR (VV L) none none none none none none none none none none)) p3 := by
    unfold g__law_right_s1
    simp [noOwn, isOwn, e_r3, e1, e2, e3, L]
  have q2 : g__law_right_s2 (RR (VV L) none none none none none none none none none none) p3 = .ok (.nx (RR (VV L) (VV (T3 x y z)) (VV (T3 a b c)) (VV (T3 d e f)) none none none none none none none)) p3 := by
    unfold g__law_right_s2
    simp [L]
  have q3 : g__law_right_s3 (RR (VV L) (VV (T3 x y z)) (VV (T3 a b c)) (VV (T3 d e f)) none none none none none none none) p3 = .ok (.nx (RR (VV L) (VV (T3 x y z)) (VV (T3 a b c)) (VV (T3 d e f)) (VV (F3 x y z)) (VV (F3 a b c)) (VV (F3 d e f)) none none none none)) p3 := by
    unfold g__law_right_s3
    simp
  have q4 : g__law_right_s4 (RR (VV L) (VV (T3 x y z)) (VV (T3 a b c)) (VV (T3 d e f)) (VV (F3 x y z)) (VV (F3 a b c)) (VV (F3 d e f)) none none none none) p3 = .ok (.nx (RR (VV L) (VV (T3 x y z)) (VV (T3 a b c)) (VV (T3 d e f)) (VV (F3 x y z)) (VV (F3 a b c)) (VV (F3 d e f)) none none none none)) p3 := by
    unfold g__law_right_s4
    simp [i1, i2, s1]
  have q5 : g__law_right_s5 (RR (VV L) (VV (T3 x y z)) (VV (T3 a b c)) (VV (T3 d e f)) (VV (F3 x y z)) (VV (F3 a b c)) (VV (F3 d e f)) none none none none) p3 = .ok (.nx (RR (VV L) (VV (T3 x y z)) (VV (T3 a b c)) (VV (T3 d e f)) (VV (F3 x y z)) (VV (F3 a b c)) (VV (F3 d e f)) (VV (.tup [.int u, .int v])) none none none)) p5 := by
    unfold g__law_right_s5
    simp [e4, e5]
  have q6 : g__law_right_s6 (RR (VV L) (VV (T3 x y z)) (VV (T3 a b c)) (VV (T3 d e f)) (VV (F3 x y z)) (VV (F3 a b c)) (VV (F3 d e f)) (VV (.tup [.int u, .int v])) none none none) p5 = .ok (.nx (RR (VV L) (VV (T3 x y z)) (VV (T3 a b c)) (VV (T3 d e f)) (VV (F3 x y z)) (VV (F3 a b c)) (VV (F3 d e f)) (VV (.tup [.int u, .int v])) none none none)) p5 := by
    unfold g__law_right_s6
    simp [n1, n2, n3]
  have q7 : g__law_right_s7 (RR (VV L) (VV (T3 x y z)) (VV (T3 a b c)) (VV (T3 d e f)) (VV (F3 x y z)) (VV (F3 a b c)) (VV (F3 d e f)) (VV (.tup [.int u, .int v])) none none none) p5 = .ok (.nx (RR (VV L) (VV (T3 x y z)) (VV (T3 a b c)) (VV (T3 d e f)) (VV (F3 x y z)) (VV (F3 a b c)) (VV (F3 d e f)) (VV (.tup [.int u, .int v])) (VV mx) none none)) p5 := by
    unfold g__law_right_s7
    simp [c1, c2, c3, c4, c5, c6, mx]
  have q8 : g__law_right_s8 (RR (VV L) (VV (T3 x y z)) (VV (T3 a b c)) (VV (T3 d e f)) (VV (F3 x y z)) (VV (F3 a b c)) (VV (F3 d e f)) (VV (.tup [.int u, .int v])) (VV mx) none none) p5 = .ok (.nx (RR (VV L) (VV (T3 x y z)) (VV (T3 a b c)) (VV (T3 d e f)) (VV (F3 x y z)) (VV (F3 a b c)) (VV (F3 d e f)) (VV (.tup [.int u, .int v])) (VV mx) (VV inn) none)) p5 := by
    unfold g__law_right_s8
    simp [n4, n5, n6, n7, inn]
  have q9 : g__law_right_s9 (RR (VV L) (VV (T3 x y z)) (VV (T3 a b c)) (VV (T3 d e f)) (VV (F3 x y z)) (VV (F3 a b c)) (VV (F3 d e f)) (VV (.tup [.int u, .int v])) (VV mx) (VV inn) none) p5 = .ok (.nx (RR (VV L) (VV (T3 x y z)) (VV (T3 a b c)) (VV (T3 d e f)) (VV (F3 x y z)) (VV (F3 a b c)) (VV (F3 d e f)) (VV (.tup [.int u, .int v])) (VV mx) (VV inn) none)) p5 := by
    unfold g__law_right_s9
    simp [g1, g2, g3, g4, r1, mx, inn]
  have q10 : g__law_right_s10 (RR (VV L) (VV (T3 x y z)) (VV (T3 a b c)) (VV (T3 d e f)) (VV (F3 x y z)) (VV (F3 a b c)) (VV (F3 d e f)) (VV (.tup [.int u, .int v])) (VV mx) (VV inn) none) p5 = .ok (.nx (RR (VV L) (VV (T3 x y z)) (VV (T3 a b c)) (VV (T3 d e f)) (VV (F3 x y z)) (VV (F3 a b c)) (VV (F3 d e f)) (VV (.tup [.int u, .int v])) (VV mx) (VV inn) (VV due))) p5 := by
    unfold g__law_right_s10
    simp [c1', c2', c4', c5', due]
  have q11 : g__law_right_s11 (RR (VV L) (VV (T3 x y z)) (VV (T3 a b c)) (VV (T3 d e f)) (VV (F3 x y z)) (VV (F3 a b c)) (VV (F3 d e f)) (VV (.tup [.int u, .int v])) (VV mx) (VV inn) (VV due)) p5 = .ok (.nx (RR (VV L) (VV (T3 x y z)) (VV (T3 a b c)) (VV (T3 d e f)) (VV (F3 x y z)) (VV (F3 a b c)) (VV (F3 d e f)) (VV (.tup [.int u, .int v])) (VV mx) (VV inn) (VV due))) p5 := by
    unfold g__law_right_s11
    simp [c3', c6', e_cat, j1, o1, o2, o3, o4, mx, due]
  have q12 : g__law_right_s12 (RR (VV L) (VV (T3 x y z)) (VV (T3 a b c)) (VV (T3 d e f)) (VV (F3 x y z)) (VV (F3 a b c)) (VV (F3 d e f)) (VV (.tup [.int u, .int v])) (VV mx) (VV inn) (VV due)) p5 = .ok (.nx (RR (VV L) (VV (T3 x y z)) (VV (T3 a b c)) (VV (T3 d e f)) (VV (F3 x y z)) (VV (F3 a b c)) (VV (F3 d e f)) (VV (.tup [.int u, .int v])) (VV mx) (VV inn) (VV due))) p5 := by
    unfold g__law_right_s12
    simp [t1]
  have q13 : g__law_right_s13 (RR (VV L) (VV (T3 x y z)) (VV (T3 a b c)) (VV (T3 d e f)) (VV (F3 x y z)) (VV (F3 a b c)) (VV (F3 d e f)) (VV (.tup [.int u, .int v])) (VV mx) (VV inn) (VV due)) p5 = .ok (.nx (RR (VV L) (VV (T3 x y z)) (VV (T3 a b c)) (VV (T3 d e f)) (VV (F3 x y z)) (VV (F3 a b c)) (VV (F3 d e f)) (VV (.tup [.int u, .int v])) (VV mx) (VV inn) (VV due))) p5 := by
    unfold g__law_right_s13
    simp
  have q14 : g__law_right_s14 (RR (VV L) (VV (T3 x y z)) (VV (T3 a b c)) (VV (T3 d e f)) (VV (F3 x y z)) (VV (F3 a b c)) (VV (F3 d e f)) (VV (.tup [.int u, .int v])) (VV mx) (VV inn) (VV due)) p5 = .ok (.nx (RR (VV L) (VV (T3 x y z)) (VV (T3 a b c)) (VV (T3 d e f)) (VV (F3 x y z)) (VV (F3 a b c)) (VV (F3 d e f)) (VV (.tup [.int u, .int v])) (VV mx) (VV inn) (VV due))) p5 := by
    unfold g__law_right_s14
    simp
  have q15 : g__law_right_s15 (RR (VV L) (VV (T3 x y z)) (VV (T3 a b c)) (VV (T3 d e f)) (VV (F3 x y z)) (VV (F3 a b c)) (VV (F3 d e f)) (VV (.tup [.int u, .int v])) (VV mx) (VV inn) (VV due)) p5 = .ok (.rt (.bl true)) p5 := by
    unfold g__law_right_s15
    simp [k1, k2, k3]
  exact chain q0 q1 q2 q3 q4 q5 q6 q7 q8 q9 q10 q11 q12 q13 q14 q15
theorem maths : AllPots m__law_right := fun pt h => v_right h.pt
end LW

set_option Elab.async false
set_option linter.all false
set_option maxRecDepth 100000
set_option maxHeartbeats 0
namespace LW
open PySem PySem.Spec PyProof.Rows L2 DF
abbrev R_ : PySem.W.OpenRow := PySem.W.OpenLaw.row PySem.Challenge.rw_stitchsizes_k31_whole_forms
abbrev hk_ : PySem.W.Hook := hookZ 6 oks fns
def ob_ (s : PySem.W.SharedT) : He.AlD := obsZG 6 oks fns (HandSHeadRun.getT s)
theorem ob_eq (s : PySem.W.SharedT) : ob_ s = hk_.obs s.abs := obsZG_eq (HandSHeadRun.getT_eq s)
def loose_ : List Str := ["is_integer", "StitchError", "InvalidNumber", "InvalidForm", "written_term", "Form", "form_of", "_law_pot", "_law_draw", "_law_pick", "_law_number", "_law_numbers", "_law_made", "_law_value", "_law_text", "_law_is", "_law_sum_right", "_law_right", "__name__"]
theorem run_ (w : World) : HandSHeadRun.RunEq R_ (PySem.W.view R_.prog [22]) hk_ ob_ 6000 loose_ w := by
  intro os
  kernel_rfl
theorem facts_ {P : Program} {w : World} {K : PySem.W.Frag} {h : Heap} {mg : Str → Option Value} {f : Addr} (X : K.In h) (G : h.Ns mainGlobals mg) (hfa : mg ("law" : Str) = some (.ref f)) (c : SaysZ oks fns K) :
    ∃ fd : FuncData, (∀ (s : Shared) (v : Value), BindsTo s fd ⟨[v], []⟩ [("_law_script", v)]) ∧ ∀ base : Heap, K.In base → base.Ns mainGlobals mg → FnOk P w K mg base (L2.CX P w) 8 f fd ["_law_script"] (spLaw K) := by
  have t : TX K mg := ⟨c, h, X, G⟩
  have e := hfa.symm.trans (t.glo (x := "law") 53)
  cases e
  have b := FunD.bindsA (ps := ["_law_script"]) (u_law t) fun _ _ _ _ _ _ us hl => match us, hl with | [_], _ => rfl
  exact ⟨_, fun s v => b s [v] rfl, fun base _ _ => ok_law maths t (t.free (x := "len") 4) (t.free (x := "max") 54) (t.free (x := "min") 55) (t.free (x := "abs") 25) (t.free (x := "int") 2) (t.free (x := "range") 0) (t.free (x := "all") 56) (t.glo (x := "_law_pot") 52) (t.glo (x := "_law_right") 57)⟩
end LW
open PySem PySem.W PySem.Calls PyProof.Rows
theorem PySem.Challenge.cw_stitchsizes_k31_whole_forms_holds : PySem.Challenge.rw_stitchsizes_k31_whole_forms.Holds := by
  w_on; o_law
  refine HandSHeadRun.head_any (r := OpenLaw.row PySem.Challenge.rw_stitchsizes_k31_whole_forms) (q := view (OpenLaw.row PySem.Challenge.rw_stitchsizes_k31_whole_forms).prog [22]) (H := LW.hk_) (ob := LW.ob_) (M := 6000) (loose := LW.loose_) (d := HandSHeadRun.topDef (OpenLaw.row PySem.Challenge.rw_stitchsizes_k31_whole_forms).prog 22) (kwd := []) LW.ob_eq
    (by kernel_rfl) (fun s => by kernel_rfl) LW.run_ (by kernel_rfl) (by kernel_rfl) (by kernel_rfl) (by rfl) (by first | assumption | decide +kernel) (by decide +kernel) ⟨rfl, rfl, rfl, rfl, rfl, by decide +kernel⟩ ?hw ?hc
  case hw => w_witness2
  case hc =>
    refine DF.walkZ (lw := PySem.Challenge.rw_stitchsizes_k31_whole_forms) (k := 8) (x := "_law_script") rfl (by kernel_rfl) ⟨rfl, by decide, by decide⟩ ?F
    intro w mg fa h Y G hmg0
    obtain ⟨K, KX, c⟩ := Y
    have hmg : mg ("law" : PySem.Str) = some (.ref fa) := by
      have e : (HandSHeadRun.topDef (OpenLaw.row PySem.Challenge.rw_stitchsizes_k31_whole_forms).prog 22).name = ("law" : PySem.Str) := by kernel_rfl
      rw [← e]
      exact hmg0
    obtain ⟨fd, hb, hF⟩ := LW.facts_ (P := (PySem.Challenge.rw_stitchsizes_k31_whole_forms).prog) (w := w) KX G hmg c
    exact ⟨K, fd, KX, hb, hF⟩

