import PyProof.Rows.All
import Wide.All
import OpenK.AllK
import Wide.FinOn
import HandS.ForMost
import HandS.ForExc
import HandS.Lambda
import HandS.TryMany
import HandS.ExcInit
import HandS.ExcField
import HandS.MakeKwOnly
import HandS.MakeKw
import HandS.Wide
import HandS.WideBits
import HandS.Property
import HandS.Defaults
import KE.KOpsOwn
import KE.KCallOwn
import HandS.IsInst
import HandS.FStr
import HandS.RaiseMore
import HandS.Zip
import HandS.Text
import HandS.Style
import HandS.TryOnly
import HandS.Head0
import HandS.Head1
import HandS.Head2
import HandS.HeadEnd
import HandS.HeadHook1
import HandS.HeadHook2
import HandS.HeadNt
import HandS.Ends
import HandS.HeadWalk
import KE.KExcInit
import PyProof.ReprRoads
import HandS.HeadHook4
import HandS.ExcIs
import KE.KExcMake
import KE.KSortKey
import HandS.SortKw
import HandS.DictComp
import HandS.DictEq
import HandS.Iter
import HandS.More
import HandS.Rev
import KE.GoesMore
import KE.GoesEnum
import HandS.Star
import PySem.Challenge.RW_stitchsizes_k11_whole_words_of_a_book
import PyProof.P3Eq
set_option Elab.async false
set_option linter.all false
set_option maxRecDepth 100000
set_option maxHeartbeats 4000000
/-! DF: Python data as plain Lean data (D), and what a piece of the text does to it. -/
namespace DF
open PySem L2

inductive D where
  | non | bl (b : Bool) | int (i : Int) | str (x : Str)
  | tup (ds : List D) | lst (ds : List D)
  | dct (kvs : List (Key × D))
  | dcf (kvs : List (Key × D))
  | obj (c : Nat) (fs : List D)
  | ex (c : Nat) (fs : List D)
  | pot
  | fn (n : Nat) | cls (c : Nat) | ty (n : String)

/-- the pot that is drawn from: two ints -/
abbrev Pot := Int × Int
inductive Res (α : Type) where
  | ok (a : α) (p : Pot)
  | exc (c : Nat) (fs : List D) (p : Pot)
  | stuck
abbrev M (α : Type) := Pot → Res α
section
variable {α β : Type}
def ret (a : α) : M α := fun p => .ok a p
def fail : M α := fun _ => .stuck
def bnd (m : M α) (f : α → M β) : M β := fun p => match m p with
  | .ok a p' => f a p'
  | .exc c fs p' => .exc c fs p'
  | .stuck => .stuck
def opt : Option α → M α
  | some a => ret a
  | none => fail
end

/-- where classes and defs stand; the fields of a class in their order -/
structure Tb where
  cls : Nat → Addr
  names : Nat → List Str
  fn : Nat → Addr
  tb : List (Addr × Str)

mutual
def R (K : PySem.W.Frag) (T : Tb) (p : Addr) (H : Hp) : D → V → Prop
  | .non, v => v = .non
  | .bl b, v => v = .bl b
  | .int i, v => v = .int i
  | .str x, v => v = .str x
  | .tup ds, v => ∃ a vs, v = .ref a ∧ SqT K H a vs ∧ RL K T p H ds vs
  | .lst ds, v => ∃ a vs, v = .ref a ∧ H a = some (.lst vs) ∧ RL K T p H ds vs
  | .dct kvs, v => ∃ a es, v = .ref a ∧ H a = some (.dK es) ∧ RK K T p H kvs es
  | .dcf kvs, v => ∃ a ob es, v = .ref a ∧ H a = some (.frz ob (.dK es)) ∧ RK K T p H kvs es
  | .obj c fs, v => ∃ a dx vs, v = .ref a ∧ H a = some (.ins (T.cls c) dx ((T.names c).zip vs)) ∧ fs.length = (T.names c).length ∧ RL K T p H fs vs
  | .ex c fs, v => ∃ a dd vs, v = .ref a ∧ H a = some (exo a (T.cls c) dd) ∧ fs.length = (T.names c).length ∧ RL K T p H fs vs ∧
    ((dd = none ∧ fs = []) ∨ ∃ d fl, dd = some d ∧ H d = some (exd d fl) ∧ ∀ (i : Nat) (n : Str) (v : V), (T.names c)[i]? = some n → vs[i]? = some v → fl.lookup n = some v)
  | .pot, v => v = .ref p
  | .fn n, v => v = .ref (T.fn n)
  | .cls c, v => v = .ref (T.cls c)
  | .ty n, v => v = .ty n
def RL (K : PySem.W.Frag) (T : Tb) (p : Addr) (H : Hp) : List D → List V → Prop
  | [], vs => vs = []
  | d :: ds, vs => ∃ v ws, vs = v :: ws ∧ R K T p H d v ∧ RL K T p H ds ws
def RK (K : PySem.W.Frag) (T : Tb) (p : Addr) (H : Hp) : List (Key × D) → List (Key × V) → Prop
  | [], vs => vs = []
  | (k, d) :: ds, vs => ∃ v ws, vs = (k, v) :: ws ∧ R K T p H d v ∧ RK K T p H ds ws
end

/-- a heap that has grown -/
def Gr (H H' : Hp) : Prop := ∀ a o, H a = some o → H' a = some o
theorem Gr.refl (H : Hp) : Gr H H := fun _ _ h => h
theorem Gr.trans {H H1 H2 : Hp} (a : Gr H H1) (b : Gr H1 H2) : Gr H H2 := fun x o h => b x o (a x o h)
theorem Gr.sqt {K : PySem.W.Frag} {H H' : Hp} {a : Addr} {xs : List V} (e : Gr H H') (h : SqT K H a xs) : SqT K H' a xs :=
  h.elim (fun h => .inl (h.elim (fun h => .inl (e _ _ h)) fun ⟨o, h⟩ => .inr ⟨o, e _ _ h⟩)) fun h => .inr h
theorem Gr.sql {K : PySem.W.Frag} {H H' : Hp} {a : Addr} {xs : List V} (e : Gr H H') (h : SqL K H a xs) : SqL K H' a xs :=
  h.elim (fun h => .inl (h.elim (fun h => .inl (e _ _ h)) fun ⟨o, h⟩ => .inr ⟨o, e _ _ h⟩)) fun h => .inr h
theorem Gr.rd {H H' : Hp} {a : Addr} {u : HO} (e : Gr H H') (h : Rd H a u) : Rd H' a u := h.elim (fun h => .inl (e _ _ h)) fun ⟨o, h⟩ => .inr ⟨o, e _ _ h⟩

mutual
theorem R.gr {K : PySem.W.Frag} {T : Tb} {p : Addr} {H H' : Hp} (g : Gr H H') : ∀ {d : D} {v : V}, R K T p H d v → R K T p H' d v
  | .non, _, h | .bl _, _, h | .int _, _, h | .str _, _, h | .pot, _, h | .fn _, _, h | .cls _, _, h | .ty _, _, h => by simpa [R] using h
  | .tup ds, v, h => by
    simp only [R] at h ⊢
    obtain ⟨a, vs, e, s, r⟩ := h
    exact ⟨a, vs, e, g.sqt s, RL.gr g r⟩
  | .lst ds, v, h => by
    simp only [R] at h ⊢
    obtain ⟨a, vs, e, s, r⟩ := h
    exact ⟨a, vs, e, g _ _ s, RL.gr g r⟩
  | .dct ds, v, h => by
    simp only [R] at h ⊢
    obtain ⟨a, vs, e, s, r⟩ := h
    exact ⟨a, vs, e, g _ _ s, RK.gr g r⟩
  | .dcf ds, v, h => by
    simp only [R] at h ⊢
    obtain ⟨a, ob, vs, e, s, r⟩ := h
    exact ⟨a, ob, vs, e, g _ _ s, RK.gr g r⟩
  | .obj c fs, v, h => by
    simp only [R] at h ⊢
    obtain ⟨a, dx, vs, e, s, l, r⟩ := h
    exact ⟨a, dx, vs, e, g _ _ s, l, RL.gr g r⟩
  | .ex c fs, v, h => by
    simp only [R] at h ⊢
    obtain ⟨a, dd, vs, e, s, l, r, q⟩ := h
    exact ⟨a, dd, vs, e, g _ _ s, l, RL.gr g r, q.imp id fun ⟨d, fl, e1, e2, e3⟩ => ⟨d, fl, e1, g _ _ e2, e3⟩⟩
theorem RL.gr {K : PySem.W.Frag} {T : Tb} {p : Addr} {H H' : Hp} (g : Gr H H') : ∀ {ds : List D} {vs : List V}, RL K T p H ds vs → RL K T p H' ds vs
  | [], _, h => by simpa [RL] using h
  | d :: ds, vs, h => by
    simp only [RL] at h ⊢
    obtain ⟨v, ws, e, r, rs⟩ := h
    exact ⟨v, ws, e, R.gr g r, RL.gr g rs⟩
theorem RK.gr {K : PySem.W.Frag} {T : Tb} {p : Addr} {H H' : Hp} (g : Gr H H') : ∀ {ds : List (Key × D)} {vs : List (Key × V)}, RK K T p H ds vs → RK K T p H' ds vs
  | [], _, h => by simpa [RK] using h
  | (k, d) :: ds, vs, h => by
    simp only [RK] at h ⊢
    obtain ⟨v, ws, e, r, rs⟩ := h
    exact ⟨v, ws, e, R.gr g r, RK.gr g rs⟩
end

/-- no table of code objects -/
def nt : HO → Bool
  | .tbl _ => false
  | _ => true
/-- what may be changed -/
def mt : HO → Bool
  | .tbl _ => false
  | .ext _ => false
  | _ => true
theorem mt_nt {o : HO} (h : mt o = true) : nt o = true := by
  cases o <;> first | rfl | cases h
/-- some addresses left out of sight, and all tables -/
def Hd (S : List Addr) (H : Hp) : Hp := fun a => if a ∈ S then none else (H a).filter nt
theorem Hd.in_ {S : List Addr} {H : Hp} {a : Addr} (h : a ∈ S) : Hd S H a = none := if_pos h
theorem Hd.out {S : List Addr} {H : Hp} {a : Addr} {o : HO} (h : a ∉ S) (e : H a = some o) (n : nt o = true := by rfl) : Hd S H a = some o := by
  unfold Hd
  rw [if_neg h, e]
  simp [Option.filter, n]
theorem Hd.sees {S : List Addr} {H : Hp} {a : Addr} {o : HO} (h : Hd S H a = some o) : a ∉ S ∧ H a = some o ∧ nt o = true := by
  unfold Hd at h
  by_cases q : a ∈ S
  · rw [if_pos q] at h; cases h
  · rw [if_neg q] at h
    cases e : H a with
    | none => rw [e] at h; cases h
    | some u =>
      rw [e] at h
      by_cases z : nt u = true
      · simp [Option.filter, z] at h
        subst h
        exact ⟨q, rfl, z⟩
      · simp [Option.filter, z] at h
theorem Hd.no {S : List Addr} {H : Hp} {a : Addr} (h : H a = none) : Hd S H a = none := by
  unfold Hd
  rw [h]
  simp
theorem Hd.ne {H : Hp} {a b : Addr} {o : HO} (e : H a = some o) (n : nt o = true) (h : Hd [] H b = none) : a ≠ b := fun z => by
  rw [← z, Hd.out (by simp) e n] at h
  cases h
theorem Hd.le {S : List Addr} {H : Hp} : Gr (Hd S H) H := fun a o h => (Hd.sees h).2.1
/-- fewer hidden -/
theorem Hd.sub {S S' : List Addr} {H : Hp} (s : ∀ a ∈ S', a ∈ S) : Gr (Hd S H) (Hd S' H) := fun a o h => by
  obtain ⟨h1, h2, h3⟩ := Hd.sees h
  exact Hd.out (fun q => h1 (s a q)) h2 h3

/-- the exception that was caught, the lambda that was handed in -/
structure Xc where
  a : Addr
  cls : Value
  d : Option Addr
  lf : Addr
  lc : Addr
  lq : Str
def x0 : Xc := ⟨0, .none, none, 0, 0, Str.empty⟩
/-- the context of a body: the text's facts, the pot, the heap at the entry -/
structure Cy where
  K : PySem.W.Frag
  T : Tb
  p : Addr
  S : List Addr
  H0 : Hp
  me : Addr
  x : Xc
abbrev Cy.R (c : Cy) (H : Hp) (d : D) (v : V) : Prop := DF.R c.K c.T c.p H d v
abbrev Cy.RL (c : Cy) (H : Hp) (d : List D) (v : List V) : Prop := DF.RL c.K c.T c.p H d v

def potO (pt : Pot) : HO := .lst [.int pt.1, .int pt.2]
/-- the pot, and the tables -/
structure Pots (tb : List (Addr × Str)) (p : Addr) (H : Hp) (pt : Pot) : Prop where
  at_ : H p = some (potO pt)
  tab : LamX.Tabs tb H
theorem Pots.ext {tb : List (Addr × Str)} {p : Addr} {H H' : Hp} {pt : Pot} (h : Pots tb p H pt) (g : ∀ a o, H a = some o → H' a = some o) : Pots tb p H' pt := ⟨g _ _ h.at_, h.tab.ext g⟩
theorem Pots.upd {tb : List (Addr × Str)} {p : Addr} {H : Hp} {pt : Pot} {a : Addr} {o u : HO} (h : Pots tb p H pt) (n : p ≠ a) (e : H a = some u) (m : mt u = true) : Pots tb p (L2.upd H a o) pt := by
  refine ⟨by rw [upd_ne n]; exact h.at_, fun q hq => ?_⟩
  obtain ⟨ps, h1, h2, h3⟩ := h.tab q hq
  refine ⟨ps, ?_, h2, fun pos cv hc => ?_⟩
  · rw [upd_ne (fun z => by rw [z, e] at h1; cases h1; cases m)]
    exact h1
  · obtain ⟨c, e1, e2⟩ := h3 pos cv hc
    refine ⟨c, e1, ?_⟩
    rw [upd_ne (fun z => by
      rw [z, e] at e2
      have e3 : u = LamX.CodeO a q.2 := Option.some.inj e2
      rw [e3] at m
      cases m)]
    exact e2
/-- the pot is changed -/
theorem Pots.put {tb : List (Addr × Str)} {p : Addr} {H : Hp} {pt q : Pot} (h : Pots tb p H pt) : Pots tb p (L2.upd H p (potO q)) q := by
  refine ⟨upd_same, fun r hr => ?_⟩
  obtain ⟨ps, h1, h2, h3⟩ := h.tab r hr
  refine ⟨ps, ?_, h2, fun pos cv hc => ?_⟩
  · rw [upd_ne (fun z => by rw [z, h.at_] at h1; cases h1)]
    exact h1
  · obtain ⟨c, e1, e2⟩ := h3 pos cv hc
    refine ⟨c, e1, ?_⟩
    rw [upd_ne (fun z => by rw [z, h.at_] at e2; cases e2)]
    exact e2
/-- from H to H': all but the pot and the tables is kept -/
structure Stp (tb : List (Addr × Str)) (p : Addr) (H H' : Hp) (pt : Pot) : Prop where
  keep : ∀ a o, a ≠ p → H a = some o → (n : nt o = true := by rfl) → H' a = some o
  pot : Pots tb p H' pt
theorem Stp.trans {tb : List (Addr × Str)} {p : Addr} {H H1 H2 : Hp} {q r : Pot} (a : Stp tb p H H1 q) (b : Stp tb p H1 H2 r) : Stp tb p H H2 r := ⟨fun x o n h m => b.keep x o n (a.keep x o n h m) m, b.pot⟩
theorem Stp.gr {tb : List (Addr × Str)} {p : Addr} {H H' : Hp} {pt : Pot} (s : Stp tb p H H' pt) {S : List Addr} (hp : p ∈ S) : Gr (Hd S H) (Hd S H') := fun a o h => by
  obtain ⟨h1, h2, h3⟩ := Hd.sees h
  exact Hd.out h1 (s.keep a o (fun e => h1 (e ▸ hp)) h2 h3) h3

inductive SV where
  | val (d : D)
  | own (ds : List D)
  | ownd (kvs : List (Key × D))
  | slf (c : Nat) (fs : List D)
  | exv (e : Nat) (fs : List D)
  | lam
  | raw (v : V)
abbrev Slots := List (Option SV)
def isOwn : SV → Bool
  | .own _ => true
  | .ownd _ => true
  | .slf _ _ => true
  | _ => false
/-- an exception of the text as data -/
def Xv (c : Cy) (H : Hp) (e : Nat) (fs : List D) (cls : Value) (dd : Option Addr) : Prop :=
  cls = .ref (c.T.cls e) ∧ ((fs = [] ∧ dd = none) ∨ ∃ d fl vs, dd = some d ∧ H d = some (.xd fl) ∧ (∀ (i : Nat) (n : Str) (v : V), (c.T.names e)[i]? = some n → vs[i]? = some v → fl.lookup n = some v) ∧ fs.length = (c.T.names e).length ∧ c.RL H fs vs)
theorem Xv.gr {c : Cy} {H H' : Hp} {e : Nat} {fs : List D} {cls : Value} {dd : Option Addr} (g : Gr H H') (h : Xv c H e fs cls dd) : Xv c H' e fs cls dd :=
  ⟨h.1, h.2.imp id fun ⟨d, fl, vs, h1, h2, h3, h4, h5⟩ => ⟨d, fl, vs, h1, g _ _ h2, h3, h4, RL.gr g h5⟩⟩

abbrev hid (c : Cy) (O : List (Nat × Addr)) : List Addr := c.S ++ O.map (·.2)
def SlotOk (c : Cy) (O : List (Nat × Addr)) (H : Hp) (i : Nat) (x : Option (Option V)) : SV → Prop
  | .val d => ∃ v, x = some (some v) ∧ c.R (Hd (hid c O) H) d v
  | .own ds => ∃ a vs, (i, a) ∈ O ∧ x = some (some (.ref a)) ∧ H a = some (.lst vs) ∧ c.RL (Hd (hid c O) H) ds vs
  | .ownd kvs => ∃ a vs, (i, a) ∈ O ∧ x = some (some (.ref a)) ∧ H a = some (.dK vs) ∧ RK c.K c.T c.p (Hd (hid c O) H) kvs vs
  | .slf k fs => ∃ a dx vs, (i, a) ∈ O ∧ a = c.me ∧ x = some (some (.ref a)) ∧ H a = some (.ins (c.T.cls k) dx ((c.T.names k).zip vs)) ∧ fs.length ≤ (c.T.names k).length ∧ c.RL (Hd (hid c O) H) fs vs
  | .exv e fs => x = some (some (.ref c.x.a)) ∧ Xv c (Hd (hid c O) H) e fs c.x.cls c.x.d
  | .lam => x = some (some (.ref c.x.lf)) ∧ Hd (hid c O) H c.x.lc = some (LamX.CodeO c.x.lc c.x.lq)
  | .raw v => x = some (some v)
structure RS (c : Cy) (O : List (Nat × Addr)) (ρ : Slots) (σ : L2.St) (H : Hp) (pt : Pot) : Prop where
  pot : Pots c.T.tb c.p H pt
  ext : ∀ a o, a ≠ c.p → c.H0 a = some o → (n : nt o = true := by rfl) → H a = some o
  hp : c.p ∈ c.S
  hS : ∀ a ∈ c.S, ∃ o, H a = some o ∧ mt o = true
  new : ∀ q ∈ O, Hd [] c.H0 q.2 = none ∧ q.2 ≠ c.p ∧ q.2 ∉ c.S ∧ ∃ o, H q.2 = some o ∧ mt o = true
  nd : (O.map (·.2)).Nodup
  nf : (O.map (·.1)).Nodup
  len : ρ.length = σ.length
  ow : ∀ q ∈ O, ∃ s, ρ[q.1]? = some (some s) ∧ isOwn s = true
  sl : ∀ i s, ρ[i]? = some (some s) → SlotOk c O H i σ[i]? s

theorem SlotOk.stp {c : Cy} {O : List (Nat × Addr)} {H H' : Hp} {pt : Pot} {i : Nat} {x : Option (Option V)} {s : SV} (st : Stp c.T.tb c.p H H' pt) (hp : c.p ∈ c.S) (np : ∀ q ∈ O, q.2 ≠ c.p) (h : SlotOk c O H i x s) : SlotOk c O H' i x s := by
  have g : Gr (Hd (hid c O) H) (Hd (hid c O) H') := st.gr (List.mem_append_left _ hp)
  cases s with
  | val d =>
    obtain ⟨v, e, r⟩ := h
    exact ⟨v, e, R.gr g r⟩
  | own ds =>
    obtain ⟨a, vs, m, e, q, r⟩ := h
    exact ⟨a, vs, m, e, st.keep _ _ (np _ m) q, RL.gr g r⟩
  | ownd ds =>
    obtain ⟨a, vs, m, e, q, r⟩ := h
    exact ⟨a, vs, m, e, st.keep _ _ (np _ m) q, RK.gr g r⟩
  | slf k fs =>
    obtain ⟨a, dx, vs, m, em, e, q, l, r⟩ := h
    exact ⟨a, dx, vs, m, em, e, st.keep _ _ (np _ m) q, l, RL.gr g r⟩
  | exv e fs => exact ⟨h.1, Xv.gr g h.2⟩
  | lam => exact ⟨h.1, g _ _ h.2⟩
  | raw v => exact h
theorem RS.stp {c : Cy} {O : List (Nat × Addr)} {ρ : Slots} {σ : L2.St} {H H' : Hp} {pt pt' : Pot} (r : RS c O ρ σ H pt) (st : Stp c.T.tb c.p H H' pt') : RS c O ρ σ H' pt' :=
  ⟨st.pot, fun a o n h m => st.keep a o n (r.ext a o n h m) m, r.hp, fun a ha => let ⟨o, e, m⟩ := r.hS a ha; if q : a = c.p then ⟨_, q ▸ st.pot.at_, rfl⟩ else ⟨o, st.keep a o q e (mt_nt m), m⟩, fun q hq => let ⟨h1, h2, h4, o, h3, m⟩ := r.new q hq; ⟨h1, h2, h4, o, st.keep _ _ h2 h3 (mt_nt m), m⟩, r.nd, r.nf, r.len, r.ow, fun i s h => (r.sl i s h).stp st r.hp fun q hq => (r.new q hq).2.1⟩

def RX (c : Cy) (H : Hp) (e : Nat) (fs : List D) (cls : Value) (dd : Option Addr) : Prop := Xv c (Hd c.S H) e fs cls dd
/-- the heap when a body is left -/
structure Fin (c : Cy) (H : Hp) (pt : Pot) : Prop where
  pot : Pots c.T.tb c.p H pt
  ext : ∀ a o, a ≠ c.p → c.H0 a = some o → (n : nt o = true := by rfl) → H a = some o
  hS : ∀ a ∈ c.S, ∃ o, H a = some o ∧ mt o = true

/-- what is wanted of an outcome: its value with the heap behind it, or its exception -/
def Wg {α : Type} (c : Cy) (W : WX) (σ : L2.St) (H : Hp) (P : α → Pot → Hp → Prop) : Res α → Prop
  | .ok a pt => ∀ H', Stp c.T.tb c.p H H' pt → P a pt H'
  | .exc e fs pt => ∀ cls dd H', Stp c.T.tb c.p H H' pt → RX c H' e fs cls dd → W cls dd σ H'
  | .stuck => False
def dE (c : Cy) (W : WX) (f : Slots → M D) : TE := fun σ H Q => ∃ O ρ pt, RS c O ρ σ H pt ∧ Wg c W σ H (fun d _ H' => ∀ v, c.R (Hd (hid c O) H') d v → Q v H') (f ρ pt)
/-- a value, or a list or dict that may still be changed: to be looked at, not to be kept -/
def RB (c : Cy) (O : List (Nat × Addr)) (H : Hp) (d : D) (v : V) : Prop :=
  c.R (Hd (hid c O) H) d v ∨ (∃ i a ds vs, d = .lst ds ∧ v = .ref a ∧ (i, a) ∈ O ∧ H a = some (.lst vs) ∧ c.RL (Hd (hid c O) H) ds vs) ∨
    (∃ i a ds vs, d = .dct ds ∧ v = .ref a ∧ (i, a) ∈ O ∧ H a = some (.dK vs) ∧ RK c.K c.T c.p (Hd (hid c O) H) ds vs)
def dB (c : Cy) (W : WX) (f : Slots → M D) : TE := fun σ H Q => ∃ O ρ pt, RS c O ρ σ H pt ∧ Wg c W σ H (fun d _ H' => ∀ v, RB c O H' d v → Q v H') (f ρ pt)
def dT (c : Cy) (W : WX) (f : Slots → M Bool) : TT := fun σ H Q => ∃ O ρ pt, RS c O ρ σ H pt ∧ Wg c W σ H (fun b _ H' => Q b H') (f ρ pt)
def dA (c : Cy) (W : WX) (f : Slots → M (List D)) : TA := fun σ H Q => ∃ O ρ pt, RS c O ρ σ H pt ∧ Wg c W σ H (fun d _ H' => ∀ v, c.RL (Hd (hid c O) H') d v → Q v H') (f ρ pt)
inductive Out where
  | nx (ρ : Slots) | rt (d : D) | bk (ρ : Slots) | ct (ρ : Slots)
/-- what cannot change any more stays so -/
def Mv (c : Cy) (O : List (Nat × Addr)) (H : Hp) (O' : List (Nat × Addr)) (H' : Hp) : Prop := ∀ a o, a ∉ hid c O → H a = some o → nt o = true → a ∉ hid c O' ∧ H' a = some o
theorem Mv.trans {c : Cy} {O O1 O2 : List (Nat × Addr)} {H H1 H2 : Hp} (a : Mv c O H O1 H1) (b : Mv c O1 H1 O2 H2) : Mv c O H O2 H2 := fun x o h e m => b x o (a x o h e m).1 (a x o h e m).2 m
theorem Mv.gr {c : Cy} {O O1 : List (Nat × Addr)} {H H1 : Hp} (a : Mv c O H O1 H1) : Gr (Hd (hid c O) H) (Hd (hid c O1) H1) := fun x o h => by
  obtain ⟨h1, h2, h3⟩ := Hd.sees h
  obtain ⟨q1, q2⟩ := a x o h1 h2 h3
  exact Hd.out q1 q2 h3
theorem Stp.mv {c : Cy} {O : List (Nat × Addr)} {H H1 : Hp} {pt : Pot} (s : Stp c.T.tb c.p H H1 pt) (hp : c.p ∈ c.S) : Mv c O H O H1 := fun a o h e m => ⟨h, s.keep a o (fun q => h (q ▸ List.mem_append_left _ hp)) e m⟩
def WO (c : Cy) (W : WX) (E : Ends) (O : List (Nat × Addr)) (H : Hp) : Res Out → Prop
  | .ok (.nx ρ') pt' => ∀ O' σ' H', RS c O' ρ' σ' H' pt' → Mv c O H O' H' → E.nx σ' H'
  | .ok (.bk ρ') pt' => ∀ O' σ' H', RS c O' ρ' σ' H' pt' → Mv c O H O' H' → E.bk σ' H'
  | .ok (.ct ρ') pt' => ∀ O' σ' H', RS c O' ρ' σ' H' pt' → Mv c O H O' H' → E.ct σ' H'
  | .ok (.rt d) pt' => ∀ v H', Fin c H' pt' → c.R (Hd c.S H') d v → E.rt v H'
  | .exc e fs pt' => ∀ cls dd σ' H', Fin c H' pt' → RX c H' e fs cls dd → W cls dd σ' H'
  | .stuck => False
def dS (c : Cy) (W : WX) (g : Slots → M Out) : TS := fun E σ H => ∃ O ρ pt, RS c O ρ σ H pt ∧ WO c W E O H (g ρ pt)
/-- a new list -/
def dL (c : Cy) (W : WX) (f : Slots → M (List D)) : TE := fun σ H Q => ∃ O ρ pt, RS c O ρ σ H pt ∧ Wg c W σ H (fun ds _ H' => ∀ l vs, Hd [] H l = none → H' l = some (.lst vs) → c.RL (Hd (l :: hid c O) H') ds vs → Q (.ref l) H') (f ρ pt)

/-! ### weakening a judgement -/
section
variable {X : Cx}
theorem pe_imp {e : Expr} {t t' : TE} (h : PE X e t) (i : ∀ σ H Q, t' σ H Q → t σ H Q) : PE X e t' := ⟨fun pins s σ H Q I q => h.run pins s σ H Q I (i σ H Q q)⟩
theorem pt_imp {e : Expr} {t t' : TT} (h : PT X e t) (i : ∀ σ H Q, t' σ H Q → t σ H Q) : PT X e t' := ⟨fun pins s σ H Q I q => h.run pins s σ H Q I (i σ H Q q)⟩
theorem pw_imp {e : Expr} {t t' : TT} (h : PW X e t) (i : ∀ σ H Q, t' σ H Q → t σ H Q) : PW X e t' := ⟨fun wh pins s σ H Q I q => h.run wh pins s σ H Q I (i σ H Q q)⟩
theorem pa_imp {e : List Expr} {t t' : TA} (h : PA X e t) (i : ∀ σ H Q, t' σ H Q → t σ H Q) : PA X e t' := ⟨fun pos pins s σ H Q I q => h.run pos pins s σ H Q I (i σ H Q q)⟩
theorem ps_imp {st : Stmt} {t t' : TS} (h : PS X st t) (i : ∀ E σ H, t' E σ H → t E σ H) : PS X st t' := ⟨fun pins s σ H Q I q => h.run pins s σ H Q I (i Q σ H q)⟩
theorem pss_imp {st : List Stmt} {t t' : TS} (h : PSs X st t) (i : ∀ E σ H, t' E σ H → t E σ H) : PSs X st t' := ⟨fun pins s σ H Q I q => h.run pins s σ H Q I (i Q σ H q)⟩
theorem pe_or2 {e : Expr} {t t' : TE} (h : PE X e t) (h' : PE X e t') : PE X e (fun σ H Q => t σ H Q ∨ t' σ H Q) := ⟨fun pins s σ H Q I q => q.elim (h.run pins s σ H Q I) (h'.run pins s σ H Q I)⟩
end

section
variable {c : Cy} {W : WX} {σ : L2.St} {H : Hp} {α β : Type}
theorem RS.fin {O : List (Nat × Addr)} {ρ : Slots} {pt : Pot} (r : RS c O ρ σ H pt) : Fin c H pt := ⟨r.pot, fun a o n h m => r.ext a o n h m, r.hS⟩
theorem Wg.from {H1 : Hp} {P : α → Pot → Hp → Prop} {q : Pot} {r : Res α} (st : Stp c.T.tb c.p H H1 q) (h : Wg c W σ H P r) : Wg c W σ H1 P r := by
  cases r with
  | ok a pt => exact fun H' s => h H' (st.trans s)
  | exc e fs pt => exact fun cls dd H' s x => h cls dd H' (st.trans s) x
  | stuck => exact h
theorem Wg.bnd {P : β → Pot → Hp → Prop} {m : M α} {k : α → M β} {pt : Pot} (h : Wg c W σ H P (DF.bnd m k pt)) : Wg c W σ H (fun a q H' => Wg c W σ H' P (k a q)) (m pt) := by
  unfold DF.bnd at h
  cases e : m pt with
  | ok a q =>
    rw [e] at h
    exact fun H' st => Wg.from st h
  | exc _ _ _ =>
    rw [e] at h
    exact h
  | stuck =>
    rw [e] at h
    exact h
theorem Wg.imp {P P' : α → Pot → Hp → Prop} {r : Res α} (h : Wg c W σ H P r) (i : ∀ a q H', r = .ok a q → Stp c.T.tb c.p H H' q → P a q H' → P' a q H') : Wg c W σ H P' r := by
  cases r with
  | ok a pt => exact fun H' st => i a pt H' rfl st (h H' st)
  | exc e fs pt => exact h
  | stuck => exact h
/-- a value that is told at once -/
theorem Wg.here {P : α → Pot → Hp → Prop} {a : α} {q : Pot} (h : Wg c W σ H P (.ok a q)) (hp : Pots c.T.tb c.p H q) : P a q H := h H ⟨fun _ _ _ x _ => x, hp⟩
theorem Wg.opt {P : α → Pot → Hp → Prop} {o : Option α} {q : Pot} (h : Wg c W σ H P (DF.opt o q)) (hp : Pots c.T.tb c.p H q) : ∃ a, o = some a ∧ P a q H := by
  cases o with
  | none => exact h.elim
  | some a => exact ⟨a, rfl, Wg.here h hp⟩
end
end DF

set_option Elab.async false
set_option linter.all false
set_option maxRecDepth 100000
set_option maxHeartbeats 4000000
namespace DF
open PySem L2

section
variable {c : Cy} {W : WX} {σ : L2.St} {H H' : Hp} {O : List (Nat × Addr)} {ρ : Slots} {pt pt' : Pot} {a l : Addr} {o : HO} {v : V} {vs : List V} {d : D} {ds : List D}
theorem RS.hidden (r : RS c O ρ σ H pt) (h : a ∈ hid c O) : ∃ o, H a = some o ∧ mt o = true := by
  rcases List.mem_append.mp h with e | e
  · exact r.hS a e
  · obtain ⟨q, hq, e⟩ := List.mem_map.mp e
    obtain ⟨_, _, _, o, h, m⟩ := r.new q hq
    exact ⟨o, e ▸ h, m⟩
theorem RS.pm (r : RS c O ρ σ H pt) : c.p ∈ hid c O := List.mem_append_left _ r.hp
theorem RS.freshF (r : RS c O ρ σ H pt) (h : Hd [] H l = none) : l ∉ hid c O := fun q => by
  rcases List.mem_append.mp q with e | e
  · obtain ⟨o, h1, n⟩ := r.hS l e
    exact Hd.ne h1 (mt_nt n) h rfl
  · obtain ⟨q, hq, e⟩ := List.mem_map.mp e
    obtain ⟨_, _, _, o, h1, n⟩ := r.new q hq
    exact Hd.ne h1 (mt_nt n) h e
theorem RS.fresh (r : RS c O ρ σ H pt) (h : H l = none) : l ∉ hid c O := r.freshF (Hd.no h)
theorem Stp.refl {tb : List (Addr × Str)} {p : Addr} (h : Pots tb p H pt) : Stp tb p H H pt := ⟨fun _ _ _ x _ => x, h⟩
theorem Stp.gr_ {tb : List (Addr × Str)} {p : Addr} (h : Pots tb p H pt) (g : ∀ a o, H a = some o → H' a = some o) : Stp tb p H H' pt := ⟨fun b u _ e _ => g b u e, h.ext g⟩
theorem Stp.new {tb : List (Addr × Str)} {p : Addr} (h : Pots tb p H pt) (hl : H l = none) : Stp tb p H (upd H l o) pt :=
  Stp.gr_ h fun b u e => by rw [upd_ne (ne_of_none e hl)]; exact e
theorem Stp.newK {tb : List (Addr × Str)} {p : Addr} (s : Stp tb p H H' pt) (hl : H' l = none) : Stp tb p H (upd H' l o) pt := s.trans (Stp.new s.pot hl)
theorem Hd.new {S : List Addr} (hl : H l = none) : Gr (Hd S H) (Hd S (upd H l o)) := fun b u e => by
  obtain ⟨h1, h2, h3⟩ := Hd.sees e
  exact Hd.out h1 (by rw [upd_ne (ne_of_none h2 hl)]; exact h2) h3
theorem Hd.at_new {S : List Addr} (hs : l ∉ S) (n : nt o = true := by rfl) : Hd S (upd H l o) l = some o := Hd.out hs upd_same n
theorem RL.len : ∀ {K : PySem.W.Frag} {T : Tb} {p : Addr} {H : Hp} {ds : List D} {vs : List V}, RL K T p H ds vs → ds.length = vs.length
  | _, _, _, _, [], _, h => by simp only [RL] at h; subst h; rfl
  | _, _, _, _, d :: ds, _, h => by
    simp only [RL] at h
    obtain ⟨v, ws, rfl, _, h⟩ := h
    simp [RL.len h]
theorem RL.get : ∀ {K : PySem.W.Frag} {T : Tb} {p : Addr} {H : Hp} {ds : List D} {vs : List V} {i : Nat} {v : V}, RL K T p H ds vs → vs[i]? = some v → ∃ d, ds[i]? = some d ∧ R K T p H d v
  | _, _, _, _, [], _, _, _, h, e => by simp only [RL] at h; subst h; simp at e
  | _, _, _, _, d :: ds, _, i, v, h, e => by
    simp only [RL] at h
    obtain ⟨w, ws, rfl, r, h⟩ := h
    cases i with
    | zero => simp at e; subst e; exact ⟨d, rfl, r⟩
    | succ i => simp at e; obtain ⟨d', e', r'⟩ := RL.get h e; exact ⟨d', by simpa using e', r'⟩
theorem RL.getD : ∀ {K : PySem.W.Frag} {T : Tb} {p : Addr} {H : Hp} {ds : List D} {vs : List V} {i : Nat} {d : D}, RL K T p H ds vs → ds[i]? = some d → ∃ v, vs[i]? = some v ∧ R K T p H d v
  | _, _, _, _, [], _, _, _, h, e => by simp at e
  | _, _, _, _, d :: ds, _, i, d', h, e => by
    simp only [RL] at h
    obtain ⟨w, ws, rfl, r, h⟩ := h
    cases i with
    | zero => simp at e; subst e; exact ⟨w, rfl, r⟩
    | succ i => simp at e; obtain ⟨v', e', r'⟩ := RL.getD h e; exact ⟨v', by simpa using e', r'⟩
theorem RL.app : ∀ {K : PySem.W.Frag} {T : Tb} {p : Addr} {H : Hp} {ds es : List D} {vs ws : List V}, RL K T p H ds vs → RL K T p H es ws → RL K T p H (ds ++ es) (vs ++ ws)
  | _, _, _, _, [], _, _, _, h, h' => by simp only [RL] at h; subst h; simpa using h'
  | _, _, _, _, d :: ds, _, _, _, h, h' => by
    simp only [RL] at h
    obtain ⟨w, ws, rfl, r, h⟩ := h
    simp only [List.cons_append, RL]
    exact ⟨_, _, rfl, r, RL.app h h'⟩
theorem RL.take : ∀ {K : PySem.W.Frag} {T : Tb} {p : Addr} {H : Hp} {ds : List D} {vs : List V} (n : Nat), RL K T p H ds vs → RL K T p H (ds.take n) (vs.take n)
  | _, _, _, _, _, _, 0, _ => by simp [RL]
  | _, _, _, _, [], _, n + 1, h => by simp only [RL] at h; subst h; simp [RL]
  | _, _, _, _, d :: ds, _, n + 1, h => by
    simp only [RL] at h
    obtain ⟨w, ws, rfl, r, h⟩ := h
    simp only [List.take_succ_cons, RL]
    exact ⟨_, _, rfl, r, RL.take n h⟩
theorem RL.drop : ∀ {K : PySem.W.Frag} {T : Tb} {p : Addr} {H : Hp} {ds : List D} {vs : List V} (n : Nat), RL K T p H ds vs → RL K T p H (ds.drop n) (vs.drop n)
  | _, _, _, _, _, _, 0, h => by simpa using h
  | _, _, _, _, [], _, n + 1, h => by simp only [RL] at h; subst h; simp [RL]
  | _, _, _, _, d :: ds, _, n + 1, h => by
    simp only [RL] at h
    obtain ⟨w, ws, rfl, r, h⟩ := h
    simpa using RL.drop n h
theorem RL.set : ∀ {K : PySem.W.Frag} {T : Tb} {p : Addr} {H : Hp} {ds : List D} {vs : List V} {d : D} {v : V} (n : Nat), RL K T p H ds vs → R K T p H d v → RL K T p H (ds.set n d) (vs.set n v)
  | _, _, _, _, [], _, _, _, n, h, _ => by simp only [RL] at h; subst h; simp [RL]
  | _, _, _, _, d :: ds, _, _, _, 0, h, q => by
    simp only [RL] at h
    obtain ⟨w, ws, rfl, r, h⟩ := h
    simp only [List.set_cons_zero, RL]
    exact ⟨_, _, rfl, q, h⟩
  | _, _, _, _, d :: ds, _, _, _, n + 1, h, q => by
    simp only [RL] at h
    obtain ⟨w, ws, rfl, r, h⟩ := h
    simp only [List.set_cons_succ, RL]
    exact ⟨_, _, rfl, r, RL.set n h q⟩
theorem RL.rev {K : PySem.W.Frag} {T : Tb} {p : Addr} {H : Hp} : ∀ {ds : List D} {vs : List V}, RL K T p H ds vs → RL K T p H ds.reverse vs.reverse
  | [], _, h => by simp only [RL] at h; subst h; simp [RL]
  | d :: ds, _, h => by
    simp only [RL] at h
    obtain ⟨w, ws, rfl, r, h⟩ := h
    rw [List.reverse_cons, List.reverse_cons]
    exact RL.app (RL.rev h) (by simp only [RL]; exact ⟨_, _, rfl, r, rfl⟩)
theorem RL.nil {K : PySem.W.Frag} {T : Tb} {p : Addr} {H : Hp} : RL K T p H [] [] := by simp [RL]
theorem RL.cons {K : PySem.W.Frag} {T : Tb} {p : Addr} {H : Hp} (h : R K T p H d v) (hs : RL K T p H ds vs) : RL K T p H (d :: ds) (v :: vs) := by
  simp only [RL]
  exact ⟨_, _, rfl, h, hs⟩
theorem RL.one {K : PySem.W.Frag} {T : Tb} {p : Addr} {H : Hp} (h : R K T p H d v) : RL K T p H [d] [v] := RL.cons h RL.nil
theorem mk_lst (r : RS c O ρ σ H pt) (hl : H l = none) (h : c.RL (Hd (hid c O) H) ds vs) : c.R (Hd (hid c O) (upd H l (.lst vs))) (.lst ds) (.ref l) := by
  simp only [Cy.R, R]
  exact ⟨l, vs, rfl, Hd.at_new (r.fresh hl), RL.gr (Hd.new hl) h⟩
theorem mk_tup (r : RS c O ρ σ H pt) (hl : H l = none) (h : c.RL (Hd (hid c O) H) ds vs) : c.R (Hd (hid c O) (upd H l (.tup vs))) (.tup ds) (.ref l) := by
  simp only [Cy.R, R]
  exact ⟨l, vs, rfl, .inl (.inl (Hd.at_new (r.fresh hl))), RL.gr (Hd.new hl) h⟩

theorem RB.of (h : c.R (Hd (hid c O) H) d v) : RB c O H d v := .inl h
theorem RB.int {i : Int} (h : RB c O H (.int i) v) : v = .int i := by
  rcases h with h | ⟨_, _, _, _, e, _⟩ | ⟨_, _, _, _, e, _⟩
  · simpa [Cy.R, R] using h
  · cases e
  · cases e
theorem RB.str {i : Str} (h : RB c O H (.str i) v) : v = .str i := by
  rcases h with h | ⟨_, _, _, _, e, _⟩ | ⟨_, _, _, _, e, _⟩
  · simpa [Cy.R, R] using h
  · cases e
  · cases e
theorem RB.bl {i : Bool} (h : RB c O H (.bl i) v) : v = .bl i := by
  rcases h with h | ⟨_, _, _, _, e, _⟩ | ⟨_, _, _, _, e, _⟩
  · simpa [Cy.R, R] using h
  · cases e
  · cases e
theorem RB.non (h : RB c O H .non v) : v = .non := by
  rcases h with h | ⟨_, _, _, _, e, _⟩ | ⟨_, _, _, _, e, _⟩
  · simpa [Cy.R, R] using h
  · cases e
  · cases e
theorem RB.lst (h : RB c O H (.lst ds) v) : ∃ a vs, v = .ref a ∧ H a = some (.lst vs) ∧ c.RL (Hd (hid c O) H) ds vs := by
  rcases h with h | ⟨_, a, _, vs, e, ev, _, ha, rl⟩ | ⟨_, _, _, _, e, _⟩
  · simp only [Cy.R, R] at h
    obtain ⟨a, vs, e, s, r⟩ := h
    exact ⟨a, vs, e, Hd.le _ _ s, r⟩
  · cases e
    exact ⟨a, vs, ev, ha, rl⟩
  · cases e
theorem RB.tup (h : RB c O H (.tup ds) v) : ∃ a vs, v = .ref a ∧ SqT c.K H a vs ∧ c.RL (Hd (hid c O) H) ds vs := by
  rcases h with h | ⟨_, _, _, _, e, _⟩ | ⟨_, _, _, _, e, _⟩
  · simp only [Cy.R, R] at h
    obtain ⟨a, vs, e, s, r⟩ := h
    exact ⟨a, vs, e, Hd.le.sqt s, r⟩
  · cases e
  · cases e
theorem RB.dct {kvs : List (Key × D)} (h : RB c O H (.dct kvs) v) : ∃ a vs, v = .ref a ∧ H a = some (.dK vs) ∧ RK c.K c.T c.p (Hd (hid c O) H) kvs vs := by
  rcases h with h | ⟨_, _, _, _, e, _⟩ | ⟨_, a, _, vs, e, ev, _, ha, rl⟩
  · simp only [Cy.R, R] at h
    obtain ⟨a, vs, e, s, r⟩ := h
    exact ⟨a, vs, e, Hd.le _ _ s, r⟩
  · cases e
  · cases e
    exact ⟨a, vs, ev, ha, rl⟩
theorem RB.obj {k : Nat} {fs : List D} (h : RB c O H (.obj k fs) v) : c.R (Hd (hid c O) H) (.obj k fs) v := by
  rcases h with h | ⟨_, _, _, _, e, _⟩ | ⟨_, _, _, _, e, _⟩
  · exact h
  · cases e
  · cases e
theorem RB.stp (r : RS c O ρ σ H pt) (st : Stp c.T.tb c.p H H' pt') (h : RB c O H d v) : RB c O H' d v := by
  have g : Gr (Hd (hid c O) H) (Hd (hid c O) H') := st.gr r.pm
  rcases h with h | ⟨i, a, ds, vs, e, ev, m, ha, rl⟩ | ⟨i, a, ds, vs, e, ev, m, ha, rl⟩
  · exact .inl (R.gr g h)
  · exact .inr (.inl ⟨i, a, ds, vs, e, ev, m, st.keep _ _ (r.new _ m).2.1 ha, RL.gr g rl⟩)
  · exact .inr (.inr ⟨i, a, ds, vs, e, ev, m, st.keep _ _ (r.new _ m).2.1 ha, RK.gr g rl⟩)
end

/-! ### names, constants -/
section
variable {X : Cx} {c : Cy} {W : WX}
def valOf : Option (Option SV) → Option D
  | some (some (.val d)) => some d
  | _ => none
def bvalOf : Option (Option SV) → Option D
  | some (some (.val d)) => some d
  | some (some (.own ds)) => some (.lst ds)
  | some (some (.ownd ds)) => some (.dct ds)
  | _ => none
def varE (i : Nat) : Slots → M D := fun ρ => opt (valOf ρ[i]?)
def bvarE (i : Nat) : Slots → M D := fun ρ => opt (bvalOf ρ[i]?)
theorem valOf_some {x : Option (Option SV)} {d : D} (h : valOf x = some d) : x = some (some (.val d)) := by
  unfold valOf at h
  split at h
  · cases h; rfl
  · cases h
theorem de_var {x : Str} {pos : Pos} (i : Nat) (hN : X.N[i]? = some x := by rfl) (hv : Vis X.env.scope x := by first | exact Or.inl rfl | exact Or.inr (Or.inl rfl) | exact Or.inr (Or.inr rfl)) (hd : (x == ("__debug__" : Str)) = false := by decide)
    (hcd : (x == ("__classdict__" : Str)) = false := by decide) : PE X (.Name x pos) (dE c W (varE i)) := by
  refine pe_imp (pe_var hN hv hd hcd) fun σ H Q ⟨O, ρ, pt, r, h⟩ => ?_
  obtain ⟨d, e, h⟩ := Wg.opt h r.pot
  obtain ⟨v, ev, rv⟩ := r.sl i _ (valOf_some e)
  exact ⟨v, ev, h v rv⟩
theorem db_var {x : Str} {pos : Pos} (i : Nat) (hN : X.N[i]? = some x := by rfl) (hv : Vis X.env.scope x := by first | exact Or.inl rfl | exact Or.inr (Or.inl rfl) | exact Or.inr (Or.inr rfl)) (hd : (x == ("__debug__" : Str)) = false := by decide)
    (hcd : (x == ("__classdict__" : Str)) = false := by decide) : PE X (.Name x pos) (dB c W (bvarE i)) := by
  refine pe_imp (pe_var hN hv hd hcd) fun σ H Q ⟨O, ρ, pt, r, h⟩ => ?_
  obtain ⟨d, e, h⟩ := Wg.opt h r.pot
  unfold bvalOf at e
  split at e
  · rename_i d1 e1
    cases e
    obtain ⟨v, ev, rv⟩ := r.sl i _ e1
    exact ⟨v, ev, h v (.inl rv)⟩
  · rename_i d1 e1
    cases e
    obtain ⟨a, vs, m, ev, ha, rl⟩ := r.sl i _ e1
    exact ⟨_, ev, h _ (.inr (.inl ⟨i, a, d1, vs, rfl, rfl, m, ha, rl⟩))⟩
  · rename_i d1 e1
    cases e
    obtain ⟨a, vs, m, ev, ha, rl⟩ := r.sl i _ e1
    exact ⟨_, ev, h _ (.inr (.inr ⟨i, a, d1, vs, rfl, rfl, m, ha, rl⟩))⟩
  · cases e
/-- what is kept may be looked at -/
theorem db_of {e : Expr} {f : Slots → M D} (h : PE X e (dE c W f)) : PE X e (dB c W f) :=
  pe_imp h fun σ H Q ⟨O, ρ, pt, r, q⟩ => ⟨O, ρ, pt, r, q.imp fun _ _ _ _ _ q v rv => q v (.inl rv)⟩
def cE (d : D) : Slots → M D := fun _ => ret d
theorem de_c {e : Expr} {v : V} {d : D} (h : PE X e (tC v)) (r : ∀ H, c.R H d v) : PE X e (dE c W (cE d)) :=
  pe_imp h fun σ H Q ⟨O, ρ, pt, rs, q⟩ => Wg.here q rs.pot v (r _)
theorem de_int {i j pos} : PE X (.Constant (.int i) j pos) (dE c W (cE (.int i))) := de_c pe_int fun H => by simp [Cy.R, R]
theorem de_bl {b j pos} : PE X (.Constant (.bool b) j pos) (dE c W (cE (.bl b))) := de_c pe_bl fun H => by simp [Cy.R, R]
theorem de_non {j pos} : PE X (.Constant .none j pos) (dE c W (cE .non)) := de_c pe_non fun H => by simp [Cy.R, R]
theorem de_str {x j pos} : PE X (.Constant (.str x) j pos) (dE c W (cE (.str x))) := de_c pe_str fun H => by simp [Cy.R, R]

/-! ### argument lists, displays -/
def nilA : Slots → M (List D) := fun _ => ret []
def consA (f : Slots → M D) (g : Slots → M (List D)) : Slots → M (List D) := fun ρ => bnd (f ρ) fun d => bnd (g ρ) fun ds => ret (d :: ds)
theorem da_nil : PA X [] (dA c W nilA) := pa_imp pa_nil fun σ H Q ⟨O, ρ, pt, rs, q⟩ => Wg.here q rs.pot [] RL.nil
theorem da_cons {e : Expr} {es : List Expr} {f : Slots → M D} {g : Slots → M (List D)} (h : PE X e (dE c W f)) (hs : PA X es (dA c W g)) (hst : starEach (e :: es) X.env = (false, eval e X.env) :: starEach es X.env := by rfl) :
    PA X (e :: es) (dA c W (consA f g)) := by
  refine pa_imp (pa_cons h hs hst) fun σ H Q ⟨O, ρ, pt, r, q⟩ => ?_
  refine ⟨O, ρ, pt, r, (Wg.bnd q).imp fun d p1 H1 _ s1 q v rv => ?_⟩
  refine ⟨O, ρ, p1, r.stp s1, (Wg.bnd q).imp fun ds p2 H2 _ s2 q vs rvs => ?_⟩
  have r2 := (r.stp s1).stp s2
  exact Wg.here q r2.pot _ (RL.cons (R.gr (s2.gr r.pm) rv) rvs)
def tupE (g : Slots → M (List D)) : Slots → M D := fun ρ => bnd (g ρ) fun ds => if ds.length ≤ 100000 then ret (.tup ds) else fail
def lenA (g : Slots → M (List D)) : Slots → M (List D) := fun ρ => bnd (g ρ) fun ds => if ds.length ≤ 100000 then ret ds else fail
theorem sz5 {n : Nat} (h : n ≤ 100000) : n ≤ sizeLine := Nat.le_trans h (by decide)
theorem de_tup {es : List Expr} {g : Slots → M (List D)} {k : Nat} {pos : Pos} (h : PA X es (dA c W g)) : PE X (.Tuple es k pos) (dE c W (tupE g)) := by
  refine pe_imp (pe_tup h) fun σ H Q ⟨O, ρ, pt, r, q⟩ => ?_
  refine ⟨O, ρ, pt, r, (Wg.bnd q).imp fun ds p1 H1 _ s1 q vs rvs => ?_⟩
  by_cases hz : ds.length ≤ 100000
  · rw [if_pos hz] at q
    refine ⟨sz5 (by rw [← RL.len rvs]; exact hz), fun l hl => q _ (Stp.new s1.pot hl) _ (mk_tup (r.stp s1) hl rvs)⟩
  · rw [if_neg hz] at q
    exact q.elim
def boxE (f : Slots → M (List D)) : Slots → M D := fun ρ => bnd (f ρ) fun ds => ret (.lst ds)
theorem de_box {e : Expr} {f : Slots → M (List D)} (h : PE X e (dL c W f)) : PE X e (dE c W (boxE f)) := by
  refine pe_imp h fun σ H Q ⟨O, ρ, pt, r, q⟩ => ⟨O, ρ, pt, r, (Wg.bnd q).imp fun ds p1 H1 _ s1 q l vs hl h1 rl => ?_⟩
  refine Wg.here q s1.pot _ ?_
  simp only [Cy.R, R]
  refine ⟨l, vs, rfl, ?_, RL.gr (Hd.sub fun a h => List.mem_cons_of_mem _ h) rl⟩
  exact Hd.out (r.freshF hl) h1
/-- a new list from its items -/
theorem new_lst {σ : L2.St} {O : List (Nat × Addr)} {ρ : Slots} {pt p1 : Pot} {H H1 : Hp} {ds : List D} {vs : List V} {l : Addr} {Q : VK} (r : RS c O ρ σ H pt) (s1 : Stp c.T.tb c.p H H1 p1) (rl : c.RL (Hd (hid c O) H1) ds vs) (hl : H1 l = none)
    (q : ∀ H', Stp c.T.tb c.p H1 H' p1 → ∀ l vs, Hd [] H l = none → H' l = some (.lst vs) → c.RL (Hd (l :: hid c O) H') ds vs → Q (.ref l) H') : Q (.ref l) (upd H1 l (.lst vs)) := by
  have h0 : Hd [] H l = none := by
    cases e : Hd [] H l with
    | none => rfl
    | some o =>
      obtain ⟨_, e, n⟩ := Hd.sees e
      by_cases el : l = c.p
      · rw [el, s1.pot.at_] at hl; cases hl
      · rw [s1.keep l o el e n] at hl; cases hl
  refine q _ (Stp.new s1.pot hl) l vs h0 upd_same (RL.gr (fun a o h => ?_) rl)
  obtain ⟨h1, h2, h3⟩ := Hd.sees h
  have na : a ≠ l := ne_of_none h2 hl
  exact Hd.out (fun q => (List.mem_cons.mp q).elim na h1) (by rw [upd_ne na]; exact h2) h3
theorem dl_lst {es : List Expr} {g : Slots → M (List D)} {pos : Pos} (h : PA X es (dA c W g)) : PE X (.List es pos) (dL c W (lenA g)) := by
  refine pe_imp (pe_lst h) fun σ H Q ⟨O, ρ, pt, r, q⟩ => ?_
  refine ⟨O, ρ, pt, r, (Wg.bnd q).imp fun ds p1 H1 _ s1 q vs rvs => ?_⟩
  by_cases hz : ds.length ≤ 100000
  · rw [if_pos hz] at q
    exact ⟨sz5 (by rw [← RL.len rvs]; exact hz), fun l hl => new_lst r s1 rvs hl q⟩
  · rw [if_neg hz] at q
    exact q.elim

/-! ### operators -/
/-- an operation on two values, its wishes at the slots -/
def OpS (X : Cx) (f : Value → Value → Sem Value) (r : L2.St → R2) : Prop := ∀ (pins : List (Addr × Obj)) (s : Shared) (σ : L2.St) (H : Hp) (x y : V) (v u : Value) (Q : VK),
  Inv X pins σ H s → RelV x v → RelV y u → r σ x y H Q → wpAny (model X.prog X.w) X.A (f v u) (EP X pins σ Q) X.xe s
theorem ops_of {f : Value → Value → Sem Value} {r : R2} (h : OpR X f r) : OpS X f fun _ => r := fun pins s σ H x y v u Q => h pins s σ H x y v u Q
theorem OpS.or {f : Value → Value → Sem Value} {r r' : L2.St → R2} (h : OpS X f r) (h' : OpS X f r') : OpS X f (fun σ x y H Q => r σ x y H Q ∨ r' σ x y H Q) := fun pins s σ H x y v u Q I rx ry q =>
  q.elim (h pins s σ H x y v u Q I rx ry) (h' pins s σ H x y v u Q I rx ry)
/-- what an operator's rule r says, as a function of data -/
def OpD (X : Cx) (c : Cy) (W : WX) (f : Value → Value → Sem Value) (g : D → D → M D) : Prop := ∃ r : L2.St → R2, OpS X f r ∧
  ∀ (σ : L2.St) (O : List (Nat × Addr)) (ρ : Slots) (pt : Pot) (H : Hp) (Q : VK) (x y : D) (v w : V), RS c O ρ σ H pt → RB c O H x v → RB c O H y w →
    Wg c W σ H (fun d _ H' => ∀ v, c.R (Hd (hid c O) H') d v → Q v H') (g x y pt) → r σ v w H Q
def binE (g : D → D → M D) (fa fb : Slots → M D) : Slots → M D := fun ρ => bnd (fa ρ) fun x => bnd (fb ρ) fun y => g x y
theorem OpD.use {f : Value → Value → Sem Value} {g : D → D → M D} {fa fb : Slots → M D} (o : OpD X c W f g) : ∃ r : L2.St → R2, OpS X f r ∧ ∀ σ H Q, dE c W (binE g fa fb) σ H Q → dB c W fa σ H fun x H1 => dB c W fb σ H1 fun y H2 => r σ x y H2 Q := by
  obtain ⟨r, h1, h2⟩ := o
  refine ⟨r, h1, fun σ H Q ⟨O, ρ, pt, rs, q⟩ => ?_⟩
  refine ⟨O, ρ, pt, rs, (Wg.bnd q).imp fun x p1 H1 _ s1 q v rv => ?_⟩
  have rs1 := rs.stp s1
  refine ⟨O, ρ, p1, rs1, (Wg.bnd q).imp fun y p2 H2 _ s2 q w rw => ?_⟩
  exact h2 σ O ρ p2 H2 Q x y v w (rs1.stp s2) (rv.stp rs1 s2) rw q
theorem de_op {op : Operator} {g : D → D → M D} {a b : Expr} {fa fb : Slots → M D} {pos : Pos} (o : OpD X c W (binaryOp op) g) (ha : PE X a (dB c W fa)) (hb : PE X b (dB c W fb)) : PE X (.BinOp a op b pos) (dE c W (binE g fa fb)) := by
  obtain ⟨r, h1, h2⟩ := OpD.use (fa := fa) (fb := fb) o
  exact ⟨fun pins s σ H Q I h => wpAny_BinOp (binT ha hb I (h2 σ H Q h) fun v u s2 x y H2 I2 rx ry q => h1 pins s2 σ H2 x y v u Q I2 rx ry q)⟩
theorem de_cmp {op : CmpOp} {g : D → D → M D} {a b : Expr} {fa fb : Slots → M D} {pos : Pos} (o : OpD X c W (compareOp op) g) (ha : PE X a (dB c W fa)) (hb : PE X b (dB c W fb)) (hm : behindInMarks op b = false := by first | exact nomark _ | rfl) : PE X (.Compare a [op] [b] pos) (dE c W (binE g fa fb)) := by
  obtain ⟨r, h1, h2⟩ := OpD.use (fa := fa) (fb := fb) o
  exact ⟨fun pins s σ H Q I h => wpAny_Compare1 (binT ha hb I (h2 σ H Q h) fun v u s2 x y H2 I2 rx ry q => h1 pins s2 σ H2 x y v u Q I2 rx ry q) hm⟩
def asB : D → M Bool
  | .bl b => ret b
  | _ => fail
def testE (f : Slots → M D) : Slots → M Bool := fun ρ => bnd (f ρ) asB
theorem asB_ok {σ : L2.St} {H : Hp} {pt : Pot} {P : Bool → Pot → Hp → Prop} {d : D} (h : Wg c W σ H P (asB d pt)) (hp : Pots c.T.tb c.p H pt) : ∃ b, d = .bl b ∧ P b pt H := by
  unfold asB at h
  split at h
  · exact ⟨_, rfl, Wg.here h hp⟩
  · exact h.elim
theorem dt_cmp {op : CmpOp} {g : D → D → M D} {a b : Expr} {fa fb : Slots → M D} {pos : Pos} (o : OpD X c W (compareOp op) g) (ha : PE X a (dB c W fa)) (hb : PE X b (dB c W fb)) (hm : behindInMarks op b = false := by first | exact nomark _ | rfl) : PT X (.Compare a [op] [b] pos) (dT c W (testE (binE g fa fb))) := by
  obtain ⟨r, h1, h2⟩ := OpD.use (fa := fa) (fb := fb) o
  refine ⟨fun pins s σ H Q I ⟨O, ρ, pt, rs, q⟩ => ?_⟩
  have q1 : dE c W (binE g fa fb) σ H (fun x H' => ∃ k, x = .bl k ∧ Q k H') := ⟨O, ρ, pt, rs, (Wg.bnd q).imp fun d p1 H1 _ s1 q v rv => by
    obtain ⟨b, ed, q2⟩ := asB_ok q s1.pot
    subst ed
    exact ⟨b, by simpa [Cy.R, R] using rv, q2⟩⟩
  refine wpAny_isTrue_Compare1 (thn (ha.run pins s σ H _ I (h2 σ H _ q1)) fun v s1 ⟨x, H1, I1, r1, q1⟩ => thn (hb.run pins s1 σ H1 _ I1 q1) fun u s2 ⟨y, H2, I2, r2, q2⟩ => thn (h1 pins s2 σ H2 x y v u _ I2 r1 r2 q2) fun z s3 ⟨t, H3, I3, r3, k, e, q3⟩ => ?_) hm
  subst e
  cases r3
  exact wpAny_truthy_bool ⟨H3, I3, q3⟩
/-- any expression whose value is True or False, as a test -/
theorem dt_val {e : Expr} {f : Slots → M D} (h : PE X e (dE c W f)) (he : ∀ whole, isTrue e X.env whole = (do let v ← whole; standAt e.pos; holding [v] (truthy v)) := by intro _; rfl) : PT X e (dT c W (testE f)) := by
  refine pt_imp (pt_val h he) fun σ H Q ⟨O, ρ, pt, rs, q⟩ => ?_
  refine ⟨O, ρ, pt, rs, (Wg.bnd q).imp fun d p1 H1 _ s1 q v rv => ?_⟩
  obtain ⟨b, ed, q2⟩ := asB_ok q s1.pot
  clear q
  subst ed
  have q := q2
  exact ⟨b, by simpa [Cy.R, R] using rv, q⟩

/-! ### and, or, not, if else -/
def andT (f g : Slots → M Bool) : Slots → M Bool := fun ρ => bnd (f ρ) fun b => if b then g ρ else ret false
def orT (f g : Slots → M Bool) : Slots → M Bool := fun ρ => bnd (f ρ) fun b => if b then ret true else g ρ
def notT (f : Slots → M Bool) : Slots → M Bool := fun ρ => bnd (f ρ) fun b => ret (!b)
theorem dw_and1 {a : Expr} {pos : Pos} {f : Slots → M Bool} (h : PT X a (dT c W f)) : PW X (.BoolOp .And [a] pos) (dT c W f) := pw_and1 h
theorem dw_or1 {a : Expr} {pos : Pos} {f : Slots → M Bool} (h : PT X a (dT c W f)) : PW X (.BoolOp .Or [a] pos) (dT c W f) := pw_or1 h
theorem dw_and {a b : Expr} {rest : List Expr} {pos : Pos} {f g : Slots → M Bool} (ha : PT X a (dT c W f)) (hb : PW X (.BoolOp .And (b :: rest) pos) (dT c W g)) : PW X (.BoolOp .And (a :: b :: rest) pos) (dT c W (andT f g)) := by
  refine pw_imp (pw_and ha hb) fun σ H Q ⟨O, ρ, pt, rs, q⟩ => ?_
  refine ⟨O, ρ, pt, rs, (Wg.bnd q).imp fun b p1 H1 _ s1 q => ?_⟩
  cases b with
  | true => exact ⟨O, ρ, p1, rs.stp s1, q⟩
  | false => exact Wg.here q s1.pot
theorem dw_or {a b : Expr} {rest : List Expr} {pos : Pos} {f g : Slots → M Bool} (ha : PT X a (dT c W f)) (hb : PW X (.BoolOp .Or (b :: rest) pos) (dT c W g)) : PW X (.BoolOp .Or (a :: b :: rest) pos) (dT c W (orT f g)) := by
  refine pw_imp (pw_or ha hb) fun σ H Q ⟨O, ρ, pt, rs, q⟩ => ?_
  refine ⟨O, ρ, pt, rs, (Wg.bnd q).imp fun b p1 H1 _ s1 q => ?_⟩
  cases b with
  | false => exact ⟨O, ρ, p1, rs.stp s1, q⟩
  | true => exact Wg.here q s1.pot
theorem dt_not {a : Expr} {pos : Pos} {f : Slots → M Bool} (h : PT X a (dT c W f)) : PT X (.UnaryOp .Not a pos) (dT c W (notT f)) := by
  refine pt_imp (pt_not h) fun σ H Q ⟨O, ρ, pt, rs, q⟩ => ?_
  exact ⟨O, ρ, pt, rs, (Wg.bnd q).imp fun b p1 H1 _ s1 q => Wg.here q s1.pot⟩
def andE (f g : Slots → M D) : Slots → M D := fun ρ => bnd (bnd (f ρ) asB) fun b => if b then g ρ else ret (.bl false)
def orE (f g : Slots → M D) : Slots → M D := fun ρ => bnd (bnd (f ρ) asB) fun b => if b then ret (.bl true) else g ρ
def notE (f : Slots → M D) : Slots → M D := fun ρ => bnd (bnd (f ρ) asB) fun b => ret (.bl (!b))
theorem de_one {op} {a : Expr} {pos : Pos} {f : Slots → M D} (h : PE X a (dE c W f)) : PE X (.BoolOp op [a] pos) (dE c W f) := pe_one h
theorem de_and {a b : Expr} {rest : List Expr} {pos : Pos} {f g : Slots → M D} (ha : PE X a (dE c W f)) (hb : PE X (.BoolOp .And (b :: rest) pos) (dE c W g)) : PE X (.BoolOp .And (a :: b :: rest) pos) (dE c W (andE f g)) := by
  refine pe_imp (pe_and ha hb) fun σ H Q ⟨O, ρ, pt, rs, q⟩ => ?_
  refine ⟨O, ρ, pt, rs, (Wg.bnd (Wg.bnd q)).imp fun d p1 H1 _ s1 q v rv => ?_⟩
  obtain ⟨b, ed, q2⟩ := asB_ok q s1.pot
  clear q
  subst ed
  have q := q2
  refine ⟨b, by simpa [Cy.R, R] using rv, ?_⟩
  cases b with
  | true => exact ⟨O, ρ, p1, rs.stp s1, q⟩
  | false => exact Wg.here q s1.pot _ (by simp [Cy.R, R])
theorem de_or {a b : Expr} {rest : List Expr} {pos : Pos} {f g : Slots → M D} (ha : PE X a (dE c W f)) (hb : PE X (.BoolOp .Or (b :: rest) pos) (dE c W g)) : PE X (.BoolOp .Or (a :: b :: rest) pos) (dE c W (orE f g)) := by
  refine pe_imp (pe_or ha hb) fun σ H Q ⟨O, ρ, pt, rs, q⟩ => ?_
  refine ⟨O, ρ, pt, rs, (Wg.bnd (Wg.bnd q)).imp fun d p1 H1 _ s1 q v rv => ?_⟩
  obtain ⟨b, ed, q2⟩ := asB_ok q s1.pot
  clear q
  subst ed
  have q := q2
  refine ⟨b, by simpa [Cy.R, R] using rv, ?_⟩
  cases b with
  | false => exact ⟨O, ρ, p1, rs.stp s1, q⟩
  | true => exact Wg.here q s1.pot _ (by simp [Cy.R, R])
theorem de_not {a : Expr} {pos : Pos} {f : Slots → M D} (h : PE X a (dE c W f)) : PE X (.UnaryOp .Not a pos) (dE c W (notE f)) := by
  refine pe_imp (pe_not h) fun σ H Q ⟨O, ρ, pt, rs, q⟩ => ?_
  refine ⟨O, ρ, pt, rs, (Wg.bnd (Wg.bnd q)).imp fun d p1 H1 _ s1 q v rv => ?_⟩
  obtain ⟨b, ed, q2⟩ := asB_ok q s1.pot
  clear q
  subst ed
  have q := q2
  exact ⟨b, by simpa [Cy.R, R] using rv, Wg.here q s1.pot _ (by simp [Cy.R, R])⟩
def ifE (t : Slots → M Bool) (f g : Slots → M D) : Slots → M D := fun ρ => bnd (t ρ) fun b => if b then f ρ else g ρ
theorem de_if {t a b : Expr} {pos : Pos} {ft : Slots → M Bool} {f g : Slots → M D} (ht : PT X t (dT c W ft)) (ha : PE X a (dE c W f)) (hb : PE X b (dE c W g)) : PE X (.IfExp t a b pos) (dE c W (ifE ft f g)) := by
  refine pe_imp (pe_ifExp ht ha hb) fun σ H Q ⟨O, ρ, pt, rs, q⟩ => ?_
  refine ⟨O, ρ, pt, rs, (Wg.bnd q).imp fun b p1 H1 _ s1 q => ?_⟩
  cases b with
  | true => exact ⟨O, ρ, p1, rs.stp s1, q⟩
  | false => exact ⟨O, ρ, p1, rs.stp s1, q⟩
end
end DF

set_option Elab.async false
set_option linter.all false
set_option maxRecDepth 100000
set_option maxHeartbeats 4000000
namespace DF
open PySem L2
section
variable {X : Cx} {c : Cy} {W : WX}
/-! ### operators without effects -/
def pu (g : D → D → Option D) : D → D → M D := fun x y => opt (g x y)
theorem opd_pu {f : Value → Value → Sem Value} {g : D → D → Option D} {r : R2} (h : OpR X f r)
    (ok : ∀ (O : List (Nat × Addr)) (H : Hp) (x y z : D) (v w : V) (Q : VK), RB c O H x v → RB c O H y w → g x y = some z → (∀ v', c.R (Hd (hid c O) H) z v' → Q v' H) → r v w H Q) : OpD X c W f (pu g) :=
  ⟨fun _ => r, ops_of h, fun σ O ρ pt H Q x y v w rs rx ry q => by
    obtain ⟨z, e, q⟩ := Wg.opt q rs.pot
    exact ok O H x y z v w Q rx ry e q⟩
def orM (g h : D → D → M D) : D → D → M D := fun x y pt => match g x y pt with
  | .stuck => h x y pt
  | r => r
theorem OpD.or {f : Value → Value → Sem Value} {g h : D → D → M D} (a : OpD X c W f g) (b : OpD X c W f h) : OpD X c W f (orM g h) := by
  obtain ⟨r, r1, r2⟩ := a
  obtain ⟨r', r1', r2'⟩ := b
  refine ⟨_, r1.or r1', fun σ O ρ pt H Q x y v w rs rx ry q => ?_⟩
  unfold orM at q
  cases e : g x y pt with
  | stuck =>
    rw [e] at q
    exact .inr (r2' σ O ρ pt H Q x y v w rs rx ry q)
  | ok d p =>
    rw [e] at q
    exact .inl (r2 σ O ρ pt H Q x y v w rs rx ry (by rw [e]; exact q))
  | exc k fs p =>
    rw [e] at q
    exact .inl (r2 σ O ρ pt H Q x y v w rs rx ry (by rw [e]; exact q))
def iop (g : Int → Int → Int) : D → D → Option D
  | .int i, .int j => some (.int (g i j))
  | _, _ => none
theorem opd_iop {f : Value → Value → Sem Value} {g : Int → Int → Int} (h : OpR X f (rI0 fun i j => .int (g i j))) : OpD X c W f (pu (iop g)) := opd_pu h fun O H x y z v w Q rx ry e q => by
  unfold iop at e
  split at e
  · cases e
    exact ⟨_, _, rx.int, ry.int, q _ (by simp [Cy.R, R])⟩
  · cases e
def iopC (C : Int → Int → Bool) (g : Int → Int → Int) : D → D → Option D
  | .int i, .int j => if C i j then some (.int (g i j)) else none
  | _, _ => none
theorem opd_iopC {f : Value → Value → Sem Value} {P : Int → Int → Prop} {C : Int → Int → Bool} {g : Int → Int → Int} (h : OpR X f (rI P fun i j => .int (g i j))) (hC : ∀ i j, C i j = true → P i j) : OpD X c W f (pu (iopC C g)) := opd_pu h fun O H x y z v w Q rx ry e q => by
  unfold iopC at e
  split at e
  · split at e
    · rename_i hc
      cases e
      exact ⟨_, _, rx.int, ry.int, hC _ _ hc, q _ (by simp [Cy.R, R])⟩
    · cases e
  · cases e
def icmp (g : Int → Int → Bool) : D → D → Option D
  | .int i, .int j => some (.bl (g i j))
  | _, _ => none
theorem opd_icmp {f : Value → Value → Sem Value} {g : Int → Int → Bool} (h : OpR X f (rI0 fun i j => .bl (g i j))) : OpD X c W f (pu (icmp g)) := opd_pu h fun O H x y z v w Q rx ry e q => by
  unfold icmp at e
  split at e
  · cases e
    exact ⟨_, _, rx.int, ry.int, q _ (by simp [Cy.R, R])⟩
  · cases e
def sAdd : D → D → Option D
  | .str a, .str b => if a.length + b.length ≤ 1000000 then some (.str (a ++ b)) else none
  | _, _ => none
theorem od_sAdd : OpD X c W (binaryOp .Add) (pu sAdd) := opd_pu op_add_str fun O H x y z v w Q rx ry e q => by
  unfold sAdd at e
  split at e
  · split at e
    · rename_i hc
      cases e
      exact ⟨_, _, rx.str, ry.str, Nat.le_trans hc (by decide), q _ (by simp [Cy.R, R])⟩
    · cases e
  · cases e
abbrev iAdd := iop (· + ·)
abbrev iSub := iop (· - ·)
abbrev iMul := iopC (fun i j => decide (i.natAbs.log2 + j.natAbs.log2 < 1000000)) (· * ·)
abbrev iDiv := iopC (fun _ j => decide (0 < j) && decide (j.natAbs.log2 < 9000)) (· / ·)
abbrev iMod := iopC (fun _ j => decide (0 < j)) (· % ·)
abbrev iPow := iopC (fun i j => decide (0 ≤ j) && (decide (j ≤ 1000000) && decide (i.natAbs < 2 ^ 64))) (fun i j => i ^ j.toNat)
theorem od_iAdd : OpD X c W (binaryOp .Add) (pu iAdd) := opd_iop op_add
theorem od_iSub : OpD X c W (binaryOp .Sub) (pu iSub) := opd_iop op_sub
theorem od_iMul : OpD X c W (binaryOp .Mult) (pu iMul) := opd_iopC op_mulW fun i j h => (of_decide_eq_true h : i.natAbs.log2 + j.natAbs.log2 < 1000000)
theorem od_iDiv : OpD X c W (binaryOp .FloorDiv) (pu iDiv) := opd_iopC op_fdivW fun i j h => by
  rw [Bool.and_eq_true] at h
  exact ⟨of_decide_eq_true h.1, of_decide_eq_true h.2⟩
theorem od_iMod : OpD X c W (binaryOp .Mod) (pu iMod) := opd_iopC op_mod fun i j h => of_decide_eq_true h
theorem od_iPow : OpD X c W (binaryOp .Pow) (pu iPow) := opd_iopC op_pow fun i j h => by
  rw [Bool.and_eq_true, Bool.and_eq_true] at h
  exact ⟨of_decide_eq_true h.1, of_decide_eq_true h.2.1, of_decide_eq_true h.2.2⟩
abbrev iLt := icmp fun i j => decide (i < j)
abbrev iLe := icmp fun i j => decide (i ≤ j)
abbrev iGt := icmp fun i j => decide (j < i)
abbrev iGe := icmp fun i j => decide (j ≤ i)
theorem od_iLt : OpD X c W (compareOp .Lt) (pu iLt) := opd_icmp op_lt
theorem od_iLe : OpD X c W (compareOp .LtE) (pu iLe) := opd_icmp op_le
theorem od_iGt : OpD X c W (compareOp .Gt) (pu iGt) := opd_icmp op_gt
theorem od_iGe : OpD X c W (compareOp .GtE) (pu iGe) := opd_icmp op_ge
/-! ### lists and tuples put together -/
/-- what an operator's rule r says, where it makes a new list -/
def OpL (X : Cx) (c : Cy) (W : WX) (f : Value → Value → Sem Value) (g : D → D → M (List D)) : Prop := ∃ r : R2, OpR X f r ∧
  ∀ (σ : L2.St) (O : List (Nat × Addr)) (ρ : Slots) (pt p1 : Pot) (H H1 : Hp) (Q : VK) (x y : D) (v w : V), RS c O ρ σ H pt → Stp c.T.tb c.p H H1 p1 → RB c O H1 x v → RB c O H1 y w →
    Wg c W σ H1 (fun ds _ H' => ∀ l vs, Hd [] H l = none → H' l = some (.lst vs) → c.RL (Hd (l :: hid c O) H') ds vs → Q (.ref l) H') (g x y p1) → r v w H1 Q
def binL (g : D → D → M (List D)) (fa fb : Slots → M D) : Slots → M (List D) := fun ρ => bnd (fa ρ) fun x => bnd (fb ρ) fun y => g x y
theorem dl_op {op : Operator} {g : D → D → M (List D)} {a b : Expr} {fa fb : Slots → M D} {pos : Pos} (o : OpL X c W (binaryOp op) g) (ha : PE X a (dB c W fa)) (hb : PE X b (dB c W fb)) : PE X (.BinOp a op b pos) (dL c W (binL g fa fb)) := by
  obtain ⟨r, h1, h2⟩ := o
  refine pe_imp (pe_op h1 ha hb) fun σ H Q ⟨O, ρ, pt, rs, q⟩ => ?_
  refine ⟨O, ρ, pt, rs, (Wg.bnd q).imp fun x p1 H1 _ s1 q v rv => ?_⟩
  have rs1 := rs.stp s1
  refine ⟨O, ρ, p1, rs1, (Wg.bnd q).imp fun y p2 H2 _ s2 q w rw => ?_⟩
  exact h2 σ O ρ pt p2 H H2 Q x y v w rs (s1.trans s2) (rv.stp rs1 s2) rw q
def lCat : D → D → M (List D)
  | .lst xs, .lst ys => if xs.length + ys.length ≤ 100000 then ret (xs ++ ys) else fail
  | _, _ => fail
theorem od_lCat : OpL X c W (binaryOp .Add) lCat := ⟨_, op_cat, fun σ O ρ pt p1 H H1 Q x y v w rs s1 rx ry q => by
  cases x with
  | lst xs =>
    cases y with
    | lst ys =>
      simp only [lCat] at q
      by_cases hz : xs.length + ys.length ≤ 100000
      · rw [if_pos hz] at q
        obtain ⟨a, vs, rfl, ha, ra⟩ := rx.lst
        obtain ⟨b, ws, rfl, hb, rb⟩ := ry.lst
        exact ⟨a, b, vs, ws, rfl, rfl, ha, hb, sz5 (by rw [← RL.len ra, ← RL.len rb]; exact hz), fun l hl => new_lst rs s1 (RL.app ra rb) hl q⟩
      · rw [if_neg hz] at q
        exact q.elim
    | _ => exact q.elim
  | _ => exact q.elim⟩
def boxM (g : D → D → M (List D)) : D → D → M D := fun x y => bnd (g x y) fun ds => ret (.lst ds)
/-- .. as a value -/
theorem OpL.d {f : Value → Value → Sem Value} {g : D → D → M (List D)} (o : OpL X c W f g) : OpD X c W f (boxM g) := by
  obtain ⟨r, h1, h2⟩ := o
  refine ⟨fun _ => r, ops_of h1, fun σ O ρ pt H Q x y v w rs rx ry q => h2 σ O ρ pt pt H H Q x y v w rs (Stp.refl rs.pot) rx ry ((Wg.bnd q).imp fun ds p1 H1 _ s1 q l vs hl h1 rl => ?_)⟩
  refine Wg.here q s1.pot _ ?_
  simp only [Cy.R, R]
  refine ⟨l, vs, rfl, ?_, RL.gr (Hd.sub fun a h => List.mem_cons_of_mem _ h) rl⟩
  exact Hd.out (rs.freshF hl) h1
theorem RL.nil_iff {K : PySem.W.Frag} {T : Tb} {p : Addr} {H : Hp} {ds : List D} {vs : List V} (h : RL K T p H ds vs) : ds = [] ↔ vs = [] := by
  have := RL.len h
  constructor
  · intro e; subst e; simpa using this.symm
  · intro e; subst e; simpa using this
theorem RB.tupR {O : List (Nat × Addr)} {H : Hp} {ds : List D} {v : V} (h : RB c O H (.tup ds) v) : c.R (Hd (hid c O) H) (.tup ds) v := by
  rcases h with h | ⟨_, _, _, _, e, _⟩ | ⟨_, _, _, _, e, _⟩
  · exact h
  · cases e
  · cases e
def tCat : D → D → M D
  | .tup xs, .tup ys => if xs.length + ys.length ≤ 100000 ∧ xs.isEmpty = false then ret (.tup (xs ++ ys)) else fail
  | _, _ => fail
theorem od_tCat (hK : c.K = X.K := by rfl) : OpD X c W (binaryOp .Add) tCat := ⟨_, ops_of op_catT, fun σ O ρ pt H Q x y v w rs rx ry q => by
  cases x with
  | tup xs =>
    cases y with
    | tup ys =>
      simp only [tCat] at q
      by_cases hz : xs.length + ys.length ≤ 100000 ∧ xs.isEmpty = false
      · rw [if_pos hz] at q
        obtain ⟨a, vs, rfl, ha, ra⟩ := rx.tup
        obtain ⟨b, ws, rfl, hb, rb⟩ := ry.tup
        rw [hK] at ha hb
        refine ⟨a, b, vs, ws, rfl, rfl, ha, hb, fun e => ?_, sz5 (by rw [← RL.len ra, ← RL.len rb]; exact hz.1), fun e => ?_, fun _ l hl => q _ (Stp.new rs.pot hl) _ (mk_tup rs hl (RL.app ra rb))⟩
        · have := (RL.nil_iff ra).mpr e
          subst this
          simp at hz
        · have := (RL.nil_iff rb).mpr e
          subst this
          rw [List.append_nil] at q
          exact Wg.here q rs.pot _ rx.tupR
      · rw [if_neg hz] at q
        exact q.elim
    | _ => exact q.elim
  | _ => exact q.elim⟩

/-! ### == and != of data -/
mutual
def toPy : D → Option PyData
  | .non => some .none
  | .bl b => some (.bool b)
  | .int i => some (.int i)
  | .str x => some (.str x)
  | .tup ds => (toPyL ds).map .tuple
  | .lst ds => (toPyL ds).map .list
  | _ => none
def toPyL : List D → Option (List PyData)
  | [] => some []
  | d :: ds => (toPy d).bind fun x => (toPyL ds).map fun xs => x :: xs
end
mutual
theorem toPy_dp {K : PySem.W.Frag} {T : Tb} {p : Addr} {H H' : Hp} (g : Gr H H') : ∀ {d : D} {v : V} {x : PyData}, R K T p H d v → toPy d = some x → Dp K H' v x
  | .non, _, _, h, e => by simp only [R] at h; simp only [toPy] at e; cases e; subst h; exact .non
  | .bl b, _, _, h, e => by simp only [R] at h; simp only [toPy] at e; cases e; subst h; exact .bl b
  | .int b, _, _, h, e => by simp only [R] at h; simp only [toPy] at e; cases e; subst h; exact .int b
  | .str b, _, _, h, e => by simp only [R] at h; simp only [toPy] at e; cases e; subst h; exact .str b
  | .tup ds, _, _, h, e => by
    simp only [R] at h
    simp only [toPy] at e
    obtain ⟨a, vs, rfl, s, r⟩ := h
    cases q : toPyL ds with
    | none => rw [q] at e; cases e
    | some xs => rw [q] at e; cases e; exact .tup (g.sqt s) (toPyL_dp g r q)
  | .lst ds, _, _, h, e => by
    simp only [R] at h
    simp only [toPy] at e
    obtain ⟨a, vs, rfl, s, r⟩ := h
    cases q : toPyL ds with
    | none => rw [q] at e; cases e
    | some xs => rw [q] at e; cases e; exact .lst (.inl (.inl (g _ _ s))) (toPyL_dp g r q)
  | .dct _, _, _, _, e | .dcf _, _, _, _, e | .obj _ _, _, _, _, e | .ex _ _, _, _, _, e | .pot, _, _, _, e | .fn _, _, _, _, e | .cls _, _, _, _, e | .ty _, _, _, _, e => by simp only [toPy] at e; cases e
theorem toPyL_dp {K : PySem.W.Frag} {T : Tb} {p : Addr} {H H' : Hp} (g : Gr H H') : ∀ {d : List D} {v : List V} {x : List PyData}, RL K T p H d v → toPyL d = some x → DpAll K H' v x
  | [], _, _, h, e => by simp only [RL] at h; simp only [toPyL] at e; cases e; subst h; exact .nil
  | d :: ds, _, _, h, e => by
    simp only [RL] at h
    simp only [toPyL] at e
    obtain ⟨v, ws, rfl, r, rs⟩ := h
    cases q : toPy d with
    | none => rw [q] at e; cases e
    | some x =>
      rw [q] at e
      cases q2 : toPyL ds with
      | none => rw [q2] at e; cases e
      | some xs => rw [q2] at e; cases e; exact .cons (toPy_dp g r q) (toPyL_dp g rs q2)
end
theorem RB.dp {O : List (Nat × Addr)} {H : Hp} {d : D} {v : V} {x : PyData} (h : RB c O H d v) (e : toPy d = some x) : Dp c.K H v x := by
  rcases h with h | ⟨i, a, ds, vs, e1, ev, m, ha, rl⟩ | ⟨i, a, ds, vs, e1, ev, m, ha, rl⟩
  · exact toPy_dp Hd.le h e
  · subst e1
    subst ev
    simp only [toPy] at e
    cases q : toPyL ds with
    | none => rw [q] at e; cases e
    | some xs => rw [q] at e; cases e; exact .lst (.inl (.inl ha)) (toPyL_dp Hd.le rl q)
  · subst e1
    simp only [toPy] at e
    cases e
def eqP : D → D → Option Bool
  | .int i, .int j => some (decide (i = j))
  | .str i, .str j => some (decide (i = j))
  | .bl i, .bl j => some (decide (i = j))
  | .non, .non => some true
  | .non, .int _ | .non, .bl _ | .non, .str _ | .int _, .non | .bl _, .non | .str _, .non | .int _, .str _ | .str _, .int _ | .bl _, .str _ | .str _, .bl _ => some false
  | x, y => (toPy x).bind fun a => (toPy y).bind fun b => if SeqAt.shaped a && SeqAt.shaped b then some (PyData.eqv a b) else none
def dEq (x y : D) : Option D := (eqP x y).map .bl
def dNe (x y : D) : Option D := (eqP x y).map fun b => .bl (!b)
theorem eqP_ok {O : List (Nat × Addr)} {H : Hp} {x y : D} {v w : V} {b : Bool} (rx : RB c O H x v) (ry : RB c O H y w) (e : eqP x y = some b) : (scal v w = true ∧ b = decide (v = w)) ∨ ∃ d e, Dp c.K H v d ∧ Dp c.K H w e ∧ SeqAt.shaped d = true ∧ SeqAt.shaped e = true ∧ b = PyData.eqv d e := by
  unfold eqP at e
  split at e
  · cases e
    rw [rx.int, ry.int]
    exact .inl ⟨rfl, by simp⟩
  · cases e
    rw [rx.str, ry.str]
    exact .inl ⟨rfl, by simp⟩
  · cases e
    rw [rx.bl, ry.bl]
    exact .inl ⟨rfl, by simp⟩
  · cases e
    rw [rx.non, ry.non]
    exact .inl ⟨rfl, by simp⟩
  · cases e; rw [rx.non, ry.int]; exact .inl ⟨rfl, by simp⟩
  · cases e; rw [rx.non, ry.bl]; exact .inl ⟨rfl, by simp⟩
  · cases e; rw [rx.non, ry.str]; exact .inl ⟨rfl, by simp⟩
  · cases e; rw [rx.int, ry.non]; exact .inl ⟨rfl, by simp⟩
  · cases e; rw [rx.bl, ry.non]; exact .inl ⟨rfl, by simp⟩
  · cases e; rw [rx.str, ry.non]; exact .inl ⟨rfl, by simp⟩
  · cases e; rw [rx.int, ry.str]; exact .inl ⟨rfl, by simp⟩
  · cases e; rw [rx.str, ry.int]; exact .inl ⟨rfl, by simp⟩
  · cases e; rw [rx.bl, ry.str]; exact .inl ⟨rfl, by simp⟩
  · cases e; rw [rx.str, ry.bl]; exact .inl ⟨rfl, by simp⟩
  · cases q1 : toPy x with
    | none => rw [q1] at e; cases e
    | some d1 =>
      cases q2 : toPy y with
      | none => rw [q1, q2] at e; cases e
      | some d2 =>
        rw [q1, q2] at e
        simp only [Option.bind_some] at e
        split at e
        · rename_i hs
          rw [Bool.and_eq_true] at hs
          cases e
          exact .inr ⟨d1, d2, rx.dp q1, ry.dp q2, hs.1, hs.2, rfl⟩
        · cases e
theorem od_dEq {k : Nat} (hr : Room k X.A) (hK : c.K = X.K := by rfl) : OpD X c W (compareOp .Eq) (pu dEq) := opd_pu (op_eq.or (op_eqD hr.units)) fun O H x y z v w Q rx ry e q => by
  unfold dEq at e
  cases q1 : eqP x y with
  | none => rw [q1] at e; cases e
  | some b =>
    rw [q1] at e
    cases e
    rcases eqP_ok rx ry q1 with ⟨h1, h2⟩ | ⟨d, e, h1, h2, h3, h4, h5⟩
    · exact .inl ⟨h1, h2 ▸ q _ (by simp [Cy.R, R])⟩
    · rw [hK] at h1 h2
      exact .inr ⟨d, e, h1, h2, h3, h4, h5 ▸ q _ (by simp [Cy.R, R])⟩
theorem od_dNe {k : Nat} (hr : Room k X.A) (hK : c.K = X.K := by rfl) : OpD X c W (compareOp .NotEq) (pu dNe) := opd_pu (op_ne.or (op_neD hr.units)) fun O H x y z v w Q rx ry e q => by
  unfold dNe at e
  cases q1 : eqP x y with
  | none => rw [q1] at e; cases e
  | some b =>
    rw [q1] at e
    cases e
    rcases eqP_ok rx ry q1 with ⟨h1, h2⟩ | ⟨d, e, h1, h2, h3, h4, h5⟩
    · exact .inl ⟨h1, h2 ▸ q _ (by simp [Cy.R, R])⟩
    · rw [hK] at h1 h2
      exact .inr ⟨d, e, h1, h2, h3, h4, h5 ▸ q _ (by simp [Cy.R, R])⟩
/-! ### is None -/
def isNon : D → Bool
  | .non => true
  | _ => false
theorem isNon_ok {O : List (Nat × Addr)} {H : Hp} {x : D} {v : V} (h : RB c O H x v) : decide (v = .non) = isNon x := by
  have fin : ∀ {a : Addr}, v = .ref a → decide (v = .non) = false := fun e => by subst e; simp
  cases x with
  | non => rw [h.non]; rfl
  | bl b => rw [h.bl]; simp [isNon]
  | int i => rw [h.int]; simp [isNon]
  | str x => rw [h.str]; simp [isNon]
  | tup ds => obtain ⟨a, _, e, _⟩ := h.tup; exact fin e
  | lst ds => obtain ⟨a, _, e, _⟩ := h.lst; exact fin e
  | dct ds => obtain ⟨a, _, e, _⟩ := h.dct; exact fin e
  | obj k fs =>
    have q := h.obj
    simp only [Cy.R, R] at q
    obtain ⟨a, _, _, e, _⟩ := q
    exact fin e
  | ex _ _ | dcf _ =>
    rcases h with h | ⟨_, _, _, _, e, _⟩ | ⟨_, _, _, _, e, _⟩
    · simp only [Cy.R, R] at h
      obtain ⟨a, _, _, e, _⟩ := h
      exact fin e
    · cases e
    · cases e
  | pot | fn _ | cls _ =>
    rcases h with h | ⟨_, _, _, _, e, _⟩ | ⟨_, _, _, _, e, _⟩
    · simp only [Cy.R, R] at h; exact fin h
    · cases e
    · cases e
  | ty n =>
    rcases h with h | ⟨_, _, _, _, e, _⟩ | ⟨_, _, _, _, e, _⟩
    · simp only [Cy.R, R] at h; subst h; simp [isNon]
    · cases e
    · cases e
def isN : D → D → Option D
  | x, .non => some (.bl (isNon x))
  | _, _ => none
def notN : D → D → Option D
  | x, .non => some (.bl (!isNon x))
  | _, _ => none
theorem od_isN : OpD X c W (compareOp .Is) (pu isN) := opd_pu op_isN fun O H x y z v w Q rx ry e q => by
  cases y <;> first | (simp only [isN] at e; cases e; done) | skip
  simp only [isN] at e
  cases e
  exact ⟨ry.non, by rw [isNon_ok rx]; exact q _ (by simp [Cy.R, R])⟩
theorem od_notN : OpD X c W (compareOp .IsNot) (pu notN) := opd_pu op_notN fun O H x y z v w Q rx ry e q => by
  cases y <;> first | (simp only [notN] at e; cases e; done) | skip
  simp only [notN] at e
  cases e
  exact ⟨ry.non, by rw [isNon_ok rx]; exact q _ (by simp [Cy.R, R])⟩
/-! ### unary -/
def negE (f : Slots → M D) : Slots → M D := fun ρ => bnd (f ρ) fun d => match d with
  | .int i => ret (.int (-i))
  | _ => fail
theorem de_neg {a : Expr} {pos : Pos} {f : Slots → M D} (h : PE X a (dE c W f)) : PE X (.UnaryOp .USub a pos) (dE c W (negE f)) := by
  refine pe_imp (pe_un un_neg h) fun σ H Q ⟨O, ρ, pt, rs, q⟩ => ?_
  refine ⟨O, ρ, pt, rs, (Wg.bnd q).imp fun d p1 H1 _ s1 q v rv => ?_⟩
  cases d with
  | int i => exact ⟨i, by simpa [Cy.R, R] using rv, Wg.here q s1.pot _ (by simp [Cy.R, R])⟩
  | _ => exact q.elim
end
end DF

set_option Elab.async false
set_option linter.all false
set_option maxRecDepth 100000
set_option maxHeartbeats 4000000
namespace DF
open PySem L2
/-! ### statements -/
section
variable {X : Cx} {c : Cy} {W : WX} {σ : L2.St} {H H' : Hp} {O : List (Nat × Addr)} {ρ : Slots} {pt pt' : Pot}
theorem Mv.refl : Mv c O H O H := fun a o h e _ => ⟨h, e⟩
/-- what is wanted of the rest, from a later heap -/
theorem WO.from {E : Ends} {O1 : List (Nat × Addr)} {H1 : Hp} {r : Res Out} (m : Mv c O H O1 H1) (h : WO c W E O H r) : WO c W E O1 H1 r := by
  cases r with
  | ok o p =>
    cases o with
    | nx ρ' => exact fun O' σ' H' rs m' => h O' σ' H' rs (m.trans m')
    | bk ρ' => exact fun O' σ' H' rs m' => h O' σ' H' rs (m.trans m')
    | ct ρ' => exact fun O' σ' H' rs m' => h O' σ' H' rs (m.trans m')
    | rt d => exact h
  | exc e fs p => exact h
  | stuck => exact h
theorem Fin.of_stp (r : RS c O ρ σ H pt) (s : Stp c.T.tb c.p H H' pt') : Fin c H' pt' := (r.stp s).fin
/-- an expression, then what is done with it -/
theorem WO.bnd {α : Type} {E : Ends} {m : M α} {k : α → M Out} (r : RS c O ρ σ H pt) (h : WO c W E O H (DF.bnd m k pt)) : Wg c W σ H (fun a q H' => WO c W E O H' (k a q)) (m pt) := by
  unfold DF.bnd at h
  cases e : m pt with
  | ok a q =>
    rw [e] at h
    exact fun H' st => WO.from (st.mv r.hp) h
  | exc _ _ _ =>
    rw [e] at h
    exact fun cls dd H' st x => h cls dd σ H' (Fin.of_stp r st) x
  | stuck =>
    rw [e] at h
    exact h
def seqS (f g : Slots → M Out) : Slots → M Out := fun ρ => bnd (f ρ) fun o => match o with
  | .nx ρ' => g ρ'
  | o => ret o
def nilS : Slots → M Out := fun ρ => ret (.nx ρ)
theorem dss_nil : PSs X [] (dS c W nilS) := pss_imp pss_nil fun E σ H ⟨O, ρ, pt, r, h⟩ => h O σ H r Mv.refl
theorem dss_cons {st : Stmt} {rest : List Stmt} {f g : Slots → M Out} (h1 : PS X st (dS c W f)) (h2 : PSs X rest (dS c W g)) : PSs X (st :: rest) (dS c W (seqS f g)) := by
  refine pss_imp (pss_cons h1 h2) fun E σ H ⟨O, ρ, pt, r, h⟩ => ⟨O, ρ, pt, r, ?_⟩
  unfold seqS DF.bnd at h
  cases e : f ρ pt with
  | ok o q =>
    rw [e] at h
    cases o with
    | nx ρ' => exact fun O' σ' H' rs m => ⟨O', ρ', q, rs, WO.from m h⟩
    | bk ρ' => exact h
    | ct ρ' => exact h
    | rt d => exact h
  | exc _ _ _ =>
    rw [e] at h
    exact h
  | stuck =>
    rw [e] at h
    exact h
theorem dss_one {st : Stmt} {f : Slots → M Out} (h1 : PS X st (dS c W f)) : PSs X [st] (dS c W f) := pss_one h1
theorem ds_pass {pos : Pos} : PS X (.Pass pos) (dS c W nilS) := ps_imp ps_pass fun E σ H ⟨O, ρ, pt, r, h⟩ => h O σ H r Mv.refl
def retS (f : Slots → M D) : Slots → M Out := fun ρ => bnd (f ρ) fun d => ret (.rt d)
theorem RS.out (r : RS c O ρ σ H pt) : Gr (Hd (hid c O) H) (Hd c.S H) := Hd.sub fun a h => List.mem_append_left _ h
theorem ds_ret {e : Expr} {f : Slots → M D} {pos : Pos} (h : PE X e (dE c W f)) : PS X (.Return (some e) pos) (dS c W (retS f)) := by
  refine ps_imp (ps_ret h) fun E σ H ⟨O, ρ, pt, r, h⟩ => ⟨O, ρ, pt, r, (WO.bnd r h).imp fun d p1 H1 _ s1 q v rv => ?_⟩
  exact q v H1 (Fin.of_stp r s1) (R.gr (r.stp s1).out rv)
def retNS : Slots → M Out := fun _ => ret (.rt .non)
theorem ds_retN {pos : Pos} : PS X (.Return none pos) (dS c W retNS) := ps_imp ps_retN fun E σ H ⟨O, ρ, pt, r, h⟩ => h .non H r.fin (by simp [Cy.R, R])
def dropS (f : Slots → M D) : Slots → M Out := fun ρ => bnd (f ρ) fun _ => ret (.nx ρ)
theorem ds_expr {e : Expr} {f : Slots → M D} {pos : Pos} (h : PE X e (dE c W f)) (hs : swapsWith e none pos.line X.env = pure false := by rfl) : PS X (.Expr e pos) (dS c W (dropS f)) := by
  refine ps_imp (ps_expr h hs) fun E σ H ⟨O, ρ, pt, r, h⟩ => ⟨O, ρ, pt, r, (WO.bnd r h).imp fun d p1 H1 _ s1 q v rv => ?_⟩
  exact q O σ H1 (r.stp s1) Mv.refl
def ifS (t : Slots → M Bool) (f g : Slots → M Out) : Slots → M Out := fun ρ => bnd (t ρ) fun b => if b then f ρ else g ρ
theorem ds_if {e : Expr} {t : Slots → M Bool} {a b : List Stmt} {f g : Slots → M Out} {pos : Pos} (h : PT X e (dT c W t)) (ha : PSs X a (dS c W f)) (hb : PSs X b (dS c W g)) : PS X (.If e a b pos) (dS c W (ifS t f g)) := by
  refine ps_imp (ps_if h ha hb) fun E σ H ⟨O, ρ, pt, r, h⟩ => ⟨O, ρ, pt, r, (WO.bnd r h).imp fun b p1 H1 _ s1 q => ?_⟩
  cases b with
  | true => exact ⟨O, ρ, p1, r.stp s1, q⟩
  | false => exact ⟨O, ρ, p1, r.stp s1, q⟩
/-- a statement that is not reached -/
theorem ds_never {st : Stmt} : PS X st (dS c W fun _ => fail) := ps_imp (ps_never (st := st)) fun E σ H ⟨O, ρ, pt, r, h⟩ => h.elim

/-! ### slots -/
theorem fil_mem {O : List (Nat × Addr)} {i : Nat} {q : Nat × Addr} (h : q ∈ O.filter fun q => decide (q.1 ≠ i)) : q ∈ O ∧ q.1 ≠ i := by
  obtain ⟨h1, h2⟩ := List.mem_filter.mp h
  exact ⟨h1, of_decide_eq_true h2⟩
theorem fil_sub {c : Cy} {O : List (Nat × Addr)} {i : Nat} : ∀ a ∈ hid c (O.filter fun q => decide (q.1 ≠ i)), a ∈ hid c O := fun a h => by
  rcases List.mem_append.mp h with h | h
  · exact List.mem_append_left _ h
  · obtain ⟨q, hq, e⟩ := List.mem_map.mp h
    exact List.mem_append_right _ (List.mem_map.mpr ⟨q, (fil_mem hq).1, e⟩)
theorem fil_nd {O : List (Nat × Addr)} {i : Nat} {β : Type} (f : Nat × Addr → β) (h : (O.map f).Nodup) : ((O.filter fun q => decide (q.1 ≠ i)).map f).Nodup :=
  List.Nodup.sublist (List.Sublist.map f List.filter_sublist) h
/-- fewer things are one's own: what stands in another slot stands -/
theorem SlotOk.fewer {i j : Nat} {x : Option (Option V)} {s : SV} (hj : j ≠ i) (h : SlotOk c O H j x s) : SlotOk c (O.filter fun q => decide (q.1 ≠ i)) H j x s := by
  have g : Gr (Hd (hid c O) H) (Hd (hid c (O.filter fun q => decide (q.1 ≠ i))) H) := Hd.sub fil_sub
  have keep : ∀ {a : Addr}, (j, a) ∈ O → (j, a) ∈ O.filter fun q => decide (q.1 ≠ i) := fun m => List.mem_filter.mpr ⟨m, decide_eq_true hj⟩
  cases s with
  | val d =>
    obtain ⟨v, e, r⟩ := h
    exact ⟨v, e, R.gr g r⟩
  | own ds =>
    obtain ⟨a, vs, m, e, q, r⟩ := h
    exact ⟨a, vs, keep m, e, q, RL.gr g r⟩
  | ownd ds =>
    obtain ⟨a, vs, m, e, q, r⟩ := h
    exact ⟨a, vs, keep m, e, q, RK.gr g r⟩
  | slf k fs =>
    obtain ⟨a, dx, vs, m, em, e, q, l, r⟩ := h
    exact ⟨a, dx, vs, keep m, em, e, q, l, RL.gr g r⟩
  | exv e fs => exact ⟨h.1, Xv.gr g h.2⟩
  | lam => exact ⟨h.1, g _ _ h.2⟩
  | raw v => exact h
theorem fil_ow {ρ : Slots} {O : List (Nat × Addr)} (h : ∀ q ∈ O, ∃ s, ρ[q.1]? = some (some s) ∧ isOwn s = true) (i : Nat) (x : Option SV) : ∀ q ∈ O.filter (fun q => decide (q.1 ≠ i)), ∃ s, (ρ.set i x)[q.1]? = some (some s) ∧ isOwn s = true := fun q hq => by
  obtain ⟨h1, h2⟩ := fil_mem hq
  rw [List.getElem?_set_ne (Ne.symm h2)]
  exact h q h1
theorem RS.drop (r : RS c O ρ σ H pt) (i : Nat) : RS c (O.filter fun q => decide (q.1 ≠ i)) (ρ.set i none) σ H pt :=
  ⟨r.pot, fun a o n h m => r.ext a o n h m, r.hp, r.hS, fun q hq => r.new q (fil_mem hq).1, fil_nd _ r.nd, fil_nd _ r.nf, by rw [List.length_set]; exact r.len, fil_ow r.ow i _, fun j s h => by
    by_cases e : j = i
    · subst e
      by_cases hl : j < ρ.length
      · rw [List.getElem?_set_self hl] at h; cases h
      · rw [List.getElem?_eq_none (by simpa using hl)] at h; cases h
    · rw [List.getElem?_set_ne (Ne.symm e)] at h
      exact (r.sl j s h).fewer e⟩
theorem Mv.fewer {i : Nat} : Mv c O H (O.filter fun q => decide (q.1 ≠ i)) H := fun a o h e _ => ⟨fun q => h (fil_sub a q), e⟩
/-- a value is stored -/
theorem RS.put {d : D} {v : V} (r : RS c O ρ σ H pt) (i : Nat) (hi : i < σ.length) (rv : c.R (Hd (hid c O) H) d v) : RS c (O.filter fun q => decide (q.1 ≠ i)) (ρ.set i (some (.val d))) (σ.set i (some v)) H pt := by
  have r1 := r.drop i
  refine ⟨r1.pot, fun a o n h m => r1.ext a o n h m, r1.hp, r1.hS, r1.new, r1.nd, r1.nf, by rw [List.length_set, List.length_set]; exact r.len, fil_ow r.ow i _, fun j s h => ?_⟩
  by_cases e : j = i
  · subst e
    rw [List.getElem?_set_self (by rw [r.len]; exact hi)] at h
    cases h
    exact ⟨v, List.getElem?_set_self hi, R.gr (Hd.sub fil_sub) rv⟩
  · rw [List.getElem?_set_ne (Ne.symm e)] at h
    have q := r1.sl j s (by rw [List.getElem?_set_ne (Ne.symm e)]; exact h)
    rw [List.getElem?_set_ne (Ne.symm e)]
    exact q
def asgS (i : Nat) (f : Slots → M D) : Slots → M Out := fun ρ => bnd (f ρ) fun d => if i < ρ.length then ret (.nx (ρ.set i (some (.val d)))) else fail
theorem ds_asg {i : Nat} {x : Str} {e : Expr} {f : Slots → M D} {pos' pos : Pos} (hN : X.N.Nodup) (h : PE X e (dE c W f)) (hi : X.N[i]? = some x := by rfl) (hx : Loc X.env.scope x := by first | exact Or.inl rfl | exact Or.inr rfl) (hs : swapsWith e (some (.Name x pos')) pos.line X.env = pure false := by rfl)
    (hf : X.fn x = true ∨ X.env.scope.names.lookup x = some .local := by first | exact .inl rfl | exact .inr rfl | assumption) : PS X (.Assign [.Name x pos'] e pos) (dS c W (asgS i f)) := by
  refine ps_imp (ps_set hN hi hx h hs hf) fun E σ H ⟨O, ρ, pt, r, h⟩ => ⟨O, ρ, pt, r, (WO.bnd r h).imp fun d p1 H1 _ s1 q v rv => ?_⟩
  by_cases hl : i < ρ.length
  · rw [if_pos hl] at q
    exact q _ _ _ ((r.stp s1).put i (by rw [← r.len]; exact hl) rv) Mv.fewer
  · rw [if_neg hl] at q
    exact q.elim
/-- a list of one's own is stored: it may be changed -/
theorem RS.putOwn {ds : List D} {vs : List V} {l : Addr} (r : RS c O ρ σ H pt) {H1 : Hp} {p1 : Pot} (s1 : Stp c.T.tb c.p H H1 p1) (i : Nat) (hi : i < σ.length) (hl : Hd [] H l = none) (h1 : H1 l = some (.lst vs)) (rl : c.RL (Hd (l :: hid c O) H1) ds vs) :
    RS c ((i, l) :: O.filter fun q => decide (q.1 ≠ i)) (ρ.set i (some (.own ds))) (σ.set i (some (.ref l))) H1 p1 ∧ Mv c O H ((i, l) :: O.filter fun q => decide (q.1 ≠ i)) H1 := by
  have nh : l ∉ hid c O := r.freshF hl
  have r1 := (r.stp s1).drop i
  have hid1 : ∀ a, a ∈ hid c ((i, l) :: O.filter fun q => decide (q.1 ≠ i)) → a = l ∨ a ∈ hid c O := fun a h => by
    rcases List.mem_append.mp h with h | h
    · exact .inr (List.mem_append_left _ h)
    · rcases List.mem_cons.mp (show a ∈ l :: (O.filter fun q => decide (q.1 ≠ i)).map (·.2) from h) with h | h
      · exact .inl h
      · exact .inr (fil_sub a (List.mem_append_right _ h))
  have mv : Mv c O H ((i, l) :: O.filter fun q => decide (q.1 ≠ i)) H1 := fun a o h e n => ⟨fun q => (hid1 a q).elim (fun z => Hd.ne e n hl z) h, s1.keep a o (fun z => h (z ▸ r.pm)) e n⟩
  have g0 : Gr (Hd (l :: hid c O) H1) (Hd (hid c ((i, l) :: O.filter fun q => decide (q.1 ≠ i))) H1) := Hd.sub fun a h => (hid1 a h).elim (fun z => z ▸ List.mem_cons_self) fun z => List.mem_cons_of_mem _ z
  have nl : l ∉ (O.filter fun q => decide (q.1 ≠ i)).map (·.2) := fun h => nh (fil_sub l (List.mem_append_right _ h))
  refine ⟨⟨s1.pot, fun a o n h m => r1.ext a o n h m, r.hp, r1.hS, fun q hq => ?_, ?_, ?_, by rw [List.length_set, List.length_set]; exact r.len, fun q hq => ?_, fun j s h => ?_⟩, mv⟩
  · rcases List.mem_cons.mp hq with e | hq
    · subst e
      refine ⟨?_, fun z => ?_, fun z => nh (List.mem_append_left _ z), _, h1, rfl⟩
      · cases e : Hd [] c.H0 l with
        | none => rfl
        | some o =>
          obtain ⟨_, e, n⟩ := Hd.sees e
          by_cases lp : l = c.p
          · exact absurd (lp ▸ r.pm) nh
          · exact absurd rfl (Hd.ne (r.ext l o lp e n) n hl)
      · have z' : l = c.p := z
        exact nh (z' ▸ r.pm)
    · exact r1.new q hq
  · exact List.nodup_cons.mpr ⟨nl, r1.nd⟩
  · refine List.nodup_cons.mpr ⟨fun h => ?_, r1.nf⟩
    obtain ⟨q, hq, e⟩ := List.mem_map.mp h
    exact (fil_mem hq).2 e
  · rcases List.mem_cons.mp hq with e | hq
    · subst e
      exact ⟨.own ds, List.getElem?_set_self (by rw [r.len]; exact hi), rfl⟩
    · exact fil_ow r.ow i _ q hq
  · by_cases e : j = i
    · subst e
      rw [List.getElem?_set_self (by rw [r.len]; exact hi)] at h
      cases h
      exact ⟨l, vs, List.mem_cons_self, List.getElem?_set_self hi, h1, RL.gr g0 rl⟩
    · rw [List.getElem?_set_ne (Ne.symm e)] at h
      rw [List.getElem?_set_ne (Ne.symm e)]
      have g : Gr (Hd (hid c O) H) (Hd (hid c ((i, l) :: O.filter fun q => decide (q.1 ≠ i))) H1) := mv.gr
      have keep : ∀ {a : Addr}, (j, a) ∈ O → (j, a) ∈ (i, l) :: O.filter fun q => decide (q.1 ≠ i) := fun m => List.mem_cons_of_mem _ (List.mem_filter.mpr ⟨m, decide_eq_true e⟩)
      have st : ∀ {a : Addr} {o : HO}, (j, a) ∈ O → H a = some o → (n : nt o = true := by rfl) → H1 a = some o := fun m q n => s1.keep _ _ (r.new _ m).2.1 q n
      have q := r.sl j s h
      cases s with
      | val d =>
        obtain ⟨v, e, r⟩ := q
        exact ⟨v, e, R.gr g r⟩
      | own ds =>
        obtain ⟨a, vs, m, e, q, r⟩ := q
        exact ⟨a, vs, keep m, e, st m q, RL.gr g r⟩
      | ownd ds =>
        obtain ⟨a, vs, m, e, q, r⟩ := q
        exact ⟨a, vs, keep m, e, st m q, RK.gr g r⟩
      | slf k fs =>
        obtain ⟨a, dx, vs, m, em, e, q, l, r⟩ := q
        exact ⟨a, dx, vs, keep m, em, e, st m q, l, RL.gr g r⟩
      | exv e fs => exact ⟨q.1, Xv.gr g q.2⟩
      | lam => exact ⟨q.1, g _ _ q.2⟩
      | raw v => exact q
def asgL (i : Nat) (f : Slots → M (List D)) : Slots → M Out := fun ρ => bnd (f ρ) fun ds => if i < ρ.length then ret (.nx (ρ.set i (some (.own ds)))) else fail
theorem ds_asgL {i : Nat} {x : Str} {e : Expr} {f : Slots → M (List D)} {pos' pos : Pos} (hN : X.N.Nodup) (h : PE X e (dL c W f)) (hi : X.N[i]? = some x := by rfl) (hx : Loc X.env.scope x := by first | exact Or.inl rfl | exact Or.inr rfl) (hs : swapsWith e (some (.Name x pos')) pos.line X.env = pure false := by rfl)
    (hf : X.fn x = true ∨ X.env.scope.names.lookup x = some .local := by first | exact .inl rfl | exact .inr rfl | assumption) : PS X (.Assign [.Name x pos'] e pos) (dS c W (asgL i f)) := by
  refine ps_imp (ps_set hN hi hx h hs hf) fun E σ H ⟨O, ρ, pt, r, h⟩ => ⟨O, ρ, pt, r, ?_⟩
  unfold asgL DF.bnd at h
  cases e : f ρ pt with
  | ok ds p1 =>
    rw [e] at h
    intro H1 s1 l vs hl h1 rl
    simp only at h
    by_cases hz : i < ρ.length
    · rw [if_pos hz] at h
      obtain ⟨rs, mv⟩ := r.putOwn s1 i (by rw [← r.len]; exact hz) hl h1 rl
      exact h _ _ _ rs mv
    · rw [if_neg hz] at h
      exact h.elim
  | exc _ _ _ =>
    rw [e] at h
    exact fun cls dd H' st x => h cls dd σ H' (Fin.of_stp r st) x
  | stuck =>
    rw [e] at h
    exact h
theorem same_of {i : Nat} {a : Addr} {q : Nat × Addr} : ∀ {O : List (Nat × Addr)}, (O.map (·.2)).Nodup → (i, a) ∈ O → q ∈ O → q.2 = a → q = (i, a)
  | [], _, m, _, _ => nomatch m
  | z :: zs, nd, m, m2, e => by
    have nd' := List.nodup_cons.mp (show (z.2 :: zs.map (·.2)).Nodup from nd)
    rcases List.mem_cons.mp m with e1 | m
    · rcases List.mem_cons.mp m2 with e2 | m2
      · rw [e1, e2]
      · exact absurd (List.mem_map.mpr ⟨q, m2, by rw [e, ← e1]⟩) nd'.1
    · rcases List.mem_cons.mp m2 with e2 | m2
      · exact absurd (List.mem_map.mpr ⟨_, m, by rw [← e2]; exact e.symm⟩) nd'.1
      · exact same_of nd'.2 m m2 e
/-- from now on it is not changed any more -/
def frz1 (i : Nat) (ρ : Slots) : Slots := match ρ[i]? with
  | some (some (.own ds)) => ρ.set i (some (.val (.lst ds)))
  | some (some (.ownd ds)) => ρ.set i (some (.val (.dct ds)))
  | _ => ρ
theorem RS.frz (r : RS c O ρ σ H pt) (i : Nat) : ∃ O', RS c O' (frz1 i ρ) σ H pt ∧ Mv c O H O' H := by
  have low : ∀ {a : Addr}, (i, a) ∈ O → a ∉ hid c (O.filter fun q => decide (q.1 ≠ i)) := fun {a} m h => by
    rcases List.mem_append.mp h with h | h
    · exact (r.new _ m).2.2.1 h
    · obtain ⟨q, hq, e⟩ := List.mem_map.mp h
      obtain ⟨m2, n2⟩ := fil_mem hq
      have := same_of r.nd m m2 e
      exact n2 (by rw [this])
  unfold frz1
  split
  · rename_i ds e
    obtain ⟨a, vs, m, ev, ha, rl⟩ := r.sl i _ e
    refine ⟨_, ?_, Mv.fewer (i := i)⟩
    have r1 := r.drop i
    refine ⟨r1.pot, fun a o n h m => r1.ext a o n h m, r1.hp, r1.hS, r1.new, r1.nd, r1.nf, by rw [List.length_set]; exact r.len, fil_ow r.ow i _, fun j s h => ?_⟩
    by_cases ej : j = i
    · subst ej
      rw [List.getElem?_set_self (List.getElem?_eq_some_iff.mp e).1] at h
      cases h
      refine ⟨_, ev, ?_⟩
      simp only [Cy.R, R]
      exact ⟨a, vs, rfl, Hd.out (low m) ha, RL.gr (Hd.sub fil_sub) rl⟩
    · rw [List.getElem?_set_ne (Ne.symm ej)] at h
      exact r1.sl j s (by rw [List.getElem?_set_ne (Ne.symm ej)]; exact h)
  · rename_i ds e
    obtain ⟨a, vs, m, ev, ha, rl⟩ := r.sl i _ e
    refine ⟨_, ?_, Mv.fewer (i := i)⟩
    have r1 := r.drop i
    refine ⟨r1.pot, fun a o n h m => r1.ext a o n h m, r1.hp, r1.hS, r1.new, r1.nd, r1.nf, by rw [List.length_set]; exact r.len, fil_ow r.ow i _, fun j s h => ?_⟩
    by_cases ej : j = i
    · subst ej
      rw [List.getElem?_set_self (List.getElem?_eq_some_iff.mp e).1] at h
      cases h
      refine ⟨_, ev, ?_⟩
      simp only [Cy.R, R]
      exact ⟨a, vs, rfl, Hd.out (low m) ha, RK.gr (Hd.sub fil_sub) rl⟩
    · rw [List.getElem?_set_ne (Ne.symm ej)] at h
      exact r1.sl j s (by rw [List.getElem?_set_ne (Ne.symm ej)]; exact h)
  · exact ⟨O, r, Mv.refl⟩
theorem ds_frz {st : Stmt} {g : Slots → M Out} (i : Nat) (h : PS X st (dS c W g)) : PS X st (dS c W fun ρ => g (frz1 i ρ)) := by
  refine ps_imp h fun E σ H ⟨O, ρ, pt, r, q⟩ => ?_
  obtain ⟨O', r', m⟩ := r.frz i
  exact ⟨O', _, pt, r', WO.from m q⟩
end
end DF

set_option Elab.async false
set_option linter.all false
set_option maxRecDepth 100000
set_option maxHeartbeats 4000000
namespace DF
open PySem L2
/-! ### defs that may need to know that no repr is under way (gu) -/
structure Rm (gu : Prop) (k : Nat) (A : Around) : Prop where
  room : Room k A
  gd : gu → A.guards = some []
section
variable {gu : Prop} {j k : Nat} {A : Around}
theorem Rm.mono (r : Rm gu k A) (h : j ≤ k) : Rm gu j A := ⟨r.room.mono h, r.gd⟩
theorem Rm.lo (r : Rm gu k A) (h : j ≤ k) : Rm False j A := ⟨r.room.mono h, fun z => z.elim⟩
theorem Rm.in1 (r : Rm gu (k + 1) A) : Rm gu k A.in1 := ⟨r.room.in1, r.gd⟩
theorem Rm.make (r : Rm gu (k + 1) A) (C : Addr) (us : List Value) (kw : List (Str × Value)) : Rm gu k (A.under (.builtin "type.__call__" ⟨.ref C :: us, kw⟩)) := ⟨r.room.make C us kw, fun g => by
  have e := r.gd g
  show pushGuards (Code.builtin "type.__call__" ⟨.ref C :: us, kw⟩).guards A.guards = some []
  rw [e]
  have e2 : (Code.builtin "type.__call__" ⟨.ref C :: us, kw⟩).guards = [] := by
    unfold Code.guards
    rw [if_neg (show ¬ ((Code.builtin "type.__call__" ⟨.ref C :: us, kw⟩).isGuard = true) from by show ¬ (guardIds.contains "type.__call__" = true); decide +kernel)]
  rw [e2]
  rfl⟩
theorem Rm.units0 (r : Rm gu k A) : A.units < cLine := r.room.units0
theorem Rm.units (r : Rm gu k A) : A.units + 64 < cLine := r.room.units
theorem Rm.of (r : Room k A) : Rm False k A := ⟨r, fun z => z.elim⟩
end
structure FnG (gu : Prop) (P : Program) (w : World) (K : PySem.W.Frag) (mg : Str → Option Value) (base : Heap) (CX : CXT) (k : Nat) (f : Addr) (fd : FuncData) (ps : List Str) (sp : Sp) : Prop where
  len : ∀ vs H Q E, sp vs H Q E → vs.length = ps.length
  run : ∀ (A : Around) (outer : List Env) (s : Shared) (H : Hp) (args : Args) (us : List Value) (vs : List V) (Q : VK) (E : XK), Rm gu k A → Env0 P w K mg base A outer s H → BindsTo s fd args (ps.zip us) → Vals vs us → sp vs H Q E →
    codeAny (model P w) A (.call (.ref f) args) (CR CX outer P w H s Q E) s
theorem FnG.ok {P : Program} {w : World} {K : PySem.W.Frag} {mg : Str → Option Value} {base : Heap} {CX : CXT} {k : Nat} {f : Addr} {fd : FuncData} {ps : List Str} {sp : Sp} (F : FnG False P w K mg base CX k f fd ps sp) : FnOk P w K mg base CX k f fd ps sp :=
  ⟨F.len, fun A outer s H args us vs Q E hr => F.run A outer s H args us vs Q E (Rm.of hr)⟩
theorem fnOk_g {gu : Prop} {P : Program} {w : World} {K : PySem.W.Frag} {mg : Str → Option Value} {base : Heap} {CX : CXT} {k : Nat} {f : Addr} {fd : FuncData} {ps : List Str} {sp : Sp} (F : FnOk P w K mg base CX k f fd ps sp) : FnG gu P w K mg base CX k f fd ps sp :=
  ⟨F.len, fun A outer s H args us vs Q E hr => F.run A outer s H args us vs Q E hr.room⟩
theorem fn_okG {gu : Prop} {P : Program} {w : World} {K : PySem.W.Frag} {mg : Str → Option Value} {base : Heap} {CX : CXT} {x qual : Str} {params : Arguments} {body : List Stmt} {scope : Scope} {dvs : List V} {kws : List (Str × V)} {f : Addr} {fd : FuncData} {N ps : List Str} {k : Nat} {sp : Sp} (F : FunD K x qual params body scope dvs kws f fd) (S : FnScope N ps scope) (len : ∀ vs H Q E, sp vs H Q E → vs.length = ps.length)
    (hb : ∀ (cdv : Value), fd.code = cdv → ∀ (A : Around) (outer : List Env) (s : Shared) (H : Hp) (vs : List V) (Q : VK) (E : XK), Rm gu k (A.deeper (PyProof.Rows.envOfC qual scope s.heap.objs.size f cdv)) → sp vs H Q E →
      ∃ t, PSs (cxOf CX P w K mg base N qual scope f cdv A outer s H E) body t ∧ t { nx := fun _ H' => Q .non H', rt := Q } (start N vs) H) : FnG gu P w K mg base CX (k + 1) f fd ps sp := by
  obtain ⟨oc, od, dV, kV, doc, pm, an, cdv, ct, osl, rfl, lk, hcd, _, _⟩ := F.ex
  exact ⟨len, fun A outer s H args us vs Q E hr e0 hbd r hsp => LamX.run_ofS lk hcd S hr.room e0 hbd r (len _ _ _ _ hsp) fun hr1 => hb cdv rfl A outer s H vs Q E ⟨hr1, hr.gd⟩ hsp⟩
/-! ### a def as a function of data -/
/-- what a call with the data ds comes to -/
def Wf (c : Cy) (H : Hp) (Q : VK) (E : XK) : Res D → Prop
  | .ok d pt => ∀ v H', Stp c.T.tb c.p H H' pt → c.R (Hd c.S H') d v → Q v H'
  | .exc e fs pt => ∀ cls dd H', Stp c.T.tb c.p H H' pt → RX c H' e fs cls dd → E cls dd H'
  | .stuck => False
def spF (K : PySem.W.Frag) (T : Tb) (n : Nat) (m : List D → M D) : Sp := fun vs H Q E => ∃ p S ds pt, p ∈ S ∧ (∀ a ∈ S, ∃ o, H a = some o ∧ mt o = true) ∧ ds.length = n ∧ RL K T p (Hd S H) ds vs ∧ Pots T.tb p H pt ∧ Wf ⟨K, T, p, S, H, 0, x0⟩ H Q E (m ds pt)
/-- the slots at the entry -/
def ini (n : Nat) (ds : List D) : Slots := ds.map (fun d => some (.val d)) ++ List.replicate (n - ds.length) none
def fnM (n : Nat) (g : Slots → M Out) : List D → M D := fun ds => bnd (g (ini n ds)) fun o => match o with
  | .rt d => ret d
  | .nx _ => ret .non
  | _ => fail
section
variable {P : Program} {w : World} {K : PySem.W.Frag} {mg : Str → Option Value} {base : Heap} {T : Tb}
theorem ini_rs {c : Cy} {N : List Str} {ds : List D} {vs : List V} {pt : Pot} (hp : c.p ∈ c.S) (hS : ∀ a ∈ c.S, ∃ o, c.H0 a = some o ∧ mt o = true) (rl : c.RL (Hd c.S c.H0) ds vs) (hpot : Pots c.T.tb c.p c.H0 pt) (hl : ds.length ≤ N.length) :
    RS c [] (ini N.length ds) (L2.start N vs) c.H0 pt := by
  have lv := RL.len rl
  refine ⟨hpot, fun _ _ _ h _ => h, hp, hS, fun _ h => (nomatch h), .nil, .nil, ?_, fun _ h => (nomatch h), fun i s h => ?_⟩
  · unfold ini L2.start
    rw [List.length_append, List.length_append, List.length_map, List.length_map, List.length_replicate, List.length_replicate, lv]
  · have hh : hid c [] = c.S := List.append_nil _
    unfold ini at h
    unfold L2.start
    by_cases hi : i < ds.length
    · rw [List.getElem?_append_left (by rw [List.length_map]; exact hi), List.getElem?_map] at h
      cases e : ds[i]? with
      | none => rw [e] at h; cases h
      | some d =>
        rw [e] at h
        cases h
        obtain ⟨v, ev, rv⟩ := RL.getD rl e
        refine ⟨v, ?_, by rw [hh]; exact rv⟩
        rw [List.getElem?_append_left (by rw [List.length_map, ← lv]; exact hi), List.getElem?_map, ev]
        rfl
    · rw [List.getElem?_append_right (by rw [List.length_map]; omega), List.getElem?_replicate] at h
      split at h
      · cases h
      · cases h
/-- THE RULE for a def -/
theorem fnD {gu : Prop} {x qual : Str} {st : Stmt} {f : Addr} {fd : FuncData} {N ps : List Str} {k : Nat} {g : Slots → M Out} {dvs : List V} {kws : List (Str × V)} (F : FunD K x qual (defArgs st) (defBody st) (defScope st) dvs kws f fd) (S : FnScope N ps (defScope st)) (hl : ps.length ≤ N.length)
    (hb : ∀ (cdv : Value), fd.code = cdv → ∀ (A : Around) (outer : List Env) (s : Shared) (H : Hp) (E : XK) (p : Addr) (S : List Addr), Rm gu k (A.deeper (PyProof.Rows.envOfC qual (defScope st) s.heap.objs.size f cdv)) →
      PSs (cxOf (L2.CX P w) P w K mg base N qual (defScope st) f cdv A outer s H E) (defBody st) (dS ⟨K, T, p, S, H, 0, x0⟩ (fun cls d _ H => E cls d H) g)) :
    FnG gu P w K mg base (L2.CX P w) (k + 1) f fd ps (spF K T ps.length (fnM N.length g)) := by
  refine fn_okG F S (fun vs H Q E h => ?_) (fun cdv hcv A outer s H vs Q E hr h => ?_)
  · obtain ⟨p, S, ds, pt, _, _, e, rl, _⟩ := h
    rw [← RL.len rl, e]
  · obtain ⟨p, S, ds, pt, hp, hS, e, rl, hpot, q⟩ := h
    refine ⟨_, hb cdv hcv A outer s H E p S hr, ⟨[], _, pt, ini_rs (c := ⟨K, T, p, S, H, 0, x0⟩) hp hS rl hpot (by rw [e]; exact hl), ?_⟩⟩
    unfold fnM DF.bnd at q
    cases e2 : g (ini N.length ds) pt with
    | ok o p1 =>
      rw [e2] at q
      cases o with
      | nx ρ' => exact fun O' σ' H' rs _ => q .non H' ⟨fun a o n h m => rs.ext a o n h m, rs.pot⟩ (by simp [Cy.R, R])
      | rt d => exact fun v H' fi rv => q v H' ⟨fun a o n h m => fi.ext a o n h m, fi.pot⟩ rv
      | bk ρ' => exact q.elim
      | ct ρ' => exact q.elim
    | exc _ _ _ =>
      rw [e2] at q
      exact fun cls dd σ' H' fi x => q cls dd H' ⟨fun a o n h m => fi.ext a o n h m, fi.pot⟩ x
    | stuck =>
      rw [e2] at q
      exact q
end

/-! ### calls -/
section
variable {gu : Prop} {X : Cx} {c : Cy} {W : WX} {CX : CXT} {k : Nat} {f C : Addr} {fd : FuncData} {ps : List Str} {sp : Sp} {ds : List Value} {dvs : List V} {E : L2.St → XK} {x m : Str} {p pos apos : Pos} {e o : Expr} {es : List Expr} {ta : TE} {t : TA}
/-- the callee runs; what it lets out is wished for at the slots -/
theorem runAt {pins : List (Addr × Obj)} {σ : L2.St} {H : Hp} {s : Shared} {Q : VK} {us : List Value} {vs : List V} (F : FnG gu X.prog X.w X.K X.mg X.base CX k f fd ps sp) (hr : Rm gu k X.A) (hb : Binds X.K fd ps ds) (hd : Vals dvs ds) (hx : PassesAt CX X σ (E σ))
    (I : Inv X pins σ H s) (r : Vals vs us) (h : sp (vs ++ dvs) H Q (E σ)) : wpAny (model X.prog X.w) X.A (call (.ref f) us) (EP X pins σ Q) X.xe s := by
  have r2 := r.append hd
  have hl : (us ++ ds).length = ps.length := r2.length.symm.trans (F.len _ _ _ _ h)
  have go := F.run X.A X.stack s H ⟨us, []⟩ _ _ Q (E σ) hr I.env0 (hb s us I.kIn hl) r2 h
  refine wpAny_call (codeAny_mono go fun res s' hq => ?_)
  match res, hq with
  | .error e, hq => exact hx pins H s e s' I hq
  | .ok (.ret u), hq => exact I.after hq
def tCallA (sp : Sp) (dvs : List V) (E : L2.St → XK) (t : TA) : TE := fun σ H Q => t σ H fun vs H1 => sp (vs ++ dvs) H1 Q (E σ)
theorem pe_callA (F : FnG gu X.prog X.w X.K X.mg X.base CX k f fd ps sp) (hr : Rm gu k X.A) (hg : Gl X x) (hm : X.mg x = some (.ref f)) (hk : PySem.W.keepIn X.K (.ref f) = true) (hb : Binds X.K fd ps ds) (hd : Vals dvs ds) (hx : ∀ σ, PassesAt CX X σ (E σ)) (ha : PA X (e :: es) t)
    (hdb : (x == ("__debug__" : Str)) = false := by decide) (he : starEach (e :: es) X.env = (false, eval e X.env) :: starEach es X.env := by rfl) (hpl : (backTo pos (starEach es X.env)).any (·.1) = false := by rfl) : PE X (.Call (.Name x p) (e :: es) [] pos) (tCallA sp dvs E t) :=
  ⟨fun pins s σ H Q I h => wpAny_Call_Name_kw (ld_glob I hg hm (PySem.W.callWith_K (h₀ := X.base) I.ok.mod.kin hk (thn (ha.run pos pins s σ H _ I h) fun us s1 ⟨vs, H1, I1, r, q⟩ => ⟨I1.kIn, runAt F hr hb hd (hx σ) I1 r q⟩) he hpl) hdb)⟩
theorem pe_callA0 (F : FnG gu X.prog X.w X.K X.mg X.base CX k f fd ps sp) (hr : Rm gu k X.A) (hg : Gl X x) (hm : X.mg x = some (.ref f)) (hk : PySem.W.keepIn X.K (.ref f) = true) (hb : Binds X.K fd ps ds) (hd : Vals dvs ds) (hx : ∀ σ, PassesAt CX X σ (E σ))
    (hdb : (x == ("__debug__" : Str)) = false := by decide) : PE X (.Call (.Name x p) [] [] pos) (tCallA sp dvs E tNil) :=
  ⟨fun pins s σ H Q I h => wpAny_Call_Name_kw (ld_glob I hg hm (PySem.W.callWith_K0 I.kIn hk (runAt (us := []) F hr hb hd (hx σ) I .nil h)) hdb)⟩
def tMethA (C : Addr) (m : Str) (sp : Sp) (dvs : List V) (E : L2.St → XK) (ta : TE) (t : TA) : TE := fun σ H Q => ta σ H fun x H1 => ∃ a dx fs, x = .ref a ∧ H1 a = some (.ins C dx fs) ∧ fs.lookup m = none ∧ t σ H1 fun vs H2 => sp (.ref a :: (vs ++ dvs)) H2 Q (E σ)
theorem pe_methA {pl : Sem Bool} (he : PE X o ta) (cl : Cls X.K C) (hm : Meth X.K C m f) (F : FnG gu X.prog X.w X.K X.mg X.base CX k f fd ps sp) (hr : Rm gu k X.A) (hb : Binds X.K fd ps ds) (hd : Vals dvs ds) (hx : ∀ σ, PassesAt CX X σ (E σ)) (ha : PA X (e :: es) t)
    (hst : starEach (e :: es) X.env = (false, eval e X.env) :: starEach es X.env := by rfl) (hpl : (backTo pos (starEach es X.env)).any (·.1) = false := by rfl)
    (ht : eval (.Call (.Attribute o m apos) (e :: es) [] pos) X.env = (eval o X.env >>= fun ov => standAt apos.atName >>= fun _ => holding [ov] (getMethod ov m pl) >>= fun z => callWith pos z.1 z.2 (backTo pos (starEach (e :: es) X.env)) (backToKw pos (keywordEach [] X.env))) := by rfl) :
    PE X (.Call (.Attribute o m apos) (e :: es) [] pos) (tMethA C m sp dvs E ta t) := by
  refine ⟨fun pins s σ H Q I h => PySem.W.methodCall_KW (pl := pl) (thn (he.run pins s σ H _ I h) fun u s1 ⟨x, H1, I1, rx, a, dx, fs, ex, ea, l, q⟩ => ?_) ht⟩
  subst ex
  obtain rfl : u = Value.ref a := rx
  refine getmeth_ok I1 ea cl hm l (PySem.W.callWith_K (first := [.ref a]) (h₀ := X.base) I.ok.mod.kin hm.kp (thn (ha.run pos pins s1 σ H1 _ I1 q) fun us s2 ⟨vs, H2, I2, r, q2⟩ => ⟨I2.kIn, ?_⟩) hst hpl)
  exact runAt (us := .ref a :: us) (vs := .ref a :: vs) F hr hb hd (hx σ) I2 (.cons rfl r) q2
theorem pe_methA0 {pl : Sem Bool} (he : PE X o ta) (cl : Cls X.K C) (hm : Meth X.K C m f) (F : FnG gu X.prog X.w X.K X.mg X.base CX k f fd ps sp) (hr : Rm gu k X.A) (hb : Binds X.K fd ps ds) (hd : Vals dvs ds) (hx : ∀ σ, PassesAt CX X σ (E σ))
    (ht : eval (.Call (.Attribute o m apos) [] [] pos) X.env = (eval o X.env >>= fun ov => standAt apos.atName >>= fun _ => holding [ov] (getMethod ov m pl) >>= fun z => callWith pos z.1 z.2 (backTo pos (starEach [] X.env)) (backToKw pos (keywordEach [] X.env))) := by rfl) :
    PE X (.Call (.Attribute o m apos) [] [] pos) (tMethA C m sp dvs E ta tNil) := by
  refine ⟨fun pins s σ H Q I h => PySem.W.methodCall_KW (pl := pl) (thn (he.run pins s σ H _ I h) fun u s1 ⟨x, H1, I1, rx, a, dx, fs, ex, ea, l, q⟩ => ?_) ht⟩
  subst ex
  obtain rfl : u = Value.ref a := rx
  exact getmeth_ok I1 ea cl hm l (PySem.W.callWith_K0 (first := [.ref a]) I1.kIn hm.kp (runAt (us := [.ref a]) (vs := [.ref a]) F hr hb hd (hx σ) I1 (.cons rfl .nil) q))
def tMakeA (C : Addr) (sp : Sp) (dvs : List V) (E : L2.St → XK) (t : TA) : TE := fun σ H Q => t σ H fun vs H1 => ∀ x dx, H1 x = none → H1 dx = none → dx ≠ x →
  sp (.ref x :: (vs ++ dvs)) (upd (upd H1 dx (.own x)) x (.ins C dx [])) (fun v H2 => v = .non ∧ Q (.ref x) H2) (E σ)
theorem makeAt {pins : List (Addr × Obj)} {σ : L2.St} {H : Hp} {s : Shared} {Q : VK} {us : List Value} {vs : List V} (M : Mk X.K C f) (F : FnG gu X.prog X.w X.K X.mg X.base CX k f fd ps sp) (hr : Rm gu (k + 1) X.A) (hb : Binds X.K fd ps ds) (hd : Vals dvs ds) (hx : PassesAt CX X σ (E σ))
    (I : Inv X pins σ H s) (r : Vals vs us) (h : ∀ x dx, H x = none → H dx = none → dx ≠ x → sp (.ref x :: (vs ++ dvs)) (upd (upd H dx (.own x)) x (.ins C dx [])) (fun v H2 => v = .non ∧ Q (.ref x) H2) (E σ)) :
    wpAny (model X.prog X.w) X.A (call (.ref C) us) (EP X pins σ Q) X.xe s := by
  have hq := h (s.heap.objs.size + 1) s.heap.objs.size (I.hok.fresh (Nat.le_succ _)) (I.hok.fresh (Nat.le_refl _)) (Nat.ne_of_lt (Nat.lt_succ_self _))
  have J := Inv.made (C := C) I
  have r2 : Vals (V.ref (s.heap.objs.size + 1) :: (vs ++ dvs)) (Value.ref (s.heap.objs.size + 1) :: (us ++ ds)) := .cons rfl (r.append hd)
  have hl : (Value.ref (s.heap.objs.size + 1) :: us ++ ds).length = ps.length := r2.length.symm.trans (F.len _ _ _ _ hq)
  have go := F.run _ X.stack _ _ ⟨Value.ref (s.heap.objs.size + 1) :: us, []⟩ _ _ _ (E σ) (hr.make C us []) (J.env0.make C us []) (hb _ (Value.ref (s.heap.objs.size + 1) :: us) J.kIn hl) r2 hq
  refine wpAny_call (make_map (f := f) I.kIn M.makes M.init (beq_iff_eq.mp M.fn) (codeAny_mono go fun res s' hq' => ?_))
  match res, hq' with
  | .error e, hq' => exact hx pins _ _ e s' J hq'
  | .ok (.ret u), hq' =>
    obtain ⟨v, H', I3, rv, ev, q3⟩ := J.after hq'
    subst ev
    exact ⟨rv, ⟨V.ref (s.heap.objs.size + 1), H', I3, rfl, q3⟩⟩
theorem pe_makeA (M : Mk X.K C f) (F : FnG gu X.prog X.w X.K X.mg X.base CX k f fd ps sp) (hr : Rm gu (k + 1) X.A) (hg : Gl X x) (hm : X.mg x = some (.ref C)) (hb : Binds X.K fd ps ds) (hd : Vals dvs ds) (hx : ∀ σ, PassesAt CX X σ (E σ)) (ha : PA X (e :: es) t)
    (hdb : (x == ("__debug__" : Str)) = false := by decide) (he : starEach (e :: es) X.env = (false, eval e X.env) :: starEach es X.env := by rfl) (hpl : (backTo pos (starEach es X.env)).any (·.1) = false := by rfl) : PE X (.Call (.Name x p) (e :: es) [] pos) (tMakeA C sp dvs E t) :=
  ⟨fun pins s σ H Q I h => wpAny_Call_Name_kw (ld_glob I hg hm (PySem.W.callWith_K (h₀ := X.base) I.ok.mod.kin M.kp (thn (ha.run pos pins s σ H _ I h) fun us s1 ⟨vs, H1, I1, r, q⟩ => ⟨I1.kIn, makeAt M F hr hb hd (hx σ) I1 r q⟩) he hpl) hdb)⟩
theorem pe_makeA0 (M : Mk X.K C f) (F : FnG gu X.prog X.w X.K X.mg X.base CX k f fd ps sp) (hr : Rm gu (k + 1) X.A) (hg : Gl X x) (hm : X.mg x = some (.ref C)) (hb : Binds X.K fd ps ds) (hd : Vals dvs ds) (hx : ∀ σ, PassesAt CX X σ (E σ))
    (hdb : (x == ("__debug__" : Str)) = false := by decide) : PE X (.Call (.Name x p) [] [] pos) (tMakeA C sp dvs E tNil) :=
  ⟨fun pins s σ H Q I h => wpAny_Call_Name_kw (ld_glob I hg hm (PySem.W.callWith_K0 I.kIn M.kp (makeAt (us := []) M F hr hb hd (hx σ) I .nil h)) hdb)⟩
end

/-! ### the same of data -/
section
variable {gu : Prop} {X : Cx} {c : Cy} {W : WX} {k n : Nat} {f C : Addr} {fd : FuncData} {ps : List Str} {ds : List Value} {dvs : List V} {dd : List D} {x m : Str} {p pos apos : Pos} {e o : Expr} {es : List Expr} {fm : List D → M D} {fa : Slots → M (List D)} {fo : Slots → M D}
theorem RX.less {c c' : Cy} {H : Hp} {e : Nat} {fs : List D} {cls : Value} {dd : Option Addr} (h : RX c' H e fs cls dd) (hK : c'.K = c.K) (hT : c'.T = c.T) (hp : c'.p = c.p) (hS : ∀ a ∈ c.S, a ∈ c'.S) : RX c H e fs cls dd := by
  obtain ⟨K, T, p, S, H0, me, x0⟩ := c
  obtain ⟨K', T', p', S', H0', me', x1⟩ := c'
  simp only at hK hT hp hS
  subst hK hT hp
  exact Xv.gr (c := ⟨K', T', p', S, H0, me, x0⟩) (Hd.sub hS) h
/-- what a call of data asks, from what is wanted of its outcome -/
theorem spF_of {σ : L2.St} {O : List (Nat × Addr)} {ρ : Slots} {pt : Pot} {H : Hp} {xs : List D} {vs : List V} {Q : VK} (rs : RS c O ρ σ H pt) (rl : c.RL (Hd (hid c O) H) xs vs) (hl : xs.length = n)
    (h : Wg c W σ H (fun d _ H' => ∀ v, c.R (Hd (hid c O) H') d v → Q v H') (fm xs pt)) : spF c.K c.T n fm vs H Q (WE W σ) := by
  refine ⟨c.p, hid c O, xs, pt, rs.pm, fun a h => rs.hidden h, hl, rl, rs.pot, ?_⟩
  cases e : fm xs pt with
  | ok d p1 =>
    rw [e] at h
    exact fun v H' st rv => h H' st v rv
  | exc k fs p1 =>
    rw [e] at h
    exact fun cls dd H' st rx => h cls dd H' st (RX.less rx rfl rfl rfl fun a h => List.mem_append_left _ h)
  | stuck =>
    rw [e] at h
    exact h
/-- data that stand in every heap: defaults -/
def Cst (c : Cy) (dd : List D) (dvs : List V) : Prop := ∀ H, c.RL H dd dvs
theorem Cst.nil : Cst c [] [] := fun _ => RL.nil
theorem Cst.int {i : Int} (h : Cst c dd dvs) : Cst c (.int i :: dd) (.int i :: dvs) := fun H => RL.cons (by simp [R]) (h H)
theorem Cst.non (h : Cst c dd dvs) : Cst c (.non :: dd) (.non :: dvs) := fun H => RL.cons (by simp [R]) (h H)
theorem Cst.bl {b : Bool} (h : Cst c dd dvs) : Cst c (.bl b :: dd) (.bl b :: dvs) := fun H => RL.cons (by simp [R]) (h H)
def callE (n : Nat) (fm : List D → M D) (dd : List D) (fa : Slots → M (List D)) : Slots → M D := fun ρ => bnd (fa ρ) fun ds => if (ds ++ dd).length = n then fm (ds ++ dd) else fail
theorem de_call (F : FnG gu X.prog X.w X.K X.mg X.base (L2.CX X.prog X.w) k f fd ps (spF c.K c.T n fm)) (hr : Rm gu k X.A) (tk : Takes X W) (hm : X.mg x = some (.ref f)) (hk : PySem.W.keepIn X.K (.ref f) = true) (hb : Binds X.K fd ps ds) (hd : Vals dvs ds) (hc : Cst c dd dvs) (ha : PA X (e :: es) (dA c W fa))
    (hg : Gl X x := by rfl) (hdb : (x == ("__debug__" : Str)) = false := by decide) (he : starEach (e :: es) X.env = (false, eval e X.env) :: starEach es X.env := by rfl) (hpl : (backTo pos (starEach es X.env)).any (·.1) = false := by rfl) :
    PE X (.Call (.Name x p) (e :: es) [] pos) (dE c W (callE n fm dd fa)) := by
  refine pe_imp (pe_callA F hr hg hm hk hb hd (passAt tk) ha hdb he hpl) fun σ H Q ⟨O, ρ, pt, r, q⟩ => ⟨O, ρ, pt, r, (Wg.bnd q).imp fun ds p1 H1 _ s1 q vs rvs => ?_⟩
  by_cases hz : (ds ++ dd).length = n
  · rw [if_pos hz] at q
    exact spF_of (r.stp s1) (RL.app rvs (hc _)) hz q
  · rw [if_neg hz] at q
    exact q.elim
theorem de_call0 (F : FnG gu X.prog X.w X.K X.mg X.base (L2.CX X.prog X.w) k f fd ps (spF c.K c.T n fm)) (hr : Rm gu k X.A) (tk : Takes X W) (hm : X.mg x = some (.ref f)) (hk : PySem.W.keepIn X.K (.ref f) = true) (hb : Binds X.K fd ps ds) (hd : Vals dvs ds) (hc : Cst c dd dvs)
    (hg : Gl X x := by rfl) (hdb : (x == ("__debug__" : Str)) = false := by decide) : PE X (.Call (.Name x p) [] [] pos) (dE c W (callE n fm dd nilA)) := by
  refine pe_imp (pe_callA0 F hr hg hm hk hb hd (passAt tk) hdb) fun σ H Q ⟨O, ρ, pt, r, q⟩ => ?_
  have q := Wg.here (Wg.bnd q) r.pot
  by_cases hz : ([] ++ dd).length = n
  · rw [if_pos hz] at q
    exact spF_of (vs := [] ++ dvs) r (hc _) hz q
  · rw [if_neg hz] at q
    exact q.elim
/-- a method of the class number kc -/
def methE (kc : Nat) (n : Nat) (fm : List D → M D) (dd : List D) (fo : Slots → M D) (fa : Slots → M (List D)) : Slots → M D := fun ρ => bnd (fo ρ) fun z => match z with
  | .obj j fs => if j = kc then bnd (fa ρ) fun ds => if (ds ++ dd).length + 1 = n then fm (.obj j fs :: (ds ++ dd)) else fail else fail
  | _ => fail
theorem no_attr {T : Tb} {kc : Nat} {m : Str} {vs : List V} (h : m ∉ T.names kc) : ((T.names kc).zip vs).lookup m = none := by
  generalize T.names kc = ns at h
  induction ns generalizing vs with
  | nil => rfl
  | cons a as ih =>
    cases vs with
    | nil => rfl
    | cons v vs =>
      show (match m == a with | true => _ | false => _) = _
      have : (m == a) = false := by
        rw [beq_eq_false_iff_ne]
        intro q
        exact h (q ▸ List.mem_cons_self)
      rw [this]
      exact ih fun q => h (List.mem_cons_of_mem _ q)
theorem de_meth {kc : Nat} {pl : Sem Bool} (ho : PE X o (dE c W fo)) (hC : c.T.cls kc = C) (hno : m ∉ c.T.names kc) (cl : Cls X.K C) (hm : Meth X.K C m f) (F : FnG gu X.prog X.w X.K X.mg X.base (L2.CX X.prog X.w) k f fd ps (spF c.K c.T n fm)) (hr : Rm gu k X.A) (tk : Takes X W) (hb : Binds X.K fd ps ds) (hd : Vals dvs ds) (hc : Cst c dd dvs) (ha : PA X (e :: es) (dA c W fa))
    (hst : starEach (e :: es) X.env = (false, eval e X.env) :: starEach es X.env := by rfl) (hpl : (backTo pos (starEach es X.env)).any (·.1) = false := by rfl)
    (ht : eval (.Call (.Attribute o m apos) (e :: es) [] pos) X.env = (eval o X.env >>= fun ov => standAt apos.atName >>= fun _ => holding [ov] (getMethod ov m pl) >>= fun z => callWith pos z.1 z.2 (backTo pos (starEach (e :: es) X.env)) (backToKw pos (keywordEach [] X.env))) := by rfl) :
    PE X (.Call (.Attribute o m apos) (e :: es) [] pos) (dE c W (methE kc n fm dd fo fa)) := by
  refine pe_imp (pe_methA (pl := pl) ho cl hm F hr hb hd (passAt tk) ha hst hpl ht) fun σ H Q ⟨O, ρ, pt, r, q⟩ => ⟨O, ρ, pt, r, (Wg.bnd q).imp fun z p1 H1 _ s1 qz v rv => ?_⟩
  cases z with
  | obj j fs =>
    simp only at qz
    by_cases hj : j = kc
    · rw [if_pos hj] at qz
      subst hj
      have rv' := rv
      simp only [Cy.R, R] at rv
      obtain ⟨a, dx, ws, rfl, ha, _, _⟩ := rv
      refine ⟨a, dx, _, rfl, by rw [← hC]; exact Hd.le _ _ ha, no_attr hno, ⟨O, ρ, p1, r.stp s1, (Wg.bnd qz).imp fun ds p2 H2 _ s2 q vs rvs => ?_⟩⟩
      by_cases hz : (ds ++ dd).length + 1 = n
      · rw [if_pos hz] at q
        exact spF_of ((r.stp s1).stp s2) (RL.cons (R.gr (s2.gr r.pm) rv') (RL.app rvs (hc _))) hz q
      · rw [if_neg hz] at q
        exact q.elim
    · rw [if_neg hj] at qz
      exact qz.elim
  | _ => exact qz.elim
theorem de_meth0 {kc : Nat} {pl : Sem Bool} (ho : PE X o (dE c W fo)) (hC : c.T.cls kc = C) (hno : m ∉ c.T.names kc) (cl : Cls X.K C) (hm : Meth X.K C m f) (F : FnG gu X.prog X.w X.K X.mg X.base (L2.CX X.prog X.w) k f fd ps (spF c.K c.T n fm)) (hr : Rm gu k X.A) (tk : Takes X W) (hb : Binds X.K fd ps ds) (hd : Vals dvs ds) (hc : Cst c dd dvs)
    (ht : eval (.Call (.Attribute o m apos) [] [] pos) X.env = (eval o X.env >>= fun ov => standAt apos.atName >>= fun _ => holding [ov] (getMethod ov m pl) >>= fun z => callWith pos z.1 z.2 (backTo pos (starEach [] X.env)) (backToKw pos (keywordEach [] X.env))) := by rfl) :
    PE X (.Call (.Attribute o m apos) [] [] pos) (dE c W (methE kc n fm dd fo nilA)) := by
  refine pe_imp (pe_methA0 (pl := pl) ho cl hm F hr hb hd (passAt tk) ht) fun σ H Q ⟨O, ρ, pt, r, q⟩ => ⟨O, ρ, pt, r, (Wg.bnd q).imp fun z p1 H1 _ s1 qz v rv => ?_⟩
  cases z with
  | obj j fs =>
    simp only at qz
    by_cases hj : j = kc
    · rw [if_pos hj] at qz
      subst hj
      have rv' := rv
      simp only [Cy.R, R] at rv
      obtain ⟨a, dx, ws, rfl, ha, _, _⟩ := rv
      refine ⟨a, dx, _, rfl, by rw [← hC]; exact Hd.le _ _ ha, no_attr hno, ?_⟩
      have q := Wg.here (Wg.bnd qz) s1.pot
      by_cases hz : (([] : List D) ++ dd).length + 1 = n
      · rw [if_pos hz] at q
        exact spF_of (vs := .ref a :: ([] ++ dvs)) (r.stp s1) (RL.cons rv' (hc _)) hz q
      · rw [if_neg hz] at q
        exact q.elim
    · rw [if_neg hj] at qz
      exact qz.elim
  | _ => exact qz.elim
end
end DF

set_option Elab.async false
set_option linter.all false
set_option maxRecDepth 100000
set_option maxHeartbeats 4000000
namespace DF
open PySem L2
/-! ### objects: made, their fields -/
structure StpI (tb : List (Addr × Str)) (p x : Addr) (H H' : Hp) (pt : Pot) : Prop where
  keep : ∀ a o, a ≠ p → a ≠ x → H a = some o → (n : nt o = true := by rfl) → H' a = some o
  pot : Pots tb p H' pt
def Wi (c : Cy) (kc : Nat) (x : Addr) (H : Hp) (Q : VK) (E : XK) : Res (List D) → Prop
  | .ok fs pt => ∀ H' dx fvs, StpI c.T.tb c.p x H H' pt → H' x = some (.ins (c.T.cls kc) dx ((c.T.names kc).zip fvs)) → fs.length = (c.T.names kc).length → c.RL (Hd (x :: c.S) H') fs fvs → Q .non H'
  | .exc e fs pt => ∀ cls dd H', StpI c.T.tb c.p x H H' pt → RX c H' e fs cls dd → E cls dd H'
  | .stuck => False
def spI (K : PySem.W.Frag) (T : Tb) (kc n : Nat) (m : List D → M (List D)) : Sp := fun vs H Q E => ∃ p S x dx ds ws pt, vs = .ref x :: ws ∧ p ∈ S ∧ (∀ a ∈ S, ∃ o, H a = some o ∧ mt o = true) ∧ x ∉ S ∧ ds.length + 1 = n ∧ H x = some (.ins (T.cls kc) dx []) ∧
  RL K T p (Hd (x :: S) H) ds ws ∧ Pots T.tb p H pt ∧ Wi ⟨K, T, p, S, H, x, x0⟩ kc x H Q E (m ds pt)
def fldsOf (kc nf : Nat) : Slots → Option (List D)
  | some (.slf j fs) :: _ => if j = kc ∧ fs.length = nf then some fs else none
  | _ => none
def iniM (kc nf n : Nat) (g : Slots → M Out) : List D → M (List D) := fun ds => bnd (g (some (.slf kc []) :: ini n ds)) fun o => match o with
  | .nx ρ => opt (fldsOf kc nf ρ)
  | _ => fail
section
variable {P : Program} {w : World} {K : PySem.W.Frag} {mg : Str → Option Value} {base : Heap} {T : Tb}
theorem iniI_rs {c : Cy} {y : Str} {N : List Str} {ds : List D} {vs : List V} {pt : Pot} {H : Hp} {dx : Addr} {kc : Nat} (h0 : c.H0 = Hd [c.me] H) (hx : c.me ∉ c.S) (hp : c.p ∈ c.S) (hS : ∀ a ∈ c.S, ∃ o, H a = some o ∧ mt o = true) (hi : H c.me = some (.ins (c.T.cls kc) dx []))
    (rl : c.RL (Hd (c.me :: c.S) H) ds vs) (hpot : Pots c.T.tb c.p H pt) (hl : ds.length ≤ N.length) :
    RS c [(0, c.me)] (some (.slf kc []) :: ini N.length ds) (L2.start (y :: N) (.ref c.me :: vs)) H pt := by
  have lv := RL.len rl
  have eh : ∀ a, a ∈ hid c [(0, c.me)] → a ∈ c.me :: c.S := fun a h => (List.mem_append.mp h).elim (fun z => List.mem_cons_of_mem _ z) fun z => by
    have : a = c.me := by simpa using z
    rw [this]; exact List.mem_cons_self
  have hst : L2.start (y :: N) (.ref c.me :: vs) = some (.ref c.me) :: L2.start N vs := by
    unfold L2.start
    simp [Nat.succ_sub_succ]
  rw [hst]
  refine ⟨hpot, fun a o n h m => ?_, hp, fun a h => ?_, fun q hq => ?_, ?_, ?_, ?_, fun q hq => ⟨.slf kc [], by rw [List.mem_singleton.mp hq]; rfl, rfl⟩, fun i s h => ?_⟩
  · rw [h0] at h
    exact (Hd.sees h).2.1
  · exact hS a h
  · have e : q = (0, c.me) := by simpa using hq
    subst e
    refine ⟨?_, fun z => hx (show c.me ∈ c.S from (show c.me = c.p from z) ▸ hp), hx, _, hi, rfl⟩
    rw [h0]
    exact Hd.no (Hd.in_ List.mem_cons_self)
  · simp
  · simp
  · simp only [List.length_cons]
    unfold ini L2.start
    simp [lv]
  · cases i with
    | zero =>
      simp only [List.getElem?_cons_zero] at h
      cases h
      exact ⟨c.me, dx, [], List.mem_cons_self, rfl, rfl, by simpa using hi, Nat.zero_le _, RL.nil⟩
    | succ i =>
      simp only [List.getElem?_cons_succ] at h ⊢
      unfold ini at h
      unfold L2.start
      by_cases hi : i < ds.length
      · rw [List.getElem?_append_left (by rw [List.length_map]; exact hi), List.getElem?_map] at h
        cases e : ds[i]? with
        | none => rw [e] at h; cases h
        | some d =>
          rw [e] at h
          cases h
          obtain ⟨v, ev, rv⟩ := RL.getD rl e
          refine ⟨v, ?_, R.gr (Hd.sub eh) rv⟩
          rw [List.getElem?_append_left (by rw [List.length_map, ← lv]; exact hi), List.getElem?_map, ev]
          rfl
      · rw [List.getElem?_append_right (by rw [List.length_map]; omega), List.getElem?_replicate] at h
        split at h
        · cases h
        · cases h
/-- THE RULE for an __init__ -/
theorem fnI {gu : Prop} {x qual y : Str} {st : Stmt} {f : Addr} {fd : FuncData} {N ps : List Str} {k kc : Nat} {g : Slots → M Out} {dvs : List V} {kws : List (Str × V)} (F : FunD K x qual (defArgs st) (defBody st) (defScope st) dvs kws f fd) (S : FnScope (y :: N) (y :: ps) (defScope st)) (hl : ps.length ≤ N.length)
    (hb : ∀ (cdv : Value), fd.code = cdv → ∀ (A : Around) (outer : List Env) (s : Shared) (H H0 : Hp) (E : XK) (p me : Addr) (S : List Addr), Rm gu k (A.deeper (PyProof.Rows.envOfC qual (defScope st) s.heap.objs.size f cdv)) →
      PSs (cxOf (L2.CX P w) P w K mg base (y :: N) qual (defScope st) f cdv A outer s H E) (defBody st) (dS ⟨K, T, p, S, H0, me, x0⟩ (fun cls d _ H => E cls d H) g))
    {nf : Nat} (hnf : nf = (T.names kc).length) : FnG gu P w K mg base (L2.CX P w) (k + 1) f fd (y :: ps) (spI K T kc (y :: ps).length (iniM kc nf N.length g)) := by
  refine fn_okG F S (fun vs H Q E h => ?_) (fun cdv hcv A outer s H vs Q E hr h => ?_)
  · obtain ⟨p, S, x, dx, ds, ws, pt, rfl, _, _, _, e, _, rl, _⟩ := h
    rw [List.length_cons, ← RL.len rl, e]
  · obtain ⟨p, S, x, dx, ds, ws, pt, rfl, hp, hS, hx, e, hi, rl, hpot, q⟩ := h
    have le : ds.length ≤ N.length := by
      simp only [List.length_cons] at e
      omega
    refine ⟨_, hb cdv hcv A outer s H (Hd [x] H) E p x S hr, ⟨[(0, x)], _, pt, iniI_rs (c := ⟨K, T, p, S, Hd [x] H, x, x0⟩) (N := N) rfl hx hp hS hi rl hpot le, ?_⟩⟩
    unfold iniM DF.bnd at q
    have keepI : ∀ {H' : Hp} {p1 : Pot}, Fin ⟨K, T, p, S, Hd [x] H, x, x0⟩ H' p1 → StpI T.tb p x H H' p1 := fun fi => ⟨fun a o n1 n2 h m => fi.ext a o n1 (Hd.out (fun z => n2 (List.mem_singleton.mp z)) h m) m, fi.pot⟩
    cases e2 : g (some (.slf kc []) :: ini N.length ds) pt with
    | ok o p1 =>
      rw [e2] at q
      cases o with
      | nx ρ' =>
        intro O' σ' H' rs _
        simp only at q
        cases ef : fldsOf kc nf ρ' with
        | none => rw [ef] at q; exact q.elim
        | some fs =>
          rw [ef] at q
          unfold fldsOf at ef
          split at ef
          · rename_i j fs' rest
            split at ef
            · rename_i hj
              cases ef
              obtain ⟨hj, hf⟩ := hj
              subst hj
              obtain ⟨a, dx', vs', m, em, _, ha, _, rl'⟩ := rs.sl 0 _ rfl
              have em' : a = x := em
              subst em'
              refine q H' dx' vs' (keepI rs.fin) ha (hf.trans hnf) (RL.gr (Hd.sub fun b hb => ?_) rl')
              rcases List.mem_cons.mp hb with z | z
              · rw [z]; exact List.mem_append_right _ (List.mem_map.mpr ⟨_, m, rfl⟩)
              · exact List.mem_append_left _ z
            · cases ef
          · cases ef
      | rt d => exact q.elim
      | bk ρ' => exact q.elim
      | ct ρ' => exact q.elim
    | exc _ _ _ =>
      rw [e2] at q
      exact fun cls dd σ' H' fi x => q cls dd H' (keepI fi) x
    | stuck =>
      rw [e2] at q
      exact q
end
section
variable {X : Cx} {c : Cy} {W : WX} {σ : L2.St} {H H' : Hp} {O : List (Nat × Addr)} {ρ : Slots} {pt pt' : Pot}
/-- what is one's own is changed -/
theorem RS.mut (r : RS c O ρ σ H pt) {i : Nat} {a : Addr} {o : HO} {s' : SV} (m : (i, a) ∈ O) (h : (Gr (Hd (hid c O) H) (Hd (hid c O) (upd H a o))) → SlotOk c O (upd H a o) i σ[i]? s') (hi : i < ρ.length) (ho : isOwn s' = true := by rfl) (mo : mt o = true := by rfl) :
    RS c O (ρ.set i (some s')) σ (upd H a o) pt ∧ Mv c O H O (upd H a o) := by
  have ah : a ∈ hid c O := List.mem_append_right _ (List.mem_map.mpr ⟨_, m, rfl⟩)
  have ap : c.p ≠ a := fun z => (r.new _ m).2.1 z.symm
  have g : Gr (Hd (hid c O) H) (Hd (hid c O) (upd H a o)) := fun b u e => by
    obtain ⟨h1, h2, h3⟩ := Hd.sees e
    exact Hd.out h1 (by rw [upd_ne (fun z : b = a => h1 (z ▸ ah))]; exact h2) h3
  obtain ⟨u0, e0, m0⟩ := r.hidden ah
  refine ⟨⟨r.pot.upd ap e0 m0, fun b u n e nn => ?_, r.hp, fun b hb => ?_, fun q hq => ?_, r.nd, r.nf, by rw [List.length_set]; exact r.len, fun q hq => ?_, fun j s hj => ?_⟩, fun b u h1 h2 _ => ⟨h1, by rw [upd_ne (fun z : b = a => h1 (z ▸ ah))]; exact h2⟩⟩
  · rw [upd_ne (Hd.ne e nn (r.new _ m).1)]
    exact r.ext b u n e nn
  · obtain ⟨u, e, mu⟩ := r.hS b hb
    by_cases z : b = a
    · exact ⟨o, by rw [z, upd_same], mo⟩
    · exact ⟨u, by rw [upd_ne z]; exact e, mu⟩
  · obtain ⟨h1, h2, h4, u, h3, mu⟩ := r.new q hq
    refine ⟨h1, h2, h4, ?_⟩
    by_cases z : q.2 = a
    · exact ⟨o, by rw [z, upd_same], mo⟩
    · exact ⟨u, by rw [upd_ne z]; exact h3, mu⟩
  · by_cases e : q.1 = i
    · rw [e]
      exact ⟨s', List.getElem?_set_self hi, ho⟩
    · rw [List.getElem?_set_ne (Ne.symm e)]
      exact r.ow q hq
  · by_cases e : j = i
    · subst e
      rw [List.getElem?_set_self hi] at hj
      cases hj
      exact h g
    · rw [List.getElem?_set_ne (Ne.symm e)] at hj
      have q := r.sl j s hj
      have ne : ∀ {b : Addr}, (j, b) ∈ O → b ≠ a := fun mb z => by
        have := same_of r.nd m mb z
        cases this
        exact e rfl
      cases s with
      | val d =>
        obtain ⟨v, e, r⟩ := q
        exact ⟨v, e, R.gr g r⟩
      | own ds =>
        obtain ⟨b, vs, m, e, q, r⟩ := q
        exact ⟨b, vs, m, e, by rw [upd_ne (ne m)]; exact q, RL.gr g r⟩
      | ownd ds =>
        obtain ⟨b, vs, m, e, q, r⟩ := q
        exact ⟨b, vs, m, e, by rw [upd_ne (ne m)]; exact q, RK.gr g r⟩
      | slf k fs =>
        obtain ⟨b, dx, vs, m, em, e, q, l, r⟩ := q
        exact ⟨b, dx, vs, m, em, e, by rw [upd_ne (ne m)]; exact q, l, RL.gr g r⟩
      | exv e fs => exact ⟨q.1, Xv.gr g q.2⟩
      | lam => exact ⟨q.1, g _ _ q.2⟩
      | raw v => exact q
theorem putF_new {f : Str} {y : V} : ∀ {fs : List (Str × V)}, f ∉ fs.map (·.1) → putF f y fs = fs ++ [(f, y)]
  | [], _ => rfl
  | (g, v) :: fs, h => by
    have h1 : f ≠ g := fun e => h (by rw [e]; exact List.mem_cons_self)
    show (if g = f then _ else (g, v) :: putF f y fs) = _
    rw [if_neg (Ne.symm h1), putF_new fun q => h (List.mem_cons_of_mem _ q)]
    rfl
theorem zip_put {ns : List Str} {vs : List V} {f : Str} {y : V} (nd : ns.Nodup) (h : ns[vs.length]? = some f) : putF f y (ns.zip vs) = ns.zip (vs ++ [y]) := by
  have hl := (List.getElem?_eq_some_iff.mp h).1
  induction ns generalizing vs with
  | nil => simp at hl
  | cons n ns ih =>
    cases vs with
    | nil =>
      simp at h
      subst h
      simp [putF]
    | cons v vs =>
      simp only [List.length_cons, List.getElem?_cons_succ] at h
      have nd' := List.nodup_cons.mp nd
      have hn : n ≠ f := fun e => nd'.1 (e ▸ List.mem_of_getElem? h)
      have hl' := (List.getElem?_eq_some_iff.mp h).1
      show (if n = f then _ else (n, v) :: putF f y (ns.zip vs)) = _
      rw [if_neg hn, ih nd'.2 h hl']
      rfl
/-- self.f = e, the field number ix -/
def fldS (i kc ix : Nat) (f : Slots → M D) : Slots → M Out := fun ρ => bnd (f ρ) fun d => match ρ[i]? with
  | some (some (.slf k fs)) => if k = kc ∧ fs.length = ix then ret (.nx (ρ.set i (some (.slf k (fs ++ [d]))))) else fail
  | _ => fail
theorem ds_fld {i kc ix : Nat} {x f : Str} {C : Addr} {e : Expr} {g : Slots → M D} {p1 p2 pos : Pos} (h : PE X e (dE c W g)) (hC : c.T.cls kc = C) (cl : Cls X.K C) (hno : NoAttr X.K C f) (nd : (c.T.names kc).Nodup) (hf : (c.T.names kc)[ix]? = some f) (hsz : (c.T.names kc).length < 1000)
    (hN : X.N[i]? = some x := by rfl) (hv : Vis X.env.scope x := by first | exact Or.inl rfl | exact Or.inr (Or.inl rfl)) (hd : (x == ("__debug__" : Str)) = false := by decide) (hcd : (x == ("__classdict__" : Str)) = false := by decide)
    (hs : swapsWith e (some (.Attribute (.Name x p1) f p2)) pos.line X.env = pure false := by rfl) : PS X (.Assign [.Attribute (.Name x p1) f p2] e pos) (dS c W (fldS i kc ix g)) := by
  refine ps_imp (ps_fld (pe_var (i := i) hN hv hd hcd) h hs) fun E σ H ⟨O, ρ, pt, r, h⟩ => ⟨O, ρ, pt, r, (WO.bnd r h).imp fun d p1 H1 _ s1 q v rv => ?_⟩
  have r1 := r.stp s1
  revert q
  match hρ : ρ[i]? with
  | some (some (.slf k fs)) =>
    intro q
    simp only at q
    by_cases hz : k = kc ∧ fs.length = ix
    · rw [if_pos hz] at q
      obtain ⟨rfl, rfl⟩ := hz
      obtain ⟨a, dx, vs, m, em, ev, ha, hl, rl⟩ := r1.sl i _ hρ
      have lv := RL.len rl
      refine ⟨_, ev, a, C, dx, _, rfl, by rw [← hC]; exact ha, cl, hno, by rw [List.length_zip]; omega, ?_⟩
      rw [← hC, zip_put nd (by rw [← lv]; exact hf)]
      have hi : i < ρ.length := (List.getElem?_eq_some_iff.mp hρ).1
      have hle : (fs ++ [d]).length ≤ (c.T.names k).length := by
        have := (List.getElem?_eq_some_iff.mp hf).1
        rw [List.length_append]
        simp only [List.length_cons, List.length_nil]
        omega
      obtain ⟨rs, mv⟩ := r1.mut (s' := .slf k (fs ++ [d])) m (o := .ins (c.T.cls k) dx ((c.T.names k).zip (vs ++ [v]))) (fun gr => ⟨a, dx, vs ++ [v], m, em, ev, upd_same, hle, RL.app (RL.gr gr rl) (RL.one (R.gr gr rv))⟩) hi
      exact q _ _ _ rs mv
    · rw [if_neg hz] at q
      exact q.elim
  | some (some (.val _)) => exact fun q => q.elim
  | some (some (.own _)) => exact fun q => q.elim
  | some (some (.ownd _)) => exact fun q => q.elim
  | some (some (.exv _ _)) => exact fun q => q.elim
  | some (some .lam) => exact fun q => q.elim
  | some (some (.raw _)) => exact fun q => q.elim
  | some none => exact fun q => q.elim
  | none => exact fun q => q.elim
/-- C(e, ..) -/
def makeE (kc n : Nat) (m : List D → M (List D)) (dd : List D) (fa : Slots → M (List D)) : Slots → M D := fun ρ => bnd (fa ρ) fun ds => if (ds ++ dd).length + 1 = n then bnd (m (ds ++ dd)) fun fs => ret (.obj kc fs) else fail
theorem spI_of {kc n : Nat} {m : List D → M (List D)} {xs : List D} {vs : List V} {Q : VK} {x dx : Addr} {C : Addr} (rs : RS c O ρ σ H pt) (rl : c.RL (Hd (hid c O) H) xs vs) (hl : xs.length + 1 = n) (hC : c.T.cls kc = C) (hx : H x = none) (hdx : H dx = none) (ne : dx ≠ x)
    (h : Wg c W σ H (fun d _ H' => ∀ v, c.R (Hd (hid c O) H') d v → Q v H') (bnd (m xs) (fun fs => ret (.obj kc fs)) pt)) :
    spI c.K c.T kc n m (.ref x :: vs) (upd (upd H dx (.own x)) x (.ins C dx [])) (fun v H2 => v = .non ∧ Q (.ref x) H2) (WE W σ) := by
  have g0 : Gr H (upd (upd H dx (.own x)) x (.ins C dx [])) := fun a o e => by
    rw [upd_ne (ne_of_none e hx), upd_ne (ne_of_none e hdx)]
    exact e
  have xh : x ∉ hid c O := rs.fresh hx
  have h := Wg.bnd h
  refine ⟨c.p, hid c O, x, dx, xs, vs, pt, rfl, rs.pm, fun a ha => let ⟨o, e, m⟩ := rs.hidden ha; ⟨o, g0 _ _ e, m⟩, xh, hl, by rw [hC]; exact upd_same, RL.gr (fun a o e => ?_) rl, rs.pot.ext g0, ?_⟩
  · obtain ⟨h1, h2, h3⟩ := Hd.sees e
    exact Hd.out (fun z => (List.mem_cons.mp z).elim (ne_of_none h2 hx) h1) (g0 _ _ h2) h3
  · have step : ∀ {H' : Hp} {p1 : Pot}, StpI c.T.tb c.p x (upd (upd H dx (.own x)) x (.ins C dx [])) H' p1 → Stp c.T.tb c.p H H' p1 := fun st => ⟨fun a o n e m => st.keep a o n (ne_of_none e hx) (g0 _ _ e) m, st.pot⟩
    cases e : m xs pt with
    | ok fs p1 =>
      rw [e] at h
      intro H' dx' fvs st hx' hn rf
      refine ⟨rfl, Wg.here (h H' (step st)) st.pot _ ?_⟩
      simp only [Cy.R, R]
      exact ⟨x, dx', fvs, rfl, Hd.out xh hx', hn, RL.gr (Hd.sub fun b hb => List.mem_cons_of_mem _ hb) rf⟩
    | exc k fs p1 =>
      rw [e] at h
      exact fun cls dd H' st rx => h cls dd H' (step st) (RX.less rx rfl rfl rfl fun a h => List.mem_append_left _ h)
    | stuck =>
      rw [e] at h
      exact h
variable {gu : Prop} {k n kc : Nat} {f C : Addr} {fd : FuncData} {ps : List Str} {ds : List Value} {dvs : List V} {dd : List D} {x m : Str} {p pos apos : Pos} {e o : Expr} {es : List Expr} {fm : List D → M (List D)} {fa : Slots → M (List D)} {fo : Slots → M D}
theorem de_make (M : Mk X.K C f) (F : FnG gu X.prog X.w X.K X.mg X.base (L2.CX X.prog X.w) k f fd ps (spI c.K c.T kc n fm)) (hr : Rm gu (k + 1) X.A) (tk : Takes X W) (hm : X.mg x = some (.ref C)) (hC : c.T.cls kc = C) (hb : Binds X.K fd ps ds) (hd : Vals dvs ds) (hc : Cst c dd dvs) (ha : PA X (e :: es) (dA c W fa))
    (hg : Gl X x := by rfl) (hdb : (x == ("__debug__" : Str)) = false := by decide) (he : starEach (e :: es) X.env = (false, eval e X.env) :: starEach es X.env := by rfl) (hpl : (backTo pos (starEach es X.env)).any (·.1) = false := by rfl) :
    PE X (.Call (.Name x p) (e :: es) [] pos) (dE c W (makeE kc n fm dd fa)) := by
  refine pe_imp (pe_makeA M F hr hg hm hb hd (passAt tk) ha hdb he hpl) fun σ H Q ⟨O, ρ, pt, r, q⟩ => ⟨O, ρ, pt, r, (Wg.bnd q).imp fun ds p1 H1 _ s1 q vs rvs => ?_⟩
  by_cases hz : (ds ++ dd).length + 1 = n
  · rw [if_pos hz] at q
    exact fun x dx h1 h2 h3 => spI_of (r.stp s1) (RL.app rvs (hc _)) hz hC h1 h2 h3 q
  · rw [if_neg hz] at q
    exact q.elim
theorem de_make0 (M : Mk X.K C f) (F : FnG gu X.prog X.w X.K X.mg X.base (L2.CX X.prog X.w) k f fd ps (spI c.K c.T kc n fm)) (hr : Rm gu (k + 1) X.A) (tk : Takes X W) (hm : X.mg x = some (.ref C)) (hC : c.T.cls kc = C) (hb : Binds X.K fd ps ds) (hd : Vals dvs ds) (hc : Cst c dd dvs)
    (hg : Gl X x := by rfl) (hdb : (x == ("__debug__" : Str)) = false := by decide) : PE X (.Call (.Name x p) [] [] pos) (dE c W (makeE kc n fm dd nilA)) := by
  refine pe_imp (pe_makeA0 M F hr hg hm hb hd (passAt tk) hdb) fun σ H Q ⟨O, ρ, pt, r, q⟩ => ?_
  have q := Wg.here (Wg.bnd q) r.pot
  by_cases hz : (([] : List D) ++ dd).length + 1 = n
  · rw [if_pos hz] at q
    exact fun x dx h1 h2 h3 => spI_of (vs := [] ++ dvs) r (hc _) hz hC h1 h2 h3 q
  · rw [if_neg hz] at q
    exact q.elim
/-- e.f, the field number ix of the class kc -/
def getE (kc ix : Nat) (fo : Slots → M D) : Slots → M D := fun ρ => bnd (fo ρ) fun z => match z with
  | .obj j fs => if j = kc then opt fs[ix]? else fail
  | _ => fail
theorem zip_look {ns : List Str} {vs : List V} {f : Str} {v : V} {ix : Nat} (nd : ns.Nodup) (h : ns[ix]? = some f) (hv : vs[ix]? = some v) : (ns.zip vs).lookup f = some v := by
  induction ns generalizing vs ix with
  | nil => simp at h
  | cons n ns ih =>
    cases vs with
    | nil => simp at hv
    | cons w vs =>
      have nd' := List.nodup_cons.mp nd
      cases ix with
      | zero =>
        simp at h hv
        subst h hv
        simp [List.lookup]
      | succ ix =>
        simp at h hv
        have hn : f ≠ n := fun e => nd'.1 (e ▸ List.mem_of_getElem? h)
        show (match f == n with | true => _ | false => _) = _
        rw [beq_eq_false_iff_ne.mpr hn]
        exact ih nd'.2 h hv
theorem de_get {kc ix : Nat} {f : Str} (ho : PE X o (dE c W fo)) (hC : c.T.cls kc = C) (cl : Cls X.K C) (hno : NoAttr X.K C f) (nd : (c.T.names kc).Nodup) (hf : (c.T.names kc)[ix]? = some f) (hb : attributeBase o f X.env (eval o X.env) = eval o X.env := by rfl) :
    PE X (.Attribute o f pos) (dE c W (getE kc ix fo)) := by
  refine pe_imp (pe_fld ho hb) fun σ H Q ⟨O, ρ, pt, r, q⟩ => ⟨O, ρ, pt, r, (Wg.bnd q).imp fun z p1 H1 _ s1 qz v rv => ?_⟩
  cases z with
  | obj j fs =>
    simp only at qz
    by_cases hj : j = kc
    · rw [if_pos hj] at qz
      subst hj
      simp only [Cy.R, R] at rv
      obtain ⟨a, dx, ws, rfl, ha, _, rl⟩ := rv
      obtain ⟨d, ed, qd⟩ := Wg.opt qz s1.pot
      obtain ⟨v, ev, rv⟩ := RL.getD rl ed
      exact ⟨a, C, dx, _, v, rfl, by rw [← hC]; exact Hd.le _ _ ha, cl, hno, zip_look nd hf ev, qd v rv⟩
    · rw [if_neg hj] at qz
      exact qz.elim
  | _ => exact qz.elim
/-- of two readings the one that applies -/
def orF (f g : Slots → M D) : Slots → M D := fun ρ pt => match f ρ pt with
  | .stuck => g ρ pt
  | r => r
theorem de_or2 {f g : Slots → M D} (h : PE X e (dE c W f)) (h' : PE X e (dE c W g)) : PE X e (dE c W (orF f g)) := by
  refine pe_imp (pe_or2 h h') fun σ H Q ⟨O, ρ, pt, r, q⟩ => ?_
  unfold orF at q
  cases e : f ρ pt with
  | stuck =>
    rw [e] at q
    exact .inr ⟨O, ρ, pt, r, q⟩
  | ok d p =>
    rw [e] at q
    exact .inl ⟨O, ρ, pt, r, by rw [e]; exact q⟩
  | exc k fs p =>
    rw [e] at q
    exact .inl ⟨O, ρ, pt, r, by rw [e]; exact q⟩
/-- a property of the class kc; its getter raises nothing -/
def noX {α : Type} (m : M α) : M α := fun pt => match m pt with
  | .exc _ _ _ => .stuck
  | r => r
def propE (kc : Nat) (fm : List D → M D) (fo : Slots → M D) : Slots → M D := fun ρ => bnd (fo ρ) fun z => match z with
  | .obj j fs => if j = kc then noX (fm [.obj j fs]) else fail
  | _ => fail
theorem spF_ofN {n : Nat} {fm : List D → M D} {xs : List D} {vs : List V} {Q : VK} (rs : RS c O ρ σ H pt) (rl : c.RL (Hd (hid c O) H) xs vs) (hl : xs.length = n)
    (h : Wg c W σ H (fun d _ H' => ∀ v, c.R (Hd (hid c O) H') d v → Q v H') (noX (fm xs) pt)) : spF c.K c.T n fm vs H Q E0 := by
  refine ⟨c.p, hid c O, xs, pt, rs.pm, fun a h => rs.hidden h, hl, rl, rs.pot, ?_⟩
  unfold noX at h
  cases e : fm xs pt with
  | ok d p1 =>
    rw [e] at h
    exact fun v H' st rv => h H' st v rv
  | exc k fs p1 =>
    rw [e] at h
    exact h.elim
  | stuck =>
    rw [e] at h
    exact h
theorem de_prop {fm : List D → M D} {y : Str} {pa g : Addr} (ho : PE X o (dE c W fo)) (hC : c.T.cls kc = C) (cl : Cls X.K C) (hp : PropOf X.K C y pa g) (F : FnG False X.prog X.w X.K X.mg X.base (L2.CX X.prog X.w) k g fd ps (spF c.K c.T 1 fm)) (hr : Rm False (k + 1) X.A) (hb : Binds X.K fd ps [])
    (hab : attributeBase o y X.env (eval o X.env) = eval o X.env := by rfl) : PE X (.Attribute o y pos) (dE c W (propE kc fm fo)) := by
  refine pe_imp (pe_prop (E := E0) ho cl hp F.ok hr.room hb .nil (passL (X := X.nox)) hab) fun σ H Q ⟨O, ρ, pt, r, q⟩ => ⟨O, ρ, pt, r, (Wg.bnd q).imp fun z p1 H1 _ s1 qz v rv => ?_⟩
  cases z with
  | obj j fs =>
    simp only at qz
    by_cases hj : j = kc
    · rw [if_pos hj] at qz
      subst hj
      have rv' := rv
      simp only [Cy.R, R] at rv
      obtain ⟨a, dx, ws, rfl, ha, _, rl⟩ := rv
      exact ⟨a, dx, _, rfl, by rw [← hC]; exact Hd.le _ _ ha, spF_ofN (r.stp s1) (RL.one rv') rfl qz⟩
    · rw [if_neg hj] at qz
      exact qz.elim
  | _ => exact qz.elim
end
end DF

set_option Elab.async false
set_option linter.all false
set_option maxRecDepth 100000
set_option maxHeartbeats 4000000
namespace DF
open PySem L2
/-! ### kinds of values -/
/-- what isinstance and comparisons look up of a class of the text -/
structure ClsI (K : PySem.W.Frag) (C : Addr) : Prop where
  cl : Cls K C
  ha : PySem.W.findIn K (.ref C) "__class__" = some (some (.builtin "object.__class__"))
  hn : PySem.W.specialIn K (.builtin "object.__class__") "__get__" = some (some (.builtin "getset_descriptor.__get__"))
  htk : PySem.W.takesIn K (.builtin "object.__class__") = some true
  hm : PySem.W.mroIn K C (.type "object") = some true
def tag (T : Tb) (nC : Nat) : D → Option Value
  | .non => some (.type "NoneType")
  | .bl _ => some (.type "bool")
  | .int _ => some (.type "int")
  | .str _ => some (.type "str")
  | .lst _ => some (.type "list")
  | .tup _ => some (.type "tuple")
  | .dct _ => some (.type "dict")
  | .obj k _ => if k < nC then some (.ref (T.cls k)) else none
  | _ => none
/-- a kind of value that is told: a built-in one, or one of the first nC classes -/
def knd (nC : Nat) : D → Option (Sum String Nat)
  | .non => some (.inl "NoneType")
  | .bl _ => some (.inl "bool")
  | .int _ => some (.inl "int")
  | .str _ => some (.inl "str")
  | .lst _ => some (.inl "list")
  | .tup _ => some (.inl "tuple")
  | .dct _ => some (.inl "dict")
  | .obj k _ => if k < nC then some (.inr k) else none
  | _ => none
def tagV (T : Tb) : Sum String Nat → Value
  | .inl n => .type n
  | .inr k => .ref (T.cls k)
theorem tag_knd (T : Tb) (nC : Nat) (x : D) : tag T nC x = (knd nC x).map (tagV T) := by
  cases x <;> first | rfl | (simp only [tag, knd]; split <;> rfl)
def tagB : List String := ["NoneType", "bool", "int", "str", "list", "tuple", "dict"]
section
variable {gu : Prop} {X : Cx} {c : Cy} {W : WX} {σ : L2.St} {H H' : Hp} {O : List (Nat × Addr)} {ρ : Slots} {pt pt' : Pot} {nC : Nat}
theorem tag_ok {x : D} {v : V} {t : Value} (hC : ∀ k, k < nC → ClsI X.K (c.T.cls k)) (hK : c.K = X.K) (h : RB c O H x v) (e : tag c.T nC x = some t) : TyX X.K H v t := by
  cases x with
  | non => simp only [tag] at e; cases e; rw [h.non]; exact .base .non
  | bl b => simp only [tag] at e; cases e; rw [h.bl]; exact .base (.bl b)
  | int b => simp only [tag] at e; cases e; rw [h.int]; exact .base (.int b)
  | str b => simp only [tag] at e; cases e; rw [h.str]; exact .base (.str b)
  | lst ds =>
    simp only [tag] at e; cases e
    obtain ⟨a, vs, rfl, ha, _⟩ := h.lst
    exact .base (.lst ha)
  | dct ds =>
    simp only [tag] at e; cases e
    obtain ⟨a, vs, rfl, ha, _⟩ := h.dct
    exact .base (.dK ha)
  | tup ds =>
    simp only [tag] at e; cases e
    obtain ⟨a, vs, rfl, ha, _⟩ := h.tup
    rcases ha with (ha | ⟨o, ha⟩) | ⟨o, its, n, h1, h2, _⟩
    · exact .base (.tup ha)
    · exact .fTuple ha
    · exact .kTuple (by rw [← hK]; exact h1) h2
  | obj k fs =>
    simp only [tag] at e
    split at e
    · rename_i hk
      cases e
      have q := h.obj
      simp only [Cy.R, R] at q
      obtain ⟨a, dx, vs, rfl, ha, _, _⟩ := q
      have I := hC k hk
      exact .base (.ins (Hd.le _ _ ha) I.cl I.ha I.hn I.htk I.hm)
    · cases e
  | ex _ _ => simp only [tag] at e; cases e
  | dcf _ => simp only [tag] at e; cases e
  | pot => simp only [tag] at e; cases e
  | fn _ => simp only [tag] at e; cases e
  | cls _ => simp only [tag] at e; cases e
  | ty _ => simp only [tag] at e; cases e

/-! ### operators on values that are kept -/
def OpV (X : Cx) (c : Cy) (W : WX) (f : Value → Value → Sem Value) (g : D → D → M D) : Prop := ∃ r : L2.St → R2, OpS X f r ∧
  ∀ (σ : L2.St) (O : List (Nat × Addr)) (ρ : Slots) (pt : Pot) (H : Hp) (Q : VK) (x y : D) (v w : V), RS c O ρ σ H pt → c.R (Hd (hid c O) H) x v → c.R (Hd (hid c O) H) y w →
    Wg c W σ H (fun d _ H' => ∀ v, c.R (Hd (hid c O) H') d v → Q v H') (g x y pt) → r σ v w H Q
theorem OpD.v {f : Value → Value → Sem Value} {g : D → D → M D} (o : OpD X c W f g) : OpV X c W f g := by
  obtain ⟨r, h1, h2⟩ := o
  exact ⟨r, h1, fun σ O ρ pt H Q x y v w rs rx ry q => h2 σ O ρ pt H Q x y v w rs (.inl rx) (.inl ry) q⟩
theorem OpV.or {f : Value → Value → Sem Value} {g h : D → D → M D} (a : OpV X c W f g) (b : OpV X c W f h) : OpV X c W f (orM g h) := by
  obtain ⟨r, r1, r2⟩ := a
  obtain ⟨r', r1', r2'⟩ := b
  refine ⟨_, r1.or r1', fun σ O ρ pt H Q x y v w rs rx ry q => ?_⟩
  unfold orM at q
  cases e : g x y pt with
  | stuck =>
    rw [e] at q
    exact .inr (r2' σ O ρ pt H Q x y v w rs rx ry q)
  | ok d p =>
    rw [e] at q
    exact .inl (r2 σ O ρ pt H Q x y v w rs rx ry (by rw [e]; exact q))
  | exc k fs p =>
    rw [e] at q
    exact .inl (r2 σ O ρ pt H Q x y v w rs rx ry (by rw [e]; exact q))
theorem OpV.use {f : Value → Value → Sem Value} {g : D → D → M D} {fa fb : Slots → M D} (o : OpV X c W f g) : ∃ r : L2.St → R2, OpS X f r ∧ ∀ σ H Q, dE c W (binE g fa fb) σ H Q → dE c W fa σ H fun x H1 => dE c W fb σ H1 fun y H2 => r σ x y H2 Q := by
  obtain ⟨r, h1, h2⟩ := o
  refine ⟨r, h1, fun σ H Q ⟨O, ρ, pt, rs, q⟩ => ?_⟩
  refine ⟨O, ρ, pt, rs, (Wg.bnd q).imp fun x p1 H1 _ s1 q v rv => ?_⟩
  have rs1 := rs.stp s1
  refine ⟨O, ρ, p1, rs1, (Wg.bnd q).imp fun y p2 H2 _ s2 q w rw => ?_⟩
  exact h2 σ O ρ p2 H2 Q x y v w (rs1.stp s2) (R.gr (s2.gr rs.pm) rv) rw q
theorem de_opV {op : Operator} {g : D → D → M D} {a b : Expr} {fa fb : Slots → M D} {pos : Pos} (o : OpV X c W (binaryOp op) g) (ha : PE X a (dE c W fa)) (hb : PE X b (dE c W fb)) : PE X (.BinOp a op b pos) (dE c W (binE g fa fb)) := by
  obtain ⟨r, h1, h2⟩ := OpV.use (fa := fa) (fb := fb) o
  exact ⟨fun pins s σ H Q I h => wpAny_BinOp (binT ha hb I (h2 σ H Q h) fun v u s2 x y H2 I2 rx ry q => h1 pins s2 σ H2 x y v u Q I2 rx ry q)⟩
theorem de_cmpV {op : CmpOp} {g : D → D → M D} {a b : Expr} {fa fb : Slots → M D} {pos : Pos} (o : OpV X c W (compareOp op) g) (ha : PE X a (dE c W fa)) (hb : PE X b (dE c W fb)) (hm : behindInMarks op b = false := by first | exact nomark _ | rfl) : PE X (.Compare a [op] [b] pos) (dE c W (binE g fa fb)) := by
  obtain ⟨r, h1, h2⟩ := OpV.use (fa := fa) (fb := fb) o
  exact ⟨fun pins s σ H Q I h => wpAny_Compare1 (binT ha hb I (h2 σ H Q h) fun v u s2 x y H2 I2 rx ry q => h1 pins s2 σ H2 x y v u Q I2 rx ry q) hm⟩
theorem dt_cmpV {op : CmpOp} {g : D → D → M D} {a b : Expr} {fa fb : Slots → M D} {pos : Pos} (o : OpV X c W (compareOp op) g) (ha : PE X a (dE c W fa)) (hb : PE X b (dE c W fb)) (hm : behindInMarks op b = false := by first | exact nomark _ | rfl) : PT X (.Compare a [op] [b] pos) (dT c W (testE (binE g fa fb))) := by
  obtain ⟨r, h1, h2⟩ := OpV.use (fa := fa) (fb := fb) o
  refine ⟨fun pins s σ H Q I ⟨O, ρ, pt, rs, q⟩ => ?_⟩
  have q1 : dE c W (binE g fa fb) σ H (fun x H' => ∃ k, x = .bl k ∧ Q k H') := ⟨O, ρ, pt, rs, (Wg.bnd q).imp fun d p1 H1 _ s1 q v rv => by
    obtain ⟨b, ed, q2⟩ := asB_ok q s1.pot
    subst ed
    exact ⟨b, by simpa [Cy.R, R] using rv, q2⟩⟩
  refine wpAny_isTrue_Compare1 (thn (ha.run pins s σ H _ I (h2 σ H _ q1)) fun v s1 ⟨x, H1, I1, r1, q1⟩ => thn (hb.run pins s1 σ H1 _ I1 q1) fun u s2 ⟨y, H2, I2, r2, q2⟩ => thn (h1 pins s2 σ H2 x y v u _ I2 r1 r2 q2) fun z s3 ⟨t, H3, I3, r3, k, e, q3⟩ => ?_) hm
  subst e
  cases r3
  exact wpAny_truthy_bool ⟨H3, I3, q3⟩

/-! ### operators of the text's own classes -/
variable {CX : CXT} {k n kc : Nat} {f C : Addr} {fd : FuncData} {ps : List Str} {fm : List D → M D} {sp : Sp} {E : L2.St → XK}
/-- the callee runs somewhere below -/
theorem runSub {A : Around} {pins : List (Addr × Obj)} {s : Shared} {Q : VK} {us : List Value} {vs : List V} (F : FnG gu X.prog X.w X.K X.mg X.base CX k f fd ps sp) (hr : Rm gu k A) (hfr : A.frames = X.A.frames) (hb : Binds X.K fd ps []) (hx : PassesAt CX X σ (E σ))
    (I : Inv X pins σ H s) (r : Vals vs us) (h : sp vs H Q (E σ)) : wpAny (model X.prog X.w) A (call (.ref f) us) (EP X pins σ Q) X.xe s := by
  have hl : us.length = ps.length := r.length.symm.trans (F.len _ _ _ _ h)
  have b := hb s us I.kIn (by rw [List.append_nil]; exact hl)
  rw [List.append_nil] at b
  have e := I.env0
  have e0 : Env0 X.prog X.w X.K X.mg X.base A X.stack s H := ⟨hfr.trans e.frames, e.mod, e.bs, e.bsz, e.funs, e.frf, e.hok, e.bare⟩
  refine wpAny_call (codeAny_mono (F.run A X.stack s H ⟨us, []⟩ us vs Q (E σ) hr e0 b r h) fun res s' hq => ?_)
  match res, hq with
  | .error e, hq => exact hx pins H s e s' I hq
  | .ok (.ret u), hq => exact I.after hq
theorem not_ni {v : V} {u : Value} (r : RelV v u) : u ≠ .notImplemented := fun e => by
  subst e
  cases v with
  | int i => obtain ⟨_, z⟩ := r; cases z
  | str i => obtain ⟨_, z⟩ := r; cases z
  | byt i => obtain ⟨_, z⟩ := r; cases z
  | flt i => obtain ⟨_, z⟩ := r; cases z
  | _ => cases r
theorem cmpBack {pins : List (Addr × Obj)} {Q : VK} {u : Value} {s' : Shared} (h : EP X pins σ Q u s') : PySem.W.CmpBack (EP X pins σ Q) u s' := by
  obtain ⟨v, H', I, r, q⟩ := h
  have := not_ni r
  unfold PySem.W.CmpBack
  split
  · exact this rfl
  · exact ⟨v, H', I, r, q⟩
/-- an instance of the class: what the library's rules ask -/
theorem inst_at {pins : List (Addr × Obj)} {s : Shared} {a dx : Addr} {fs : List (Str × V)} (I : Inv X pins σ H s) (e : H a = some (.ins C dx fs)) : ∃ ox od, PySem.W.InstAt s.heap a ox C (some od) := by
  obtain ⟨mA, J, _⟩ := ins_get I.hok e
  obtain ⟨od, J, _⟩ := J.look
  exact ⟨_, od, J⟩
/-- what an own method is asked with: the object, and any value whose kind is told -/
def ownM (nC kc : Nat) (fm : List D → M D) : D → D → M D := fun x y => match x with
  | .obj j fs => if j = kc ∧ (knd nC y).isSome then fm [.obj j fs, y] else fail
  | _ => fail
/-- the reading of an own method of two -/
def rOwn (X : Cx) (c : Cy) (W : WX) (nC kc : Nat) (fm : List D → M D) (C : Addr) : L2.St → R2 := fun σ v w H Q => ∃ a dx fs t, v = .ref a ∧ H a = some (.ins C dx fs) ∧ TyX X.K H w t ∧ (∃ n ∈ tagB, t = .type n) ∧ spF c.K c.T 2 fm [v, w] H Q (WE W σ)
def rOwn2 (X : Cx) (c : Cy) (W : WX) (nC kc : Nat) (fm : List D → M D) (C : Addr) : L2.St → R2 := fun σ v w H Q => ∃ a dx fs b dy gs k, v = .ref a ∧ H a = some (.ins C dx fs) ∧ w = .ref b ∧ k < nC ∧ H b = some (.ins (c.T.cls k) dy gs) ∧ TyX X.K H w (.ref (c.T.cls k)) ∧ spF c.K c.T 2 fm [v, w] H Q (WE W σ)
theorem own_use (hCs : ∀ k, k < nC → ClsI X.K (c.T.cls k)) (hK : c.K = X.K) (hC : c.T.cls kc = C) {x y : D} {v w : V} {Q : VK} (rs : RS c O ρ σ H pt) (rx : c.R (Hd (hid c O) H) x v) (ry : c.R (Hd (hid c O) H) y w)
    (q : Wg c W σ H (fun d _ H' => ∀ v, c.R (Hd (hid c O) H') d v → Q v H') (ownM nC kc fm x y pt)) : rOwn X c W nC kc fm C σ v w H Q ∨ rOwn2 X c W nC kc fm C σ v w H Q := by
  cases x with
  | obj j fs =>
    simp only [ownM] at q
    by_cases hj : j = kc ∧ (knd nC y).isSome
    · rw [if_pos hj] at q
      obtain ⟨rfl, ht⟩ := hj
      have ht : (tag c.T nC y).isSome = true := by rw [tag_knd, Option.isSome_map]; exact ht
      obtain ⟨t, et⟩ := Option.isSome_iff_exists.mp ht
      have ty := tag_ok hCs hK (.inl ry) et
      have sp : spF c.K c.T 2 fm [v, w] H Q (WE W σ) := spF_of rs (RL.cons rx (RL.one ry)) rfl q
      simp only [Cy.R, R] at rx
      obtain ⟨a, dx, vs, rfl, ha, _, _⟩ := rx
      have ha' : H a = some (.ins C dx ((c.T.names j).zip vs)) := by rw [← hC]; exact Hd.le _ _ ha
      cases y with
      | obj k gs =>
        simp only [tag] at et
        split at et
        · rename_i hk
          cases et
          simp only [Cy.R, R] at ry
          obtain ⟨b, dy, ws, rfl, hb, _, _⟩ := ry
          exact .inr ⟨a, dx, _, b, dy, _, k, rfl, ha', rfl, hk, Hd.le _ _ hb, ty, sp⟩
        · cases et
      | non => simp only [tag] at et; cases et; exact .inl ⟨a, dx, _, _, rfl, ha', ty, ⟨_, by simp [tagB], rfl⟩, sp⟩
      | bl _ => simp only [tag] at et; cases et; exact .inl ⟨a, dx, _, _, rfl, ha', ty, ⟨_, by simp [tagB], rfl⟩, sp⟩
      | int _ => simp only [tag] at et; cases et; exact .inl ⟨a, dx, _, _, rfl, ha', ty, ⟨_, by simp [tagB], rfl⟩, sp⟩
      | str _ => simp only [tag] at et; cases et; exact .inl ⟨a, dx, _, _, rfl, ha', ty, ⟨_, by simp [tagB], rfl⟩, sp⟩
      | lst _ => simp only [tag] at et; cases et; exact .inl ⟨a, dx, _, _, rfl, ha', ty, ⟨_, by simp [tagB], rfl⟩, sp⟩
      | tup _ => simp only [tag] at et; cases et; exact .inl ⟨a, dx, _, _, rfl, ha', ty, ⟨_, by simp [tagB], rfl⟩, sp⟩
      | dct _ => simp only [tag] at et; cases et; exact .inl ⟨a, dx, _, _, rfl, ha', ty, ⟨_, by simp [tagB], rfl⟩, sp⟩
      | ex _ _ => simp only [tag] at et; cases et
      | dcf _ => simp only [tag] at et; cases et
      | pot => simp only [tag] at et; cases et
      | fn _ => simp only [tag] at et; cases et
      | cls _ => simp only [tag] at et; cases et
      | ty _ => simp only [tag] at et; cases et
    · rw [if_neg hj] at q
      exact q.elim
  | _ => exact q.elim
/-- what the order of the two sides asks of a class: no kind of value stands below it -/
structure CmpI (X : Cx) (T : Tb) (nC : Nat) (C : Addr) : Prop where
  nb : ∀ n ∈ tagB, PySem.W.subIn X.K (.type n) (.ref C) = some false
  no : ∀ k, k < nC → PySem.W.notFirst X.K C (.ref (T.cls k)) = true
theorem CmpI.nf {T : Tb} (h : CmpI X T nC C) {n : String} (hn : n ∈ tagB) : PySem.W.notFirst X.K C (.type n) = true := by
  unfold PySem.W.notFirst
  rw [h.nb n hn]
  simp
theorem ov_eq (hCs : ∀ k, k < nC → ClsI X.K (c.T.cls k)) (hK : c.K = X.K) (hC : c.T.cls kc = C) (ci : CmpI X c.T nC C) (hs : PySem.W.findIn X.K (.ref C) "__eq__" = some (some (.ref f))) (hf : PySem.W.isFn X.K (.ref f) = true)
    (F : FnG gu X.prog X.w X.K X.mg X.base (L2.CX X.prog X.w) k f fd ps (spF c.K c.T 2 fm)) (hr : Rm gu k X.A) (hb : Binds X.K fd ps []) (tk : Takes X W) : OpV X c W (compareOp .Eq) (ownM nC kc fm) := by
  refine ⟨fun σ v w H Q => rOwn X c W nC kc fm C σ v w H Q ∨ rOwn2 X c W nC kc fm C σ v w H Q, fun pins s σ H x y v u Q I rx ry q => ?_, fun σ O ρ pt H Q x y v w rs rx ry q => own_use hCs hK hC rs rx ry q⟩
  have go : ∀ {a : Addr} {t : Value}, x = .ref a → v = .ref a → TyX X.K H y t → PySem.W.notFirst X.K C t = true → (∃ dx fs, H a = some (.ins C dx fs)) → spF c.K c.T 2 fm [x, y] H Q (WE W σ) → wpAny (model X.prog X.w) X.A (compareOp .Eq v u) (EP X pins σ Q) X.xe s := by
    intro a t ex ev ty nf ⟨dx, fs, ha⟩ sp
    subst ex ev
    obtain ⟨ox, od, J⟩ := inst_at I ha
    obtain ⟨m, hF⟩ := I.fr
    obtain ⟨P, Z, p, _⟩ := kit_of I ry ty
    refine PySem.W.cmp_K (op := .Eq) hr.units0 hF I.ok.mod.kin J (Z.ty _ _ I.kIn p) nf hs hf ?_
    exact wpAny_mono (runSub (E := WE W) F hr rfl hb (passAt tk σ) I (.cons rx (.cons ry .nil)) sp) (fun r s' h => cmpBack h) fun _ _ z => z
  rcases q with ⟨a, dx, fs, t, e1, ha, ty, ⟨n, hn, et⟩, sp⟩ | ⟨a, dx, fs, b, dy, gs, j, e1, ha, e2, hj, _, ty, sp⟩
  · subst e1 et
    cases rx
    exact go rfl rfl ty (ci.nf hn) ⟨dx, fs, ha⟩ sp
  · subst e1
    cases rx
    exact go rfl rfl ty (ci.no j hj) ⟨dx, fs, ha⟩ sp
end
end DF

set_option Elab.async false
set_option linter.all false
set_option maxRecDepth 100000
set_option maxHeartbeats 4000000
namespace DF
open PySem L2
section
variable {prog : Program} {w : World} {A : Around} {E : Value → Shared → Prop} {s : Shared} {K : PySem.W.Frag} {x C L f : Addr} {h₀ : Heap} {m : Str → Option Value} {ox : Obj} {od : Option Obj} {b tb : Value}
theorem ne_bind (self : Value) : bindSpecial (.builtin "object.__ne__") self = pure (.builtin "object.__ne__", [self]) :=
  (Slot.of (T := "object") (name := "__ne__") (owner := "object") (n := "__ne__") (by rw [typeLookup_type, builtinLookup_eq_fast]; kernel_rfl) (by decide +kernel) (by decide +kernel) (by decide +kernel)
    (.inl (by decide +kernel)) (by rw [isSubtype_type]; kernel_rfl)).bind self
theorem ne_plain : plainId "object.__ne__" = true := by decide +kernel
/-- != of an own class that has == alone -/
theorem ne_own {Q : Value → Shared → Prop} (hu : A.in1.units < cLine) (hu0 : A.units < cLine) (F : PyProof.Rows.Fr h₀ L s.heap m) (X₀ : K.In h₀) (I : PySem.W.InstAt s.heap x ox C od) (hb : PySem.W.Looks (model prog w) s.heap (typeOf b) tb) (hn : PySem.W.notFirst K C tb = true)
    (hne : PySem.W.findIn K (.ref C) "__ne__" = some (some (.builtin "object.__ne__"))) (ho : PySem.W.subIn K (.ref C) (.type "object") = some true)
    (hs : PySem.W.findIn K (.ref C) "__eq__" = some (some (.ref f))) (hf : PySem.W.isFn K (.ref f) = true)
    (h : wpAny (model prog w) A.in1 (call (.ref f) [.ref x, b]) (fun v s' => ∃ r, v = .bool r ∧ Q (.bool (!r)) s') E s) : wpAny (model prog w) A (richCompare .NotEq (.ref x) b) Q E s := by
  have X := X₀.keeps F.keep
  have eqs : wpAny (model prog w) A.in1 (callSpecialIfBound? (.ref x) "__eq__" [b]) (fun r s' => ∃ z, r = some (.bool z) ∧ Q (.bool (!z)) s') E s :=
    PySem.W.ifBound_K X I hs hf (wpAny_mono h (fun v s' ⟨r, e, q⟩ => ⟨r, by rw [e], q⟩) fun _ _ e => e)
  have hi : PySem.W.Looks (model prog w) s.heap (isInstance (.ref x) (.type "object")) true := I.type.andThen (PySem.W.looks_subIn X ho)
  have run : wpAny (model prog w) A (call (.builtin "object.__ne__") [.ref x, b]) (fun v s' => ∃ z, v = .bool (!z) ∧ Q (.bool (!z)) s') E s := by
    refine wpAny_call (codeAny_call_builtin ne_plain PySem.F.cmpEntry_ne (@PySem.W.check_slot (model prog w) _ _ _ "object.__ne__" "object" "__ne__" (.ref x) [b] [] _ PySem.F.cmpKind_ne PySem.F.cmpSplit_ne hi (PySem.F.cmpArgs_ne _ _) ?_))
    unfold Builtin.«object.__ne__»
    refine wpAny_bind (m := PySem.slotArgs "__ne__" 1 ⟨[.ref x, b], []⟩) (wpAny_pure ?_)
    refine wpAny_bind (wpAny_cRoomFor hu ?_)
    refine wpAny_bind (wpAny_mono eqs (fun r s' hr => ?_) fun _ _ e => e)
    obtain ⟨z, rfl, q⟩ := hr
    refine wpAny_bind (wpAny_truthy_bool ?_)
    exact wpAny_pure ⟨z, rfl, q⟩
  have one : wpAny (model prog w) A (tryCompare (.ref x) "__ne__" b) (fun r s' => ∃ v, r = some v ∧ Q v s') E s := by
    unfold tryCompare
    refine wpAny_bind (m := callSpecialIfBound? (.ref x) "__ne__" [b]) ?_
    simp only [callSpecialIfBound?, bindSpecialIfBound?]
    refine wpAny_holding (wpAny_bind (wpAny_bind (wpAny_bind (I.type.here ((PySem.W.looks_findIn X hne).here ?_)))))
    refine wpAny_bind (wpAny_askSetting (wpAny_ite ?_))
    have fin : wpAny (model prog w) A (call (.builtin "object.__ne__") ([.ref x] ++ [b]) >>= fun v => pure (some v)) (fun r s' => wpAny (model prog w) A (match r with | some .notImplemented | none => pure none | some v => pure (some v)) (fun r s' => ∃ v, r = some v ∧ Q v s') E s') E s :=
      wpAny_bind (wpAny_mono run (fun v s' ⟨z, e, q⟩ => by subst e; exact wpAny_pure (wpAny_pure ⟨_, rfl, q⟩)) fun _ _ e => e)
    split
    · rw [ne_bind]
      exact wpAny_bind (wpAny_pure (wpAny_pure fin))
    · rw [ne_bind]
      exact wpAny_tryCatch (wpAny_bind (wpAny_pure (wpAny_pure fin)))
  unfold richCompare
  simp only [oneThing_ref]
  refine wpAny_holding (wpAny_bind (wpAny_cRoomFor hu0 ?_))
  refine wpAny_bind (I.type.here (wpAny_bind (hb.here ?_)))
  split
  · rename_i q
    have e : PySem.W.subIn K tb (.ref C) = some false := by
      rcases Bool.or_eq_true_iff.mp hn with e | e
      · rw [beq_iff_eq.mp e] at q; simp at q
      · exact beq_iff_eq.mp e
    refine wpAny_bind ((PySem.W.looks_subIn X e).here ?_)
    simp only [Bool.false_eq_true, if_false]
    refine wpAny_bind (wpAny_mono one (fun r s' z => ?_) fun _ _ e => e)
    obtain ⟨v, rfl, hq⟩ := z
    exact wpAny_pure hq
  · refine wpAny_bind (wpAny_pure ?_)
    simp only [Bool.false_eq_true, if_false]
    refine wpAny_bind (wpAny_mono one (fun r s' z => ?_) fun _ _ e => e)
    obtain ⟨v, rfl, hq⟩ := z
    exact wpAny_pure hq
end
section
variable {prog : Program} {w : World} {A : Around} {E : Value → Shared → Prop} {s : Shared} {K : PySem.W.Frag} {x C L f : Addr} {h₀ : Heap} {m : Str → Option Value} {ox : Obj} {od : Option Obj} {T : String}
/-- x + b where b is of a built-in kind, its type as it is looked up -/
theorem own_binT {op : Operator} {b : Value} {fo ro rc : Option Value} {Q : Value → Shared → Prop} (F : PyProof.Rows.Fr h₀ L s.heap m) (X₀ : K.In h₀) (I : PySem.W.InstAt s.heap x ox C od) (hb : PySem.W.Looks (model prog w) s.heap (typeOf b) (.type T)) (hc : PySem.W.selfFirst K C = true)
    (hs : PySem.W.findIn K (.ref C) (PySem.dunder op.info.2) = some (some (.ref f))) (hf : PySem.W.isFn K (.ref f) = true) (hr : PySem.W.findIn K (.ref C) (dunderR op.info.2) = some rc) (hp : rc = none ∨ ∃ g : Addr, rc = some (.ref g))
    (h1 : PySem.W.findIn K (.type T) (PySem.dunder op.info.2) = some fo) (h2 : PySem.W.findIn K (.type T) (dunderR op.info.2) = some ro) (hsub : PySem.W.subIn K (.type T) (.ref C) = some false)
    (h : wpAny (model prog w) A (call (.ref f) [.ref x, b]) (PySem.W.CmpBack Q) E s) : wpAny (model prog w) A (binaryOp op (.ref x) b) Q E s := by
  have X := X₀.keeps F.keep
  obtain ⟨cd, rest, hcd, hm⟩ := PySem.W.ksp_first hc
  rcases hi : op.info with ⟨sym, nm'⟩
  rw [hi] at hs hr h1 h2
  dsimp only at hs hr h1 h2
  have one := PySem.W.ksp_try X I hs hf h
  obtain ⟨hh, g, d, tt, os⟩ := s
  have y1 : PySem.W.Looks (model prog w) hh (typeOf (.ref x)) (.ref C) := I.type
  have y3 : PySem.W.Looks (model prog w) hh (fillsNumberSlot (.ref C) nm') true := PySem.W.fills_K X hcd hm hs
  have y4 := PySem.W.ksp_fillsT (M := model prog w) (nm := nm') X h1 h2
  have y5 : PySem.W.Looks (model prog w) hh (isSubtype (.type T) (.ref C)) false := PySem.W.looks_subIn X hsub
  have y6 : PySem.W.Looks (model prog w) hh (numberSlotInPython (.ref C) nm') true := PySem.W.ksp_inPy X hs hr hp
  have y7 : PySem.W.Looks (model prog w) hh (numberSlotInPython (.type T) nm') false := PySem.W.Looks.of_pure rfl
  have y8 : PySem.W.Looks (model prog w) hh (typeLookup (.type T) (dunderR nm')) ro := PySem.W.looks_findIn X h2
  generalize ((fo.isSome && !isSeqSlot fo) || (ro.isSome && !isSeqSlot ro)) = right at y4
  have hne : (Value.ref C == Value.type T) = false := Bool.eq_false_iff.mpr fun q => by cases beq_iff_eq.mp q
  simp only [binaryOp, hi]
  refine wpAny_holding (wpAny_bind ?_)
  unfold binaryOp1
  refine wpAny_bind (y1.at (wpAny_bind (hb.at (wpAny_bind (y3.at ?_)))))
  simp only [hne, Bool.false_eq_true, if_false]
  cases right with
  | false =>
    refine wpAny_bind (y4.at ?_)
    simp only [Bool.and_false, Bool.false_eq_true, if_false, Bool.false_and]
    refine wpAny_bind (wpAny_pure ?_)
    simp only [Bool.false_eq_true, if_false, if_true]
    refine wpAny_bind (m := tryMethod (.ref x) _ b) (wpAny_mono one (fun r s' hr' => ?_) fun _ _ e => e)
    obtain ⟨v, rfl, hq⟩ := hr'
    exact wpAny_pure (wpAny_pure hq)
  | true =>
    refine wpAny_bind (y4.at ?_)
    simp only [Bool.and_self, if_true]
    refine wpAny_bind (y5.at ?_)
    simp only [Bool.false_eq_true, if_false, Bool.not_false, Bool.and_self, if_true]
    refine wpAny_bind (y6.at ?_)
    simp only [if_true]
    refine wpAny_bind (y7.at ?_)
    simp only [Bool.not_false, if_true]
    refine wpAny_bind (y8.at ?_)
    refine wpAny_bind (m := tryMethod (.ref x) _ b) (wpAny_mono one (fun r s' hr' => ?_) fun _ _ e => e)
    obtain ⟨v, rfl, hq⟩ := hr'
    exact wpAny_pure (wpAny_pure hq)
end
section
variable {gu : Prop} {X : Cx} {c : Cy} {W : WX} {k n kc nC : Nat} {f C : Addr} {fd : FuncData} {ps : List Str} {fm : List D → M D}
def notB : D → M D
  | .bl b => ret (.bl (!b))
  | _ => fail
/-- != where the class has == alone: the callee tells True or False -/
def neM (nC kc : Nat) (fm : List D → M D) : D → D → M D := fun x y => bnd (ownM nC kc fm x y) notB
theorem ov_ne (hCs : ∀ k, k < nC → ClsI X.K (c.T.cls k)) (hK : c.K = X.K) (hC : c.T.cls kc = C) (ci : CmpI X c.T nC C) (hne : PySem.W.findIn X.K (.ref C) "__ne__" = some (some (.builtin "object.__ne__"))) (ho : PySem.W.subIn X.K (.ref C) (.type "object") = some true)
    (hs : PySem.W.findIn X.K (.ref C) "__eq__" = some (some (.ref f))) (hf : PySem.W.isFn X.K (.ref f) = true)
    (F : FnG gu X.prog X.w X.K X.mg X.base (L2.CX X.prog X.w) k f fd ps (spF c.K c.T 2 fm)) (hr : Rm gu (k + 1) X.A) (hb : Binds X.K fd ps []) (tk : Takes X W) : OpV X c W (compareOp .NotEq) (neM nC kc fm) := by
  refine ⟨fun σ v w H Q => rOwn X c W nC kc fm C σ v w H (fun z H' => ∃ b, z = .bl b ∧ Q (.bl (!b)) H') ∨ rOwn2 X c W nC kc fm C σ v w H (fun z H' => ∃ b, z = .bl b ∧ Q (.bl (!b)) H'), fun pins s σ H x y v u Q I rx ry q => ?_, fun σ O ρ pt H Q x y v w rs rx ry q => ?_⟩
  · have go : ∀ {a : Addr} {t : Value}, x = .ref a → v = .ref a → TyX X.K H y t → PySem.W.notFirst X.K C t = true → (∃ dx fs, H a = some (.ins C dx fs)) → spF c.K c.T 2 fm [x, y] H (fun z H' => ∃ b, z = .bl b ∧ Q (.bl (!b)) H') (WE W σ) →
        wpAny (model X.prog X.w) X.A (compareOp .NotEq v u) (EP X pins σ Q) X.xe s := by
      intro a t ex ev ty nf ⟨dx, fs, ha⟩ sp
      subst ex ev
      obtain ⟨ox, od, J⟩ := inst_at I ha
      obtain ⟨m, hF⟩ := I.fr
      obtain ⟨P, Z, p, _⟩ := kit_of I ry ty
      refine ne_own hr.in1.units0 hr.units0 hF I.ok.mod.kin J (Z.ty _ _ I.kIn p) nf hne ho hs hf ?_
      refine wpAny_mono (runSub (E := WE W) F hr.in1 rfl hb (passAt tk σ) I (.cons rx (.cons ry .nil)) sp) (fun r s' h => ?_) fun _ _ z => z
      obtain ⟨z, H', I', rz, b, e, q⟩ := h
      subst e
      cases rz
      exact ⟨b, rfl, .bl (!b), H', I', rfl, q⟩
    rcases q with ⟨a, dx, fs, t, e1, ha, ty, ⟨n, hn, et⟩, sp⟩ | ⟨a, dx, fs, b, dy, gs, j, e1, ha, e2, hj, _, ty, sp⟩
    · subst e1 et
      cases rx
      exact go rfl rfl ty (ci.nf hn) ⟨dx, fs, ha⟩ sp
    · subst e1
      cases rx
      exact go rfl rfl ty (ci.no j hj) ⟨dx, fs, ha⟩ sp
  · refine own_use hCs hK hC rs rx ry ((Wg.bnd q).imp fun d p1 H1 _ s1 q v rv => ?_)
    cases d with
    | bl b => exact ⟨b, by simpa [Cy.R, R] using rv, Wg.here q s1.pot _ (by simp [Cy.R, R])⟩
    | _ => exact q.elim
/-- + - * .. of an own class: the right side one of it, or of a built-in kind -/
theorem ov_bin {op : Operator} {rc : Option Value} (hCs : ∀ k, k < nC → ClsI X.K (c.T.cls k)) (hK : c.K = X.K) (hC : c.T.cls kc = C) (hn1 : ∀ k, k < nC → c.T.cls k = C) (ci : CmpI X c.T nC C) (sf : PySem.W.selfFirst X.K C = true) (hs : PySem.W.findIn X.K (.ref C) (PySem.dunder op.info.2) = some (some (.ref f))) (hf : PySem.W.isFn X.K (.ref f) = true)
    (hr1 : PySem.W.findIn X.K (.ref C) (dunderR op.info.2) = some rc) (hp : rc = none ∨ ∃ g : Addr, rc = some (.ref g)) (hT : ∀ n ∈ tagB, ∃ fo ro, PySem.W.findIn X.K (.type n) (PySem.dunder op.info.2) = some fo ∧ PySem.W.findIn X.K (.type n) (dunderR op.info.2) = some ro)
    (F : FnG gu X.prog X.w X.K X.mg X.base (L2.CX X.prog X.w) k f fd ps (spF c.K c.T 2 fm)) (hr : Rm gu k X.A) (hb : Binds X.K fd ps []) (tk : Takes X W) : OpV X c W (binaryOp op) (ownM nC kc fm) := by
  refine ⟨fun σ v w H Q => rOwn X c W nC kc fm C σ v w H Q ∨ rOwn2 X c W nC kc fm C σ v w H Q, fun pins s σ H x y v u Q I rx ry q => ?_, fun σ O ρ pt H Q x y v w rs rx ry q => own_use hCs hK hC rs rx ry q⟩
  have call1 : ∀ {a : Addr}, x = .ref a → spF c.K c.T 2 fm [x, y] H Q (WE W σ) → v = .ref a → wpAny (model X.prog X.w) X.A (call (.ref f) [.ref a, u]) (PySem.W.CmpBack (EP X pins σ Q)) X.xe s := fun ex sp ev => by
    subst ex ev
    exact wpAny_mono (runSub (E := WE W) F hr rfl hb (passAt tk σ) I (.cons rx (.cons ry .nil)) sp) (fun r s' h => cmpBack h) fun _ _ z => z
  obtain ⟨m, hF⟩ := I.fr
  rcases q with ⟨a, dx, fs, t, e1, ha, ty, ⟨n, hn, et⟩, sp⟩ | ⟨a, dx, fs, b, dy, gs, j, e1, ha, e2, hj, hb2, ty, sp⟩
  · subst e1 et
    cases rx
    obtain ⟨ox, od, J⟩ := inst_at I ha
    obtain ⟨P, Z, p, _⟩ := kit_of I ry ty
    obtain ⟨fo, ro, t1, t2⟩ := hT n hn
    exact own_binT hF I.ok.mod.kin J (Z.ty _ _ I.kIn p) sf hs hf hr1 hp t1 t2 (ci.nb n hn) (call1 rfl sp rfl)
  · subst e1 e2
    cases rx
    cases ry
    obtain ⟨ox, od, J⟩ := inst_at I ha
    obtain ⟨oy, oe, J2⟩ := inst_at I hb2
    refine PySem.W.binop_K hF I.ok.mod.kin J ?_ sf hs hf (call1 rfl sp rfl)
    rw [← hn1 j hj]
    exact J2.type
/-- -x of an own class -/
def unM (kc : Nat) (fm : List D → M D) : D → M D
  | .obj j fs => if j = kc then fm [.obj j fs] else fail
  | _ => fail
def unE (g : D → M D) (f : Slots → M D) : Slots → M D := fun ρ => bnd (f ρ) g
theorem de_negO {a : Expr} {pos : Pos} {fo : Slots → M D} (h : PE X a (dE c W fo)) (hC : c.T.cls kc = C) (hs : PySem.W.findIn X.K (.ref C) "__neg__" = some (some (.ref f))) (hf : PySem.W.isFn X.K (.ref f) = true)
    (F : FnG gu X.prog X.w X.K X.mg X.base (L2.CX X.prog X.w) k f fd ps (spF c.K c.T 1 fm)) (hr : Rm gu k X.A) (hb : Binds X.K fd ps []) (tk : Takes X W) : PE X (.UnaryOp .USub a pos) (dE c W (unE (unM kc fm) fo)) := by
  refine ⟨fun pins s σ H Q I ⟨O, ρ, pt, r, q⟩ => PyProof.Rows.UnaryOp_ (thn (h.run pins s σ H (fun x H1 => ∃ a dx fs, x = .ref a ∧ H1 a = some (.ins C dx fs) ∧ spF c.K c.T 1 fm [x] H1 Q (WE W σ)) I ⟨O, ρ, pt, r, (Wg.bnd q).imp fun z p1 H1 _ s1 qz v rv => ?_⟩) fun v s1 ⟨x, H1, I1, r1, a, dx, fs, e1, ha, sp⟩ => ?_)⟩
  · cases z with
    | obj j fs =>
      simp only [unM] at qz
      by_cases hj : j = kc
      · rw [if_pos hj] at qz
        subst hj
        have sp := spF_of (r.stp s1) (RL.one rv) rfl qz
        simp only [Cy.R, R] at rv
        obtain ⟨a, dx, ws, rfl, ha, _, rl⟩ := rv
        exact ⟨a, dx, _, rfl, by rw [← hC]; exact Hd.le _ _ ha, sp⟩
      · rw [if_neg hj] at qz
        exact qz.elim
    | _ => exact qz.elim
  · subst e1
    cases r1
    obtain ⟨ox, od, J⟩ := inst_at I1 ha
    obtain ⟨m, hF⟩ := I1.fr
    exact PySem.W.ksp_neg hF I1.ok.mod.kin J hs hf (runSub (E := WE W) F hr rfl hb (passAt tk σ) I1 (vs := [.ref a]) (.cons (show RelV (.ref a) (.ref a) from rfl) .nil) sp)
end
end DF

set_option Elab.async false
set_option linter.all false
set_option maxRecDepth 100000
set_option maxHeartbeats 4000000
namespace DF
open PySem L2
/-! ### built-in calls -/
def RBL (c : Cy) (O : List (Nat × Addr)) (H : Hp) : List D → List V → Prop
  | [], vs => vs = []
  | d :: ds, vs => ∃ v ws, vs = v :: ws ∧ RB c O H d v ∧ RBL c O H ds ws
/-- arguments that are looked at alone -/
def dAB (c : Cy) (W : WX) (f : Slots → M (List D)) : TA := fun σ H Q => ∃ O ρ pt, RS c O ρ σ H pt ∧ Wg c W σ H (fun d _ H' => ∀ v, RBL c O H' d v → Q v H') (f ρ pt)
section
variable {X : Cx} {c : Cy} {W : WX} {x : Str} {p pos apos : Pos} {e o : Expr} {es : List Expr} {id T : String} {fa : Slots → M (List D)} {nC : Nat}
theorem RBL.stp {O : List (Nat × Addr)} {ρ : Slots} {σ : L2.St} {H H' : Hp} {pt pt' : Pot} (r : RS c O ρ σ H pt) (st : Stp c.T.tb c.p H H' pt') : ∀ {ds : List D} {vs : List V}, RBL c O H ds vs → RBL c O H' ds vs
  | [], _, h => h
  | _ :: _, _, ⟨v, ws, e, h, hs⟩ => ⟨v, ws, e, h.stp r st, RBL.stp r st hs⟩
theorem dab_nil : PA X [] (dAB c W nilA) := pa_imp pa_nil fun σ H Q ⟨O, ρ, pt, rs, q⟩ => Wg.here q rs.pot [] rfl
theorem dab_cons {f : Slots → M D} {g : Slots → M (List D)} (h : PE X e (dB c W f)) (hs : PA X es (dAB c W g)) (hst : starEach (e :: es) X.env = (false, eval e X.env) :: starEach es X.env := by rfl) : PA X (e :: es) (dAB c W (consA f g)) := by
  refine pa_imp (pa_cons h hs hst) fun σ H Q ⟨O, ρ, pt, r, q⟩ => ?_
  refine ⟨O, ρ, pt, r, (Wg.bnd q).imp fun d p1 H1 _ s1 q v rv => ?_⟩
  have r1 := r.stp s1
  refine ⟨O, ρ, p1, r1, (Wg.bnd q).imp fun ds p2 H2 _ s2 q vs rvs => ?_⟩
  exact Wg.here q s2.pot _ ⟨v, vs, rfl, rv.stp r1 s2, rvs⟩
def CallS (X : Cx) (f : Value) (r : L2.St → List V → Hp → VK → Prop) : Prop := ∀ (pins : List (Addr × Obj)) (s : Shared) (σ : L2.St) (H : Hp) (xs : List V) (us : List Value) (Q : VK),
  Inv X pins σ H s → Vals xs us → r σ xs H Q → wpAny (model X.prog X.w) X.A (call f us) (EP X pins σ Q) X.xe s
theorem calls_of {f : Value} {r : List V → Hp → VK → Prop} (h : CallR X f r) : CallS X f fun _ => r := fun pins s σ H xs us Q => h pins s σ H xs us Q
def CallD (X : Cx) (c : Cy) (W : WX) (f : Value) (g : List D → M D) : Prop := ∃ r, CallS X f r ∧
  ∀ (σ : L2.St) (O : List (Nat × Addr)) (ρ : Slots) (pt : Pot) (H : Hp) (Q : VK) (xs : List D) (vs : List V), RS c O ρ σ H pt → RBL c O H xs vs → Wg c W σ H (fun d _ H' => ∀ v, c.R (Hd (hid c O) H') d v → Q v H') (g xs pt) → r σ vs H Q
/-- .. which makes a new list -/
def CallN (X : Cx) (c : Cy) (W : WX) (f : Value) (g : List D → M (List D)) : Prop := ∃ r, CallS X f r ∧
  ∀ (σ : L2.St) (O : List (Nat × Addr)) (ρ : Slots) (pt p1 : Pot) (H H1 : Hp) (Q : VK) (xs : List D) (vs : List V), RS c O ρ σ H pt → Stp c.T.tb c.p H H1 p1 → RBL c O H1 xs vs →
    Wg c W σ H1 (fun ds _ H' => ∀ l vs, Hd [] H l = none → H' l = some (.lst vs) → c.RL (Hd (l :: hid c O) H') ds vs → Q (.ref l) H') (g xs p1) → r σ vs H1 Q
def orC (g h : List D → M D) : List D → M D := fun x pt => match g x pt with
  | .stuck => h x pt
  | r => r
theorem CallD.or {f : Value} {g h : List D → M D} (a : CallD X c W f g) (b : CallD X c W f h) : CallD X c W f (orC g h) := by
  obtain ⟨r, r1, r2⟩ := a
  obtain ⟨r', r1', r2'⟩ := b
  refine ⟨fun σ vs H Q => r σ vs H Q ∨ r' σ vs H Q, fun pins s σ H xs us Q I rv q => q.elim (r1 pins s σ H xs us Q I rv) (r1' pins s σ H xs us Q I rv), fun σ O ρ pt H Q xs vs rs rx q => ?_⟩
  unfold orC at q
  cases e : g xs pt with
  | stuck =>
    rw [e] at q
    exact .inr (r2' σ O ρ pt H Q xs vs rs rx q)
  | ok d p =>
    rw [e] at q
    exact .inl (r2 σ O ρ pt H Q xs vs rs rx (by rw [e]; exact q))
  | exc k fs p =>
    rw [e] at q
    exact .inl (r2 σ O ρ pt H Q xs vs rs rx (by rw [e]; exact q))
def bltE {α : Type} (g : List D → M α) (fa : Slots → M (List D)) : Slots → M α := fun ρ => bnd (fa ρ) g
theorem de_blt {g : List D → M D} (hc : CallD X c W (.builtin id) g) (hm : X.mg x = none) (hv : bootBuiltins x = some (.builtin id)) (ha : PA X (e :: es) (dAB c W fa)) (hg : Gl X x := by rfl) (hn : x ≠ "__name__" := by decide) (hdb : (x == ("__debug__" : Str)) = false := by decide)
    (he : starEach (e :: es) X.env = (false, eval e X.env) :: starEach es X.env := by rfl) (hpl : (backTo pos (starEach es X.env)).any (·.1) = false := by rfl) : PE X (.Call (.Name x p) (e :: es) [] pos) (dE c W (bltE g fa)) := by
  obtain ⟨r, h1, h2⟩ := hc
  refine ⟨fun pins s σ H Q I ⟨O, ρ, pt, rs, q⟩ => wpAny_Call_Name_kw (ld_blt I hg hm hv (PyProof.Rows.callWith_builtin1 (thn (ha.run pos pins s σ H (fun vs H1 => r σ vs H1 Q) I ⟨O, ρ, pt, rs, (Wg.bnd q).imp fun xs p1 H1 _ s1 q vs rv => ?_⟩) fun us s1 ⟨vs, H1, I1, r1, q1⟩ => h1 pins s1 σ H1 vs us Q I1 r1 q1) he hpl) hn hdb)⟩
  exact h2 σ O ρ p1 H1 Q xs vs (rs.stp s1) rv q
theorem de_blt_ty {g : List D → M D} (hc : CallD X c W (.type T) g) (hm : X.mg x = none) (hv : bootBuiltins x = some (.type T)) (ha : PA X (e :: es) (dAB c W fa)) (hg : Gl X x := by rfl) (hn : x ≠ "__name__" := by decide) (hdb : (x == ("__debug__" : Str)) = false := by decide)
    (he : starEach (e :: es) X.env = (false, eval e X.env) :: starEach es X.env := by rfl) (hpl : (backTo pos (starEach es X.env)).any (·.1) = false := by rfl) : PE X (.Call (.Name x p) (e :: es) [] pos) (dE c W (bltE g fa)) := by
  obtain ⟨r, h1, h2⟩ := hc
  refine ⟨fun pins s σ H Q I ⟨O, ρ, pt, rs, q⟩ => wpAny_Call_Name_kw (ld_blt I hg hm hv (PyProof.Rows.callWith_type1 (thn (ha.run pos pins s σ H (fun vs H1 => r σ vs H1 Q) I ⟨O, ρ, pt, rs, (Wg.bnd q).imp fun xs p1 H1 _ s1 q vs rv => ?_⟩) fun us s1 ⟨vs, H1, I1, r1, q1⟩ => h1 pins s1 σ H1 vs us Q I1 r1 q1) he hpl) hn hdb)⟩
  exact h2 σ O ρ p1 H1 Q xs vs (rs.stp s1) rv q
theorem dl_blt {g : List D → M (List D)} (hc : CallN X c W (.builtin id) g) (hm : X.mg x = none) (hv : bootBuiltins x = some (.builtin id)) (ha : PA X (e :: es) (dAB c W fa)) (hg : Gl X x := by rfl) (hn : x ≠ "__name__" := by decide) (hdb : (x == ("__debug__" : Str)) = false := by decide)
    (he : starEach (e :: es) X.env = (false, eval e X.env) :: starEach es X.env := by rfl) (hpl : (backTo pos (starEach es X.env)).any (·.1) = false := by rfl) : PE X (.Call (.Name x p) (e :: es) [] pos) (dL c W (bltE g fa)) := by
  obtain ⟨r, h1, h2⟩ := hc
  refine ⟨fun pins s σ H Q I ⟨O, ρ, pt, rs, q⟩ => wpAny_Call_Name_kw (ld_blt I hg hm hv (PyProof.Rows.callWith_builtin1 (thn (ha.run pos pins s σ H (fun vs H1 => r σ vs H1 Q) I ⟨O, ρ, pt, rs, (Wg.bnd q).imp fun xs p1 H1 _ s1 q vs rv => ?_⟩) fun us s1 ⟨vs, H1, I1, r1, q1⟩ => h1 pins s1 σ H1 vs us Q I1 r1 q1) he hpl) hn hdb)⟩
  exact h2 σ O ρ pt p1 H H1 Q xs vs rs s1 rv q
theorem dl_blt_ty {g : List D → M (List D)} (hc : CallN X c W (.type T) g) (hm : X.mg x = none) (hv : bootBuiltins x = some (.type T)) (ha : PA X (e :: es) (dAB c W fa)) (hg : Gl X x := by rfl) (hn : x ≠ "__name__" := by decide) (hdb : (x == ("__debug__" : Str)) = false := by decide)
    (he : starEach (e :: es) X.env = (false, eval e X.env) :: starEach es X.env := by rfl) (hpl : (backTo pos (starEach es X.env)).any (·.1) = false := by rfl) : PE X (.Call (.Name x p) (e :: es) [] pos) (dL c W (bltE g fa)) := by
  obtain ⟨r, h1, h2⟩ := hc
  refine ⟨fun pins s σ H Q I ⟨O, ρ, pt, rs, q⟩ => wpAny_Call_Name_kw (ld_blt I hg hm hv (PyProof.Rows.callWith_type1 (thn (ha.run pos pins s σ H (fun vs H1 => r σ vs H1 Q) I ⟨O, ρ, pt, rs, (Wg.bnd q).imp fun xs p1 H1 _ s1 q vs rv => ?_⟩) fun us s1 ⟨vs, H1, I1, r1, q1⟩ => h1 pins s1 σ H1 vs us Q I1 r1 q1) he hpl) hn hdb)⟩
  exact h2 σ O ρ pt p1 H H1 Q xs vs rs s1 rv q
/-- a built-in without effects -/
def pu1 (g : List D → Option D) : List D → M D := fun xs => opt (g xs)
theorem cd_pu {f : Value} {g : List D → Option D} {r : List V → Hp → VK → Prop} (h : CallR X f r)
    (ok : ∀ (O : List (Nat × Addr)) (H : Hp) (xs : List D) (z : D) (vs : List V) (Q : VK), RBL c O H xs vs → g xs = some z → (∀ v', c.R (Hd (hid c O) H) z v' → Q v' H) → r vs H Q) : CallD X c W f (pu1 g) :=
  ⟨_, calls_of h, fun σ O ρ pt H Q xs vs rs rx q => by
    obtain ⟨z, e, q⟩ := Wg.opt q rs.pot
    exact ok O H xs z vs Q rx e q⟩
theorem RBL.one {O : List (Nat × Addr)} {H : Hp} {d : D} {vs : List V} (h : RBL c O H [d] vs) : ∃ v, vs = [v] ∧ RB c O H d v := by
  obtain ⟨v, ws, rfl, h, rfl⟩ := h
  exact ⟨v, rfl, h⟩
theorem RBL.two {O : List (Nat × Addr)} {H : Hp} {d d' : D} {vs : List V} (h : RBL c O H [d, d'] vs) : ∃ v w, vs = [v, w] ∧ RB c O H d v ∧ RB c O H d' w := by
  obtain ⟨v, ws, rfl, h, w, zs, rfl, h', rfl⟩ := h
  exact ⟨v, w, rfl, h, h'⟩
def absF : List D → Option D
  | [.int i] => some (.int (if i < 0 then -i else i))
  | _ => none
theorem cd_abs : CallD X c W (.builtin "abs") (pu1 absF) := cd_pu call_abs fun O H xs z vs Q rx e q => by
  unfold absF at e
  split at e
  · cases e
    obtain ⟨v, rfl, h⟩ := rx.one
    rw [h.int]
    exact ⟨_, rfl, q _ (by simp [Cy.R, R])⟩
  · cases e
def max2F : List D → Option D
  | [.int i, .int j] => some (.int (if j > i then j else i))
  | _ => none
theorem cd_max2 (hc : X.calm = true) : CallD X c W (.builtin "max") (pu1 max2F) := cd_pu (call_max2 hc) fun O H xs z vs Q rx e q => by
  unfold max2F at e
  split at e
  · cases e
    obtain ⟨v, w, rfl, h, h'⟩ := rx.two
    rw [h.int, h'.int]
    exact ⟨_, _, rfl, q _ (by simp [Cy.R, R])⟩
  · cases e
def min2F : List D → Option D
  | [.int i, .int j] => some (.int (if j < i then j else i))
  | _ => none
theorem cd_min2 (hc : X.calm = true) : CallD X c W (.builtin "min") (pu1 min2F) := cd_pu (call_min2 hc) fun O H xs z vs Q rx e q => by
  unfold min2F at e
  split at e
  · cases e
    obtain ⟨v, w, rfl, h, h'⟩ := rx.two
    rw [h.int, h'.int]
    exact ⟨_, _, rfl, q _ (by simp [Cy.R, R])⟩
  · cases e
def intF : List D → Option D
  | [.int i] => some (.int i)
  | [.bl b] => some (.int (if b then 1 else 0))
  | _ => none
theorem cd_int : CallD X c W (.type "int") (pu1 intF) := cd_pu call_int1 fun O H xs z vs Q rx e q => by
  unfold intF at e
  split at e
  · cases e
    obtain ⟨v, rfl, h⟩ := rx.one
    rw [h.int]
    exact .inl ⟨_, rfl, q _ (by simp [Cy.R, R])⟩
  · cases e
    obtain ⟨v, rfl, h⟩ := rx.one
    rw [h.bl]
    exact .inr ⟨_, rfl, q _ (by simp [Cy.R, R])⟩
  · cases e
def strF : List D → Option D
  | [.int i] => if i.natAbs.log2 < 1920 then some (.str (toString i)) else none
  | _ => none
theorem cd_strI : CallD X c W (.type "str") (pu1 strF) := cd_pu call_str_int fun O H xs z vs Q rx e q => by
  unfold strF at e
  split at e
  · split at e
    · rename_i hz
      cases e
      obtain ⟨v, rfl, h⟩ := rx.one
      rw [h.int]
      exact ⟨_, rfl, hz, q _ (by simp [Cy.R, R])⟩
    · cases e
  · cases e
def lenF : List D → Option D
  | [.lst ds] => some (.int ds.length)
  | [.tup ds] => some (.int ds.length)
  | [.str x] => if x.length ≤ 1000000 then some (.int x.length) else none
  | _ => none
theorem cd_len (hK : c.K = X.K := by rfl) : CallD X c W (.builtin "len") (pu1 lenF) := cd_pu call_len fun O H xs z vs Q rx e q => by
  unfold lenF at e
  split at e
  · cases e
    obtain ⟨v, rfl, h⟩ := rx.one
    obtain ⟨a, vs, rfl, ha, rl⟩ := h.lst
    exact ⟨_, _, rfl, .inl ⟨vs, .inl (.inl ha), RL.len rl⟩, q _ (by simp [Cy.R, R])⟩
  · cases e
    obtain ⟨v, rfl, h⟩ := rx.one
    obtain ⟨a, vs, rfl, ha, rl⟩ := h.tup
    exact ⟨_, _, rfl, .inr ⟨vs, by rw [← hK]; exact ha, RL.len rl⟩, q _ (by simp [Cy.R, R])⟩
  · split at e
    · rename_i hz
      cases e
      obtain ⟨v, rfl, h⟩ := rx.one
      rw [h.str]
      exact ⟨_, _, rfl, ⟨Nat.le_trans hz (by decide), rfl⟩, q _ (by simp [Cy.R, R])⟩
    · cases e
  · cases e
/-- isinstance(x, C): the answers by the kind of x -/
def isiE (nC : Nat) (ans : Sum String Nat → Option Bool) (fo : Slots → M D) : Slots → M D := fun ρ => bnd (fo ρ) fun x => opt (((knd nC x).bind ans).map .bl)
theorem de_isi {y : Str} {ce : Expr} {cv : V} {u : Value} {ans : Sum String Nat → Option Bool} {fo : Slots → M D} (hCs : ∀ k, k < nC → ClsI X.K (c.T.cls k)) (ho : PE X e (dB c W fo)) (hce : PE X ce (tC cv)) (hu : ClsV cv u) (ha : ∀ t b, ans t = some b → PySem.W.kitOne X.K (tagV c.T t) u = some b)
    (hm : X.mg y = none) (hv : bootBuiltins y = some (.builtin "isinstance")) (hK : c.K = X.K := by rfl) (hg : Gl X y := by rfl) (hn : y ≠ "__name__" := by decide) (hdb : (y == ("__debug__" : Str)) = false := by decide)
    (he : starEach [e, ce] X.env = (false, eval e X.env) :: starEach [ce] X.env := by rfl) (he2 : starEach [ce] X.env = (false, eval ce X.env) :: starEach [] X.env := by rfl) (hpl : (backTo pos (starEach [ce] X.env)).any (·.1) = false := by rfl) :
    PE X (.Call (.Name y p) [e, ce] [] pos) (dE c W (isiE nC ans fo)) := by
  refine pe_imp (pe_callB call_isi hg hm hv (pa_cons ho (pa_cons hce pa_nil he2) he) hn hdb he hpl) fun σ H Q ⟨O, ρ, pt, r, q⟩ => ⟨O, ρ, pt, r, (Wg.bnd q).imp fun z p1 H1 _ s1 q v rv => ?_⟩
  obtain ⟨d, ed, q⟩ := Wg.opt q s1.pot
  cases ek : knd nC z with
  | none => rw [ek] at ed; cases ed
  | some t =>
    rw [ek] at ed
    simp only [Option.bind_some] at ed
    cases eb : ans t with
    | none => rw [eb] at ed; cases ed
    | some b =>
      rw [eb] at ed
      cases ed
      have ty := tag_ok (nC := nC) hCs hK rv (t := tagV c.T t) (by rw [tag_knd, ek]; rfl)
      exact ⟨v, cv, _, u, b, rfl, hu, ty, ha t b eb, q _ (by simp [Cy.R, R])⟩
/-! ### tuple(..), list(..) -/
def seqOf : List D → Option (List D)
  | [.lst ds] => some ds
  | [.tup ds] => some ds
  | _ => none
def listF : List D → M (List D) := fun xs => opt (seqOf xs)
theorem seq_of {O : List (Nat × Addr)} {H : Hp} {xs ds : List D} {vs : List V} (rx : RBL c O H xs vs) (e : seqOf xs = some ds) : ∃ a ws, vs = [.ref a] ∧ c.RL (Hd (hid c O) H) ds ws ∧ (SqL c.K H a ws ∨ (SqT c.K H a ws ∧ c.R (Hd (hid c O) H) (.tup ds) (.ref a))) := by
  unfold seqOf at e
  split at e
  · cases e
    obtain ⟨v, rfl, h⟩ := rx.one
    obtain ⟨a, vs, rfl, ha, rl⟩ := h.lst
    exact ⟨a, vs, rfl, rl, .inl (.inl (.inl ha))⟩
  · cases e
    obtain ⟨v, rfl, h⟩ := rx.one
    have h' := h.tupR
    obtain ⟨a, vs, rfl, ha, rl⟩ := h.tup
    exact ⟨a, vs, rfl, rl, .inr ⟨ha, h'⟩⟩
  · cases e
theorem cn_list (hK : c.K = X.K := by rfl) : CallN X c W (.type "list") listF := ⟨_, calls_of call_list_of, fun σ O ρ pt p1 H H1 Q xs vs rs s1 rx q => by
  cases e : seqOf xs with
  | none =>
    unfold listF at q
    rw [e] at q
    exact q.elim
  | some ds =>
    unfold listF at q
    rw [e] at q
    obtain ⟨a, ws, rfl, rl, h⟩ := seq_of rx e
    rw [hK] at h
    exact ⟨a, ws, rfl, h.imp id (·.1), fun l hl => new_lst rs s1 rl hl q⟩⟩
def tupF : List D → M D := fun xs => bnd (listF xs) fun ds => ret (.tup ds)
theorem cd_tuple (hK : c.K = X.K := by rfl) : CallD X c W (.type "tuple") tupF := ⟨_, calls_of call_tuple_of, fun σ O ρ pt H Q xs vs rs rx q => by
  cases e : seqOf xs with
  | none =>
    unfold tupF listF at q
    rw [e] at q
    exact q.elim
  | some ds =>
    unfold tupF listF at q
    rw [e] at q
    obtain ⟨a, ws, rfl, rl, h⟩ := seq_of rx e
    rw [hK] at h
    refine ⟨a, ws, rfl, ?_⟩
    rcases h with h | ⟨h, h'⟩
    · exact .inl ⟨h, fun l hl => q _ (Stp.new rs.pot hl) _ (mk_tup rs hl rl)⟩
    · exact .inr ⟨h, Wg.here q rs.pot _ h'⟩⟩
end
end DF

set_option Elab.async false
set_option linter.all false
set_option maxRecDepth 100000
set_option maxHeartbeats 4000000
namespace DF
open PySem L2
/-! ### what is walked -/
/-- the item x that stands for d, in the heap H' behind H: whatever is hidden now, if what stood open at H1 stands open -/
def Yg (c : Cy) (S : List Addr) (H1 H H' : Hp) (d : D) (x : V) : Prop := Gr H H' ∧ ∀ S' : List Addr, Gr (Hd S H1) (Hd S' H) → (∀ a ∈ S', ∃ o, H a = some o ∧ mt o = true) → c.R (Hd S' H') d x
def Yl (c : Cy) (S : List Addr) (J : It) (items : List D) (H1 : Hp) : Prop := ∀ H, (∀ a o, a ∉ S → H1 a = some o → nt o = true → H a = some o) →
  (∀ i d, items[i]? = some d → J.go i H ∧ ∀ x H', J.yld i H x H' → Yg c S H1 H H' d x) ∧ ∀ i, items.length ≤ i → J.stop i H
def dI (c : Cy) (W : WX) (f : Slots → M (List D)) : TI := fun σ H Rk => ∃ O ρ pt, RS c O ρ σ H pt ∧ Wg c W σ H (fun items _ H' => ∀ J, Yl c (hid c O) J items H' → Rk J H') (f ρ pt)
section
variable {X : Cx} {c : Cy} {W : WX} {σ : L2.St} {H H1 H' : Hp} {O : List (Nat × Addr)} {ρ : Slots} {pt pt' : Pot} {e e2 iter tg : Expr} {p pos : Pos}
theorem pi_imp {t t' : TI} (h : PI X tg iter t) (i : ∀ σ H R, t' σ H R → t σ H R) : PI X tg iter t' := ⟨fun pins s σ H R I q => h.run pins s σ H R I (i σ H R q)⟩
theorem pi_or {t t' : TI} (h : PI X tg iter t) (h' : PI X tg iter t') : PI X tg iter (fun σ H R => t σ H R ∨ t' σ H R) := ⟨fun pins s σ H R I q => q.elim (h.run pins s σ H R I) (h'.run pins s σ H R I)⟩
theorem Yg.at {S : List Addr} {d : D} {x : V} (h : c.R (Hd S H1) d x) : Yg c S H1 H H d x := ⟨Gr.refl H, fun S' g _ => R.gr g h⟩
theorem RL.at {K : PySem.W.Frag} {T : Tb} {p : Addr} {ds : List D} {vs : List V} {i : Nat} {d : D} {x : V} (h : RL K T p H ds vs) (e : ds[i]? = some d) (ex : vs[i]? = some x) : R K T p H d x := by
  obtain ⟨v, ev, r⟩ := RL.getD h e
  rw [ex] at ev
  cases ev
  exact r
theorem RL.ix {K : PySem.W.Frag} {T : Tb} {p : Addr} {ds : List D} {vs : List V} {i : Nat} {d : D} (h : RL K T p H ds vs) (e : ds[i]? = some d) : ∃ v, vs[i]? = some v := let ⟨v, ev, _⟩ := RL.getD h e; ⟨v, ev⟩
/-- what stands open is read as before -/
theorem open_l {S : List Addr} {K : PySem.W.Frag} {a : Addr} {vs : List V} (k : ∀ a o, a ∉ S → H1 a = some o → nt o = true → H a = some o) (h : Hd S H1 a = some (.lst vs)) : SqL K H a vs := .inl (.inl (k a _ (Hd.sees h).1 (Hd.sees h).2.1 rfl))
theorem open_t {S : List Addr} {K : PySem.W.Frag} {a : Addr} {vs : List V} (k : ∀ a o, a ∉ S → H1 a = some o → nt o = true → H a = some o) (h : SqT K (Hd S H1) a vs) : SqT K H a vs :=
  Gr.sqt (H := Hd S H1) (fun a o e => k a o (Hd.sees e).1 (Hd.sees e).2.1 (Hd.sees e).2.2) h
/-- two readings of one list -/
theorem sql_same {a : Addr} {xs ys : List V} {K : PySem.W.Frag} (h : H a = some (.lst xs)) (h' : SqL K H a ys) (hK : ∀ o, K.lookup a = some o → H a = none) : xs = ys := by
  rcases h' with (h' | ⟨o, h'⟩) | ⟨o, _, _, h', _⟩
  · rw [h] at h'; cases h'; rfl
  · rw [h] at h'; cases h'
  · rw [hK o h'] at h; cases h
theorem yl_list {S : List Addr} {a : Addr} {ds : List D} {vs : List V} (h : Hd S H1 a = some (.lst vs)) (rl : c.RL (Hd S H1) ds vs) : Yl c S (Itl c.K a) ds H1 := fun H k => by
  have q : SqL c.K H a vs := open_l k h
  refine ⟨fun i d e => ?_, fun i hi => ⟨vs, q, by rw [← RL.len rl]; exact hi⟩⟩
  obtain ⟨v, ev⟩ := RL.ix rl e
  refine ⟨⟨vs, v, q, ev⟩, fun x H' y => ?_⟩
  obtain ⟨e1, y⟩ := y
  subst e1
  exact Yg.at (RL.at rl e (y vs q))
theorem yl_tup {S : List Addr} {a : Addr} {ds : List D} {vs : List V} (h : SqT c.K (Hd S H1) a vs) (rl : c.RL (Hd S H1) ds vs) : Yl c S (Itt c.K a) ds H1 := fun H k => by
  have q : SqT c.K H a vs := open_t k h
  refine ⟨fun i d e => ?_, fun i hi => ⟨vs, q, by rw [← RL.len rl]; exact hi⟩⟩
  obtain ⟨v, ev⟩ := RL.ix rl e
  refine ⟨⟨vs, v, q, ev⟩, fun x H' y => ?_⟩
  obtain ⟨e1, y⟩ := y
  subst e1
  exact Yg.at (RL.at rl e (y vs q))
def chars (x : Str) : List D := x.cps.toList.map fun n => .str ⟨#[n]⟩
theorem yl_str {S : List Addr} {x : Str} : Yl c S (Its x) (chars x) H1 := fun H k => by
  refine ⟨fun i d e => ?_, fun i hi => ?_⟩
  · unfold chars at e
    rw [List.getElem?_map] at e
    cases en : x.cps.toList[i]? with
    | none => rw [en] at e; cases e
    | some n =>
      rw [en] at e
      cases e
      have hi : i < x.cps.size := by simpa using (List.getElem?_eq_some_iff.mp en).1
      refine ⟨hi, fun v H' y => ?_⟩
      obtain ⟨e1, m, em, ev⟩ := y
      subst e1 ev
      have : x.cps.toList[i]? = some m := by simpa using em
      rw [en] at this
      cases this
      exact Yg.at (by simp [Cy.R, R])
  · show x.cps.size ≤ i
    simpa [chars] using hi
theorem yl_range {S : List Addr} {lo : Int} {n : Nat} : Yl c S (Itr lo n) ((List.range n).map fun (k : Nat) => .int (lo + (k : Int))) H1 := fun H k => by
  refine ⟨fun i d e => ?_, fun i hi => ?_⟩
  · rw [List.getElem?_map] at e
    cases en : (List.range n)[i]? with
    | none => rw [en] at e; cases e
    | some m =>
      rw [en] at e
      cases e
      have hi : i < n := by simpa using (List.getElem?_eq_some_iff.mp en).1
      have hm : m = i := by
        rw [List.getElem?_range hi] at en
        cases en; rfl
      subst hm
      refine ⟨hi, fun x H' y => ?_⟩
      obtain ⟨e1, ex⟩ := y
      subst e1 ex
      exact Yg.at (by simp [Cy.R, R])
  · show n ≤ i
    simpa using hi
/-- a new pair -/
theorem Yg.pair {S : List Addr} {T : Addr} {d d' : D} {x y : V} (hT : H T = none) (hx : c.R (Hd S H1) d x) (hy : c.R (Hd S H1) d' y) : Yg c S H1 H (upd H T (.tup [x, y])) (.tup [d, d']) (.ref T) := by
  refine ⟨fun a o e => by rw [upd_ne (ne_of_none e hT)]; exact e, fun S' g hS => ?_⟩
  have nT : T ∉ S' := fun q => by
    obtain ⟨o, e, _⟩ := hS T q
    rw [hT] at e; cases e
  have g2 : Gr (Hd S H1) (Hd S' (upd H T (.tup [x, y]))) := g.trans (Hd.new hT)
  simp only [Cy.R, R]
  exact ⟨T, [x, y], rfl, .inl (.inl (Hd.at_new nT)), RL.cons (R.gr g2 hx) (RL.one (R.gr g2 hy))⟩
def pairs : List D → List D → List D := fun xs ys => List.zipWith (fun x y => .tup [x, y]) xs ys
theorem pairs_at {xs ys : List D} {i : Nat} {d : D} (e : (pairs xs ys)[i]? = some d) : ∃ x y, xs[i]? = some x ∧ ys[i]? = some y ∧ d = .tup [x, y] := by
  unfold pairs at e
  rw [List.getElem?_zipWith] at e
  cases e1 : xs[i]? with
  | none => rw [e1] at e; simp at e
  | some x =>
    cases e2 : ys[i]? with
    | none => rw [e1, e2] at e; simp at e
    | some y =>
      rw [e1, e2] at e
      cases e
      exact ⟨x, y, rfl, rfl, rfl⟩
theorem yl_zip {S : List Addr} {a b : Addr} {ds es : List D} {vs ws : List V} (h : Hd S H1 a = some (.lst vs)) (rl : c.RL (Hd S H1) ds vs) (h' : Hd S H1 b = some (.lst ws)) (rl' : c.RL (Hd S H1) es ws) : Yl c S (Itz c.K a b) (pairs ds es) H1 := fun H k => by
  have q : SqL c.K H a vs := open_l k h
  have q' : SqL c.K H b ws := open_l k h'
  refine ⟨fun i d e => ?_, fun i hi => ⟨vs, ws, q, q', ?_⟩⟩
  · obtain ⟨x, y, ex, ey, rfl⟩ := pairs_at e
    obtain ⟨v, ev⟩ := RL.ix rl ex
    obtain ⟨w, ew⟩ := RL.ix rl' ey
    refine ⟨⟨vs, ws, v, w, q, q', ev, ew⟩, fun z H' yy => ?_⟩
    obtain ⟨T, x1, y1, rfl, hT, rfl, f1, f2⟩ := yy
    exact Yg.pair hT (RL.at rl ex (f1 vs q)) (RL.at rl' ey (f2 ws q'))
  · unfold pairs at hi
    rw [List.length_zipWith, RL.len rl, RL.len rl'] at hi
    omega
theorem yl_zipT {S : List Addr} {a b : Addr} {ds es : List D} {vs ws : List V} (h : SqT c.K (Hd S H1) a vs) (rl : c.RL (Hd S H1) ds vs) (h' : SqT c.K (Hd S H1) b ws) (rl' : c.RL (Hd S H1) es ws) : Yl c S (RZ.ItzT c.K a b) (pairs ds es) H1 := fun H k => by
  have q : SqT c.K H a vs := open_t k h
  have q' : SqT c.K H b ws := open_t k h'
  refine ⟨fun i d e => ?_, fun i hi => ⟨vs, ws, q, q', ?_⟩⟩
  · obtain ⟨x, y, ex, ey, rfl⟩ := pairs_at e
    obtain ⟨v, ev⟩ := RL.ix rl ex
    obtain ⟨w, ew⟩ := RL.ix rl' ey
    refine ⟨⟨vs, ws, v, w, q, q', ev, ew⟩, fun z H' yy => ?_⟩
    obtain ⟨T, x1, y1, rfl, hT, rfl, f1, f2⟩ := yy
    exact Yg.pair hT (RL.at rl ex (f1 vs q)) (RL.at rl' ey (f2 ws q'))
  · unfold pairs at hi
    rw [List.length_zipWith, RL.len rl, RL.len rl'] at hi
    omega
def enums (ds : List D) : List D := pairs ((List.range ds.length).map fun (k : Nat) => .int (k : Int)) ds
theorem yl_enum {S : List Addr} {a : Addr} {ds : List D} {vs : List V} (h : Hd S H1 a = some (.lst vs)) (rl : c.RL (Hd S H1) ds vs) : Yl c S (Ite c.K a) (enums ds) H1 := fun H k => by
  have q : SqL c.K H a vs := open_l k h
  refine ⟨fun i d e => ?_, fun i hi => ⟨vs, q, ?_⟩⟩
  · obtain ⟨x, y, ex, ey, rfl⟩ := pairs_at e
    rw [List.getElem?_map] at ex
    have hi : i < ds.length := (List.getElem?_eq_some_iff.mp ey).1
    rw [List.getElem?_range hi] at ex
    cases ex
    obtain ⟨w, ew⟩ := RL.ix rl ey
    refine ⟨⟨vs, w, q, ew⟩, fun z H' yy => ?_⟩
    obtain ⟨T, x1, rfl, hT, rfl, f1⟩ := yy
    exact Yg.pair hT (by simp [Cy.R, R]) (RL.at rl ey (f1 vs q))
  · unfold enums pairs at hi
    rw [List.length_zipWith, List.length_map, List.length_range, RL.len rl] at hi
    omega
/-- the items of a value -/
def itemsOf : D → Option (List D)
  | .lst ds => some ds
  | .tup ds => some ds
  | .str x => some (chars x)
  | _ => none
def itE (f : Slots → M D) : Slots → M (List D) := fun ρ => bnd (f ρ) fun d => opt (itemsOf d)
theorem di_val {f : Slots → M D} (h : PE X e (dE c W f)) (hK : c.K = X.K := by rfl) : PI X tg e (dI c W (itE f)) := by
  refine pi_imp (pi_or (pi_list h) (pi_or (pi_tup h) (pi_str h))) fun σ H Rk ⟨O, ρ, pt, r, q⟩ => ?_
  have q := Wg.bnd q
  cases e1 : f ρ pt with
  | ok d p1 =>
    cases d with
    | lst ds =>
      refine .inl ⟨O, ρ, pt, r, ?_⟩
      rw [e1] at q ⊢
      intro H1 s1 v rv
      have qq := Wg.here (q H1 s1) s1.pot
      simp only [Cy.R, R] at rv
      obtain ⟨a, vs, rfl, ha, rl⟩ := rv
      refine ⟨a, rfl, ⟨vs, .inl (.inl (Hd.le _ _ ha))⟩, ?_⟩
      rw [← hK]
      exact qq _ (yl_list ha rl)
    | tup ds =>
      refine .inr (.inl ⟨O, ρ, pt, r, ?_⟩)
      rw [e1] at q ⊢
      intro H1 s1 v rv
      have qq := Wg.here (q H1 s1) s1.pot
      simp only [Cy.R, R] at rv
      obtain ⟨a, vs, rfl, ha, rl⟩ := rv
      refine ⟨a, rfl, ⟨vs, by rw [← hK]; exact Hd.le.sqt ha⟩, ?_⟩
      rw [← hK]
      exact qq _ (yl_tup ha rl)
    | str x =>
      refine .inr (.inr ⟨O, ρ, pt, r, ?_⟩)
      rw [e1] at q ⊢
      intro H1 s1 v rv
      have qq := Wg.here (q H1 s1) s1.pot
      exact ⟨x, by simpa [Cy.R, R] using rv, qq _ yl_str⟩
    | _ =>
      rw [e1] at q
      first
        | exact False.elim (q _ (Stp.refl (r.stp ⟨fun a o _ h => h, r.pot⟩).pot))
        | (refine .inl ⟨O, ρ, pt, r, ?_⟩; rw [e1]; intro H1 s1; exact (q H1 s1).elim)
  | exc k fs p1 =>
    refine .inl ⟨O, ρ, pt, r, ?_⟩
    rw [e1] at q ⊢
    exact q
  | stuck =>
    rw [e1] at q
    exact q.elim
/-- range(n), range(a, b) -/
def rng1 : List D → Option (List D)
  | [.int j] => if -(2 ^ 62) ≤ j ∧ j < 2 ^ 62 then some ((List.range j.toNat).map fun (k : Nat) => .int (0 + (k : Int))) else none
  | _ => none
def rng2 : List D → Option (List D)
  | [.int i, .int j] => if -(2 ^ 62) ≤ i ∧ i < 2 ^ 62 ∧ -(2 ^ 62) ≤ j ∧ j < 2 ^ 62 then some ((List.range (j - i).toNat).map fun (k : Nat) => .int (i + (k : Int))) else none
  | _ => none
def itA (g : List D → Option (List D)) (fa : Slots → M (List D)) : Slots → M (List D) := fun ρ => bnd (fa ρ) fun ds => opt (g ds)
theorem di_range1 {fa : Slots → M (List D)} (ha : PA X [e] (dAB c W fa)) (hm : X.mg "range" = none) (hg : Gl X "range" := by rfl) (hs : starEach [e] X.env = [(false, eval e X.env)] := by rfl) : PI X tg (.Call (.Name "range" p) [e] [] pos) (dI c W (itA rng1 fa)) := by
  refine pi_imp (pi_range1 hg hm ha hs) fun σ H Rk ⟨O, ρ, pt, r, q⟩ => ⟨O, ρ, pt, r, (Wg.bnd q).imp fun ds p1 H1 _ s1 q vs rv => ?_⟩
  obtain ⟨items, ei, q⟩ := Wg.opt q s1.pot
  unfold rng1 at ei
  split at ei
  · split at ei
    · rename_i hz
      cases ei
      obtain ⟨v, rfl, h⟩ := rv.one
      rw [h.int]
      exact ⟨_, rfl, hz.1, hz.2, q _ yl_range⟩
    · cases ei
  · cases ei
theorem di_range2 {fa : Slots → M (List D)} (ha : PA X [e, e2] (dAB c W fa)) (hm : X.mg "range" = none) (hg : Gl X "range" := by rfl) (hs : starEach [e, e2] X.env = [(false, eval e X.env), (false, eval e2 X.env)] := by rfl) (hs2 : starEach [e2] X.env = [(false, eval e2 X.env)] := by rfl) :
    PI X tg (.Call (.Name "range" p) [e, e2] [] pos) (dI c W (itA rng2 fa)) := by
  refine pi_imp (pi_range2 hg hm ha hs hs2) fun σ H Rk ⟨O, ρ, pt, r, q⟩ => ⟨O, ρ, pt, r, (Wg.bnd q).imp fun ds p1 H1 _ s1 q vs rv => ?_⟩
  obtain ⟨items, ei, q⟩ := Wg.opt q s1.pot
  unfold rng2 at ei
  split at ei
  · split at ei
    · rename_i hz
      cases ei
      obtain ⟨v, w, rfl, h, h'⟩ := rv.two
      rw [h.int, h'.int]
      exact ⟨_, _, rfl, hz, q _ yl_range⟩
    · cases ei
  · cases ei
/-- zip(xs, ys): two lists, or two tuples -/
def zipA : List D → Option (List D)
  | [.lst xs, .lst ys] => some (pairs xs ys)
  | [.tup xs, .tup ys] => some (pairs xs ys)
  | _ => none
theorem rl_two {K : PySem.W.Frag} {T : Tb} {p : Addr} {H : Hp} {d d' : D} {vs : List V} (h : RL K T p H [d, d'] vs) : ∃ v w, vs = [v, w] ∧ R K T p H d v ∧ R K T p H d' w := by
  simp only [RL] at h
  obtain ⟨v, ws, rfl, h1, w, zs, rfl, h2, rfl⟩ := h
  exact ⟨v, w, rfl, h1, h2⟩
theorem rl_one {K : PySem.W.Frag} {T : Tb} {p : Addr} {H : Hp} {d : D} {vs : List V} (h : RL K T p H [d] vs) : ∃ v, vs = [v] ∧ R K T p H d v := by
  simp only [RL] at h
  obtain ⟨v, ws, rfl, h1, rfl⟩ := h
  exact ⟨v, rfl, h1⟩
theorem di_zip {fa : Slots → M (List D)} {elts : List Expr} {kk : Nat} {tpos : Pos} (ha : PA X [e, e2] (dA c W fa)) (hm : X.mg "zip" = none) (hK : c.K = X.K := by rfl) (hg : Gl X "zip" := by rfl) (hs : starEach [e, e2] X.env = (false, eval e X.env) :: starEach [e2] X.env := by rfl)
    (hpl : (backTo pos (starEach [e2] X.env)).any (·.1) = false := by rfl) : PI X (.Tuple elts kk tpos) (.Call (.Name "zip" p) [e, e2] [] pos) (dI c W (itA zipA fa)) := by
  refine pi_imp (RZ.pi_zipA hg hm ha hs hpl) fun σ H Rk ⟨O, ρ, pt, r, q⟩ => ⟨O, ρ, pt, r, (Wg.bnd q).imp fun ds p1 H1 _ s1 q vs rv => ?_⟩
  obtain ⟨items, ei, q⟩ := Wg.opt q s1.pot
  unfold zipA at ei
  split at ei
  · cases ei
    obtain ⟨v, w, rfl, h1, h2⟩ := rl_two rv
    simp only [R] at h1 h2
    obtain ⟨a, xs, rfl, ha, ra⟩ := h1
    obtain ⟨b, ys, rfl, hb, rb⟩ := h2
    refine ⟨a, b, xs, ys, rfl, .inl ⟨.inl (.inl (Hd.le _ _ ha)), .inl (.inl (Hd.le _ _ hb)), ?_⟩⟩
    rw [← hK]
    exact q _ (yl_zip ha ra hb rb)
  · cases ei
    obtain ⟨v, w, rfl, h1, h2⟩ := rl_two rv
    simp only [R] at h1 h2
    obtain ⟨a, xs, rfl, ha, ra⟩ := h1
    obtain ⟨b, ys, rfl, hb, rb⟩ := h2
    refine ⟨a, b, xs, ys, rfl, .inr ⟨by rw [← hK]; exact Hd.le.sqt ha, by rw [← hK]; exact Hd.le.sqt hb, ?_⟩⟩
    rw [← hK]
    exact q _ (yl_zipT ha ra hb rb)
  · cases ei
def enumA : List D → Option (List D)
  | [.lst xs] => some (enums xs)
  | _ => none
theorem di_enum {fa : Slots → M (List D)} {elts : List Expr} {kk : Nat} {tpos : Pos} (ha : PA X [e] (dA c W fa)) (hm : X.mg "enumerate" = none) (hK : c.K = X.K := by rfl) (hg : Gl X "enumerate" := by rfl) (hs : starEach [e] X.env = [(false, eval e X.env)] := by rfl) :
    PI X (.Tuple elts kk tpos) (.Call (.Name "enumerate" p) [e] [] pos) (dI c W (itA enumA fa)) := by
  refine pi_imp (pi_enum hg hm ha hs) fun σ H Rk ⟨O, ρ, pt, r, q⟩ => ⟨O, ρ, pt, r, (Wg.bnd q).imp fun ds p1 H1 _ s1 q vs rv => ?_⟩
  obtain ⟨items, ei, q⟩ := Wg.opt q s1.pot
  unfold enumA at ei
  split at ei
  · cases ei
    obtain ⟨v, rfl, h1⟩ := rl_one rv
    simp only [R] at h1
    obtain ⟨a, xs, rfl, ha, ra⟩ := h1
    refine ⟨a, xs, rfl, .inl (.inl (Hd.le _ _ ha)), ?_⟩
    rw [← hK]
    exact q _ (yl_enum ha ra)
  · cases ei

/-! ### targets -/
theorem wipe_at {σ : L2.St} {vs : List Nat} {j : Nat} (h : j ∈ vs) : (wipe σ vs)[j]? = if j < σ.length then some none else none := by
  by_cases hl : j < σ.length
  · rw [if_pos hl]
    have hw : j < (wipe σ vs).length := by rw [wipe_length]; exact hl
    cases e : (wipe σ vs)[j]? with
    | none => rw [List.getElem?_eq_none_iff] at e; omega
    | some o =>
      cases o with
      | none => rfl
      | some x => exact absurd h (wipe_some e).2
  · rw [if_neg hl, List.getElem?_eq_none_iff, wipe_length]
    omega
theorem wipe_set {σ : L2.St} {vs : List Nat} {i : Nat} {x : Option V} (h : i ∈ vs) : wipe (σ.set i x) vs = wipe σ vs := by
  apply List.ext_getElem?
  intro j
  by_cases hj : j ∈ vs
  · rw [wipe_at hj, wipe_at hj, List.length_set]
  · rw [wipe_out hj, wipe_out hj, List.getElem?_set_ne (fun e : i = j => hj (e ▸ h))]
/-- a target takes a value -/
def dG (c : Cy) (vs : List Nat) (tgf : D → Slots → Option Slots) : TG := fun v σ H Q => ∃ O ρ pt d ρ', RS c O ρ σ H pt ∧ c.R (Hd (hid c O) H) d v ∧ tgf d ρ = some ρ' ∧ ∀ O' σ', RS c O' ρ' σ' H pt → Mv c O H O' H → wipe σ' vs = wipe σ vs → (∀ q ∈ O, q.1 ∉ vs → q ∈ O') → Q σ' H
def tgN (i : Nat) : D → Slots → Option Slots := fun d ρ => if i < ρ.length then some (ρ.set i (some (.val d))) else none
theorem pg_imp {t t' : TG} (h : PG X tg t) (i : ∀ v σ H Q, t' v σ H Q → t v σ H Q) : PG X tg t' := ⟨fun pins s σ H v u Q I r q => h.run pins s σ H v u Q I r (i v σ H Q q)⟩
theorem dg_name {i : Nat} {x : Str} {vs : List Nat} (hN : X.N.Nodup) (hv : i ∈ vs) (hi : X.N[i]? = some x := by rfl) (hx : Loc X.env.scope x := by first | exact Or.inl rfl | exact Or.inr rfl)
    (hf : X.fn x = true ∨ X.env.scope.names.lookup x = some .local := by first | exact .inl rfl | exact .inr rfl | assumption) : PG X (.Name x pos) (dG c vs (tgN i)) := by
  refine pg_imp (pg_name (i := i) hN hi hx hf) fun v σ H Q ⟨O, ρ, pt, d, ρ', rs, rv, e, q⟩ => ?_
  unfold tgN at e
  split at e
  · rename_i hl
    cases e
    exact q _ _ (rs.put i (by rw [← rs.len]; exact hl) rv) Mv.fewer (wipe_set hv) fun q hq hn => List.mem_filter.mpr ⟨hq, decide_eq_true fun z => hn (z ▸ hv)⟩
  · cases e
def tgs : List (D → Slots → Option Slots) → List D → Slots → Option Slots
  | [], [], ρ => some ρ
  | t :: ts, d :: ds, ρ => (t d ρ).bind (tgs ts ds)
  | _, _, _ => none
def dGs (c : Cy) (vs : List Nat) (ts : List (D → Slots → Option Slots)) : TGs := fun xs σ H Q => ∃ O ρ pt ds ρ', RS c O ρ σ H pt ∧ c.RL (Hd (hid c O) H) ds xs ∧ tgs ts ds ρ = some ρ' ∧ ∀ O' σ', RS c O' ρ' σ' H pt → Mv c O H O' H → wipe σ' vs = wipe σ vs → (∀ q ∈ O, q.1 ∉ vs → q ∈ O') → Q σ' H
theorem pgs_imp {es : List Expr} {t t' : TGs} (h : PGs X es t) (i : ∀ v σ H Q, t' v σ H Q → t v σ H Q) : PGs X es t' := ⟨fun pins s σ H v u Q I r q => h.run pins s σ H v u Q I r (i v σ H Q q)⟩
theorem dgs_nil {vs : List Nat} : PGs X [] (dGs c vs []) := pgs_imp pgs_nil fun xs σ H Q ⟨O, ρ, pt, ds, ρ', rs, rl, e, q⟩ => by
  cases ds with
  | nil =>
    simp only [tgs] at e
    cases e
    exact ⟨by simpa [Cy.RL, RL] using rl, q O σ rs Mv.refl rfl fun q hq _ => hq⟩
  | cons d ds => simp [tgs] at e
theorem dgs_cons {e : Expr} {es : List Expr} {vs : List Nat} {t : D → Slots → Option Slots} {ts : List (D → Slots → Option Slots)} (h : PG X e (dG c vs t)) (hs : PGs X es (dGs c vs ts)) (ha : (assignEach (e :: es) X.env).map (·.2) = assign e X.env :: (assignEach es X.env).map (·.2) := by rfl) : PGs X (e :: es) (dGs c vs (t :: ts)) := by
  refine pgs_imp (pgs_cons h hs ha) fun xs σ H Q ⟨O, ρ, pt, ds, ρ', rs, rl, e, q⟩ => ?_
  cases ds with
  | nil => simp [tgs] at e
  | cons d ds =>
    simp only [Cy.RL, RL] at rl
    obtain ⟨v, ws, rfl, rv, rl⟩ := rl
    simp only [tgs] at e
    cases e1 : t d ρ with
    | none => rw [e1] at e; cases e
    | some ρ1 =>
      rw [e1] at e
      refine ⟨v, ws, rfl, O, ρ, pt, d, ρ1, rs, rv, e1, fun O1 σ1 rs1 mv1 w1 k1 => ?_⟩
      exact ⟨O1, ρ1, pt, ds, ρ', rs1, RL.gr mv1.gr rl, e, fun O2 σ2 rs2 mv2 w2 k2 => q O2 σ2 rs2 (mv1.trans mv2) (w2.trans w1) fun z hz hn => k2 z (k1 z hz hn) hn⟩
def tgT (ts : List (D → Slots → Option Slots)) : D → Slots → Option Slots := fun d ρ => match d with
  | .tup ds => tgs ts ds ρ
  | _ => none
theorem tgs_len : ∀ {ts : List (D → Slots → Option Slots)} {ds : List D} {ρ ρ' : Slots}, tgs ts ds ρ = some ρ' → ds.length = ts.length
  | [], [], _, _, _ => rfl
  | [], _ :: _, _, _, e => by simp [tgs] at e
  | _ :: _, [], _, _, e => by simp [tgs] at e
  | t :: ts, d :: ds, ρ, ρ', e => by
    simp only [tgs] at e
    cases e1 : t d ρ with
    | none => rw [e1] at e; cases e
    | some ρ1 =>
      rw [e1] at e
      simp only [List.length_cons]
      rw [tgs_len (ts := ts) e]
theorem dg_tup {es : List Expr} {kk : Nat} {vs : List Nat} {ts : List (D → Slots → Option Slots)} (hc : X.calm = true) (h : PGs X es (dGs c vs ts)) (hn : (assignEach es X.env).length = ts.length := by rfl) (hst : (assignEach es X.env).findIdx? (·.1) = none := by rfl) (hK : c.K = X.K := by rfl) :
    PG X (.Tuple es kk pos) (dG c vs (tgT ts)) := by
  refine pg_imp (pg_tup hc h hn hst) fun v σ H Q ⟨O, ρ, pt, d, ρ', rs, rv, e, q⟩ => ?_
  cases d with
  | tup ds =>
    simp only [Cy.R, R] at rv
    obtain ⟨a, xs, rfl, ha, rl⟩ := rv
    have le := tgs_len (ts := ts) e
    exact ⟨a, xs, rfl, by rw [← hK]; exact Hd.le.sqt ha, by rw [← RL.len rl]; exact le, O, ρ, pt, ds, ρ', rs, rl, e, q⟩
  | _ => simp [tgT] at e

/-! ### for -/
def forL (tgf : D → Slots → Option Slots) (g : Slots → M Out) : List D → Slots → M Out
  | [], ρ => ret (.nx ρ)
  | d :: ds, ρ => bnd (opt (tgf d ρ)) fun ρ1 => bnd (g ρ1) fun o => match o with
    | .nx ρ2 => forL tgf g ds ρ2
    | .ct ρ2 => forL tgf g ds ρ2
    | .bk ρ2 => ret (.nx ρ2)
    | .rt d => ret (.rt d)
def forS (fi : Slots → M (List D)) (tgf : D → Slots → Option Slots) (g : Slots → M Out) : Slots → M Out := fun ρ => bnd (fi ρ) fun items => forL tgf g items ρ
theorem ds_for {vs : List Nat} {body : List Stmt} {fi : Slots → M (List D)} {tgf : D → Slots → Option Slots} {g : Slots → M Out} (hp : PassesOwn (model X.prog X.w) X.A X.env X.xe) (hc : X.calm = true) (hi : PI X tg iter (dI c W fi)) (hg : PG X tg (dG c vs tgf)) (hb : PSs X body (dS c W g))
    (hs : ∀ x, foldedSetIterable iter X.env x = pure x := by intro _; rfl) : PS X (.For tg iter body [] pos) (dS c W (forS fi tgf g)) := by
  refine ps_imp (ps_for hp hc hi hg hb hs) fun E σ H ⟨O, ρ, pt, r, h⟩ => ⟨O, ρ, pt, r, (WO.bnd r h).imp fun items p1 H1 _ s1 q J yl => ?_⟩
  refine ⟨fun i m σ' H' => m = items.length - i ∧ i ≤ items.length ∧ ∃ O' ρ' pt', RS c O' ρ' σ' H' pt' ∧ Mv c O H1 O' H' ∧ WO c W E O' H' (forL tgf g (items.drop i) ρ' pt'), ⟨_, rfl, Nat.zero_le _, O, ρ, p1, r.stp s1, Mv.refl, q⟩, ?_⟩
  rintro i m σ' H' ⟨rfl, hi, O', ρ', pt', rs, mv, q⟩
  obtain ⟨y1, y2⟩ := yl H' fun a o h e m => (mv a o h e m).2
  by_cases hl : i < items.length
  · refine .inr ?_
    have ed : items[i]? = some items[i] := List.getElem?_eq_getElem hl
    have edr : items.drop i = items[i] :: items.drop (i + 1) := List.drop_eq_getElem_cons hl
    rw [edr] at q
    simp only [forL] at q
    obtain ⟨go, yy⟩ := y1 i _ ed
    refine ⟨go, fun σ2 H2 => ∃ O2 ρ2 pt2, RS c O2 ρ2 σ2 H2 pt2 ∧ Mv c O H1 O2 H2 ∧ WO c W E O2 H2 (forL tgf g (items.drop (i + 1)) ρ2 pt2), fun σ2 H2 ⟨O2, ρ2, pt2, a1, a2, a3⟩ => ⟨items.length - (i + 1), by omega, rfl, hl, O2, ρ2, pt2, a1, a2, a3⟩, fun x H2 y => ?_⟩
    obtain ⟨gr, rx⟩ := yy x H2 y
    have st : Stp c.T.tb c.p H' H2 pt' := Stp.gr_ rs.pot gr
    have rs2 := rs.stp st
    have rx := rx (hid c O') mv.gr fun a h => rs.hidden h
    have q := WO.from (st.mv rs.hp) q
    cases et : tgf items[i] ρ' with
    | none =>
      unfold DF.bnd at q
      rw [et] at q
      exact q.elim
    | some ρ1 =>
      rw [et] at q
      have q : WO c W E O' H2 (bnd (g ρ1) (fun o => match o with | .nx ρ2 => forL tgf g (items.drop (i + 1)) ρ2 | .ct ρ2 => forL tgf g (items.drop (i + 1)) ρ2 | .bk ρ2 => ret (.nx ρ2) | .rt d => ret (.rt d)) pt') := q
      refine ⟨O', ρ', pt', items[i], ρ1, rs2, rx, et, fun O1 σ1 rs1 mv1 _ _ => ⟨O1, ρ1, pt', rs1, ?_⟩⟩
      have q := WO.from mv1 q
      have mv2 : Mv c O H1 O1 H2 := (mv.trans (st.mv rs.hp)).trans mv1
      unfold DF.bnd at q
      cases eg : g ρ1 pt' with
      | ok o p2 =>
        rw [eg] at q
        cases o with
        | nx ρ2 => exact fun O2 σ2 H3 a1 a2 => ⟨O2, ρ2, p2, a1, mv2.trans a2, WO.from a2 q⟩
        | ct ρ2 => exact fun O2 σ2 H3 a1 a2 => ⟨O2, ρ2, p2, a1, mv2.trans a2, WO.from a2 q⟩
        | bk ρ2 => exact fun O2 σ2 H3 a1 a2 => q O2 σ2 H3 a1 a2
        | rt d => exact q
      | exc _ _ _ =>
        rw [eg] at q
        exact q
      | stuck =>
        rw [eg] at q
        exact q
  · have ei : i = items.length := by omega
    subst ei
    rw [List.drop_length] at q
    exact .inl ⟨y2 _ (Nat.le_refl _), q O' σ' H' rs Mv.refl⟩
end
end DF

set_option Elab.async false
set_option linter.all false
set_option maxRecDepth 100000
set_option maxHeartbeats 4000000
namespace DF
open PySem L2
/-! ### list comprehensions -/
def wipeD (ρ : Slots) : List Nat → Slots
  | [] => ρ
  | v :: vs => (wipeD ρ vs).set v none
def noOwn (ρ : Slots) (vs : List Nat) : Bool := vs.all fun i => match ρ[i]? with
  | some (some s) => !isOwn s
  | _ => true
theorem wipeD_len (ρ : Slots) : ∀ vs, (wipeD ρ vs).length = ρ.length
  | [] => rfl
  | v :: vs => by
    show ((wipeD ρ vs).set v none).length = _
    rw [List.length_set, wipeD_len ρ vs]
theorem wipeD_out {ρ : Slots} {j : Nat} : ∀ {vs : List Nat}, j ∉ vs → (wipeD ρ vs)[j]? = ρ[j]?
  | [], _ => rfl
  | v :: vs, h => by
    show ((wipeD ρ vs).set v none)[j]? = _
    rw [List.getElem?_set_ne (fun e : v = j => h (e ▸ List.mem_cons_self)), wipeD_out fun q => h (List.mem_cons_of_mem _ q)]
theorem wipeD_in {ρ : Slots} {j : Nat} {s : SV} : ∀ {vs : List Nat}, j ∈ vs → (wipeD ρ vs)[j]? ≠ some (some s)
  | [], h => nomatch h
  | v :: vs, h => by
    show ((wipeD ρ vs).set v none)[j]? ≠ _
    by_cases e : v = j
    · subst e
      by_cases hl : v < (wipeD ρ vs).length
      · rw [List.getElem?_set_self hl]
        exact fun q => nomatch q
      · rw [List.getElem?_eq_none (by simpa using hl)]
        exact fun q => nomatch q
    · rw [List.getElem?_set_ne e]
      exact wipeD_in ((List.mem_cons.mp h).resolve_left fun q => e q.symm)
section
variable {X : Cx} {c : Cy} {W : WX} {σ : L2.St} {H H1 H' : Hp} {O : List (Nat × Addr)} {ρ : Slots} {pt pt' : Pot} {e e2 iter tg elt : Expr} {p pos : Pos}
theorem own_out (r : RS c O ρ σ H pt) {vs : List Nat} (h : noOwn ρ vs = true) : ∀ q ∈ O, q.1 ∉ vs := fun q hq hv => by
  obtain ⟨s, e, o⟩ := r.ow q hq
  have := List.all_eq_true.mp h q.1 hv
  rw [e] at this
  simp only [o] at this
  cases this
/-- the block of a comprehension: its names forgotten, the new list out of sight -/
theorem RS.blk (r : RS c O ρ σ H pt) {vs : List Nat} (h : noOwn ρ vs = true) {l : Addr} (hl : H l = none) (o : HO) (mo : mt o = true := by rfl) : RS { c with S := l :: c.S } O (wipeD ρ vs) (wipe σ vs) (upd H l o) pt := by
  have st : Stp c.T.tb c.p H (upd H l o) pt := Stp.new r.pot hl
  have g : Gr (Hd (hid c O) H) (Hd (hid { c with S := l :: c.S } O) (upd H l o)) := fun a u e => by
    obtain ⟨h1, h2, h3⟩ := Hd.sees e
    have na : a ≠ l := ne_of_none h2 hl
    have nm : a ∉ hid { c with S := l :: c.S } O := fun q => (List.mem_cons.mp (show a ∈ l :: (c.S ++ O.map (·.2)) from q)).elim na h1
    exact Hd.out nm (by rw [upd_ne na]; exact h2) h3
  have lo : ∀ q ∈ O, q.2 ≠ l := fun q hq e => by
    obtain ⟨_, _, _, u, h3, _⟩ := r.new q hq
    rw [e, hl] at h3; cases h3
  refine ⟨st.pot, fun a u n e m => st.keep a u n (r.ext a u n e m) m, List.mem_cons_of_mem _ r.hp, fun a ha => ?_, fun q hq => ?_, r.nd, r.nf, by rw [wipeD_len, wipe_length]; exact r.len, fun q hq => ?_, fun j s hj => ?_⟩
  · rcases List.mem_cons.mp ha with e | ha
    · exact ⟨o, by rw [e, upd_same], mo⟩
    · obtain ⟨u, e, mu⟩ := r.hS a ha
      exact ⟨u, by rw [upd_ne (ne_of_none e hl)]; exact e, mu⟩
  · obtain ⟨h1, h2, h3, u, h4, mu⟩ := r.new q hq
    exact ⟨h1, h2, fun z => (List.mem_cons.mp z).elim (lo q hq) h3, u, by rw [upd_ne (lo q hq)]; exact h4, mu⟩
  · obtain ⟨s, e, ho⟩ := r.ow q hq
    exact ⟨s, by rw [wipeD_out (own_out r h q hq)]; exact e, ho⟩
  · by_cases hv : j ∈ vs
    · exact absurd hj (wipeD_in hv)
    · rw [wipeD_out hv] at hj
      rw [wipe_out hv]
      have q := r.sl j s hj
      have st' : ∀ {a : Addr} {u : HO}, (j, a) ∈ O → H a = some u → upd H l o a = some u := fun m e => by rw [upd_ne (ne_of_none e hl)]; exact e
      cases s with
      | val d =>
        obtain ⟨v, e, r⟩ := q
        exact ⟨v, e, R.gr g r⟩
      | own ds =>
        obtain ⟨a, vs, m, e, q, r⟩ := q
        exact ⟨a, vs, m, e, st' m q, RL.gr g r⟩
      | ownd ds =>
        obtain ⟨a, vs, m, e, q, r⟩ := q
        exact ⟨a, vs, m, e, st' m q, RK.gr g r⟩
      | slf k fs =>
        obtain ⟨a, dx, vs, m, em, e, q, l, r⟩ := q
        exact ⟨a, dx, vs, m, em, e, st' m q, l, RL.gr g r⟩
      | exv e fs => exact ⟨q.1, Xv.gr g q.2⟩
      | lam => exact ⟨q.1, g _ _ q.2⟩
      | raw v => exact q
theorem wipe_wipe (σ : L2.St) (vs : List Nat) : wipe (wipe σ vs) vs = wipe σ vs := by
  apply List.ext_getElem?
  intro j
  by_cases hj : j ∈ vs
  · rw [wipe_at hj, wipe_at hj, wipe_length]
  · rw [wipe_out hj]
/-- a hidden thing changes -/
theorem RS.poke (r : RS c O ρ σ H pt) {l : Addr} {o : HO} (hl : l ∈ c.S) (lp : l ≠ c.p) (h0 : Hd [] c.H0 l = none) (mo : mt o = true := by rfl) : RS c O ρ σ (upd H l o) pt := by
  have lin : l ∈ hid c O := List.mem_append_left _ hl
  have g : Gr (Hd (hid c O) H) (Hd (hid c O) (upd H l o)) := fun a u ea => by
    obtain ⟨h1, h2, h3⟩ := Hd.sees ea
    exact Hd.out h1 (by rw [upd_ne (fun z : a = l => h1 (z ▸ lin))]; exact h2) h3
  obtain ⟨u0, e0, m0⟩ := r.hidden lin
  have lo : ∀ q ∈ O, q.2 ≠ l := fun q hq e => (r.new q hq).2.2.1 (e ▸ hl)
  refine ⟨r.pot.upd (Ne.symm lp) e0 m0, fun a u n e nn => ?_, r.hp, fun a ha => ?_, fun q hq => ?_, r.nd, r.nf, r.len, r.ow, fun j s hj => ?_⟩
  · rw [upd_ne (Hd.ne e nn h0)]
    exact r.ext a u n e nn
  · by_cases z : a = l
    · exact ⟨o, by rw [z, upd_same], mo⟩
    · obtain ⟨u, e, mu⟩ := r.hS a ha
      exact ⟨u, by rw [upd_ne z]; exact e, mu⟩
  · obtain ⟨h1, h2, h3, u, h4, mu⟩ := r.new q hq
    exact ⟨h1, h2, h3, u, by rw [upd_ne (lo q hq)]; exact h4, mu⟩
  · have q := r.sl j s hj
    have st' : ∀ {a : Addr} {u : HO}, (j, a) ∈ O → H a = some u → upd H l o a = some u := fun m e => by rw [upd_ne (lo _ m)]; exact e
    cases s with
    | val d =>
      obtain ⟨v, e, r⟩ := q
      exact ⟨v, e, R.gr g r⟩
    | own ds =>
      obtain ⟨a, vs, m, e, q, r⟩ := q
      exact ⟨a, vs, m, e, st' m q, RL.gr g r⟩
    | ownd ds =>
      obtain ⟨a, vs, m, e, q, r⟩ := q
      exact ⟨a, vs, m, e, st' m q, RK.gr g r⟩
    | slf k fs =>
      obtain ⟨a, dx, vs, m, em, e, q, l, r⟩ := q
      exact ⟨a, dx, vs, m, em, e, st' m q, l, RL.gr g r⟩
    | exv e fs => exact ⟨q.1, Xv.gr g q.2⟩
    | lam => exact ⟨q.1, g _ _ q.2⟩
    | raw v => exact q
def compL (tgf : D → Slots → Option Slots) (t : Slots → M Bool) (f : Slots → M D) (ρ : Slots) : List D → List D → M (List D)
  | [], acc => ret acc
  | d :: ds, acc => bnd (opt (tgf d ρ)) fun ρ1 => bnd (noX (t ρ1)) fun b => if b then bnd (noX (f ρ1)) fun y => (if acc.length < 100000 then compL tgf t f ρ ds (acc ++ [y]) else fail) else compL tgf t f ρ ds acc
def compE (fi : Slots → M (List D)) (vs : List Nat) (tgf : D → Slots → Option Slots) (t : Slots → M Bool) (f : Slots → M D) : Slots → M (List D) := fun ρ => bnd (fi ρ) fun items => if noOwn ρ vs then compL tgf t f (wipeD ρ vs) items [] else fail
abbrev W0 : WX := fun _ _ _ _ => False
def yesT : Slots → M Bool := fun _ => ret true
theorem pts_ex {ifs : List Expr} {ι : Type} {t : ι → TT} (h : ∀ i, PTs X ifs (t i)) : PTs X ifs (fun σ H Q => ∃ i, t i σ H Q) := ⟨fun pins s σ H Q I ⟨i, q⟩ => (h i).run pins s σ H Q I q⟩
theorem pe_ex {ι : Type} {t : ι → TE} (h : ∀ i, PE X e (t i)) : PE X e (fun σ H Q => ∃ i, t i σ H Q) := ⟨fun pins s σ H Q I ⟨i, q⟩ => (h i).run pins s σ H Q I q⟩
theorem pg_ex {ι : Type} {t : ι → TG} (h : ∀ i, PG X e (t i)) : PG X e (fun v σ H Q => ∃ i, t i v σ H Q) := ⟨fun pins s σ H v u Q I r ⟨i, q⟩ => (h i).run pins s σ H v u Q I r q⟩
theorem dts_nil : PTs X [] (dT c W yesT) := ⟨fun pins s σ H Q I ⟨O, ρ, pt, r, q⟩ => pts_nil.run pins s σ H Q I (Wg.here q r.pot)⟩
theorem dts_one {a : Expr} {t : Slots → M Bool} (h : PT X a (dT c W t)) : PTs X [a] (dT c W t) := pts_one h
/-- an outcome without exceptions, for a part that may raise none -/
theorem Wg.nox {α : Type} {W W' : WX} {P : α → Pot → Hp → Prop} {m : M α} {pt : Pot} (h : Wg c W σ H P (noX m pt)) : Wg c W' σ H P (m pt) := by
  unfold noX at h
  cases e : m pt with
  | ok a q => rw [e] at h; exact h
  | exc _ _ _ => rw [e] at h; exact h.elim
  | stuck => rw [e] at h; exact h.elim
theorem comp_use {vs : List Nat} {fi : Slots → M (List D)} {tgf : D → Slots → Option Slots} {t : Slots → M Bool} {f : Slots → M D} {Q : VK} (h : dL c W (compE fi vs tgf t f) σ H Q) :
    tLc (dI c W fi) (fun v σ H Q => ∃ l : Addr, dG { c with S := l :: c.S } vs tgf v σ H Q) (fun σ H Q => ∃ l : Addr, dT { c with S := l :: c.S } W0 t σ H Q) (fun σ H Q => ∃ l : Addr, dE { c with S := l :: c.S } W0 f σ H Q) vs σ H Q := by
  obtain ⟨O, ρ, pt, r, h⟩ := h
  refine ⟨O, ρ, pt, r, ?_⟩
  unfold compE DF.bnd at h
  cases e : fi ρ pt with
  | exc _ _ _ => rw [e] at h; exact h
  | stuck => rw [e] at h; exact h
  | ok items p1 =>
    rw [e] at h
    intro H1 s1 J yl l hl
    simp only at h
    by_cases hn : noOwn ρ vs = true
    · rw [if_pos hn] at h
      have hl0 : Hd [] H l = none := by
        cases e2 : Hd [] H l with
        | none => rfl
        | some o =>
          obtain ⟨_, e2, n2⟩ := Hd.sees e2
          by_cases el : l = c.p
          · rw [el, s1.pot.at_] at hl; cases hl
          · rw [s1.keep l o el e2 n2] at hl; cases hl
      have r1 := r.stp s1
      have lh : l ∉ hid c O := r1.fresh hl
      have rb := r1.blk hn hl (.lst [])
      let c' : Cy := { c with S := l :: c.S }
      have hidE : ∀ a, a ∈ hid c' O ↔ a ∈ l :: hid c O := fun a => Iff.rfl
      refine ⟨fun i m H2 => m = items.length - i ∧ i ≤ items.length ∧ ∃ acc vacc p2, RS c' O (wipeD ρ vs) (wipe σ vs) H2 p2 ∧ Stp c.T.tb c.p H1 H2 p2 ∧ H2 l = some (.lst vacc) ∧ c.RL (Hd (hid c' O) H2) acc vacc ∧
        Wg c W σ H (fun ds _ H' => ∀ l vs, Hd [] H l = none → H' l = some (.lst vs) → c.RL (Hd (l :: hid c O) H') ds vs → Q (.ref l) H') (compL tgf t f (wipeD ρ vs) (items.drop i) acc p2),
        ⟨_, rfl, Nat.zero_le _, [], [], p1, rb, Stp.new s1.pot hl, upd_same, RL.nil, h⟩, ?_⟩
      rintro i m H2 ⟨rfl, hi, acc, vacc, p2, rs, st, hlv, rl, q⟩
      obtain ⟨y1, y2⟩ := yl H2 fun a o ha ea m => st.keep a o (fun z => ha (z ▸ r.pm)) ea m
      by_cases hlt : i < items.length
      · refine .inr ?_
        have ed : items[i]? = some items[i] := List.getElem?_eq_getElem hlt
        have edr : items.drop i = items[i] :: items.drop (i + 1) := List.drop_eq_getElem_cons hlt
        rw [edr] at q
        simp only [compL] at q
        obtain ⟨go, yy⟩ := y1 i _ ed
        refine ⟨go, fun H3 => ∃ acc vacc p3, RS c' O (wipeD ρ vs) (wipe σ vs) H3 p3 ∧ Stp c.T.tb c.p H1 H3 p3 ∧ H3 l = some (.lst vacc) ∧ c.RL (Hd (hid c' O) H3) acc vacc ∧
          Wg c W σ H (fun ds _ H' => ∀ l vs, Hd [] H l = none → H' l = some (.lst vs) → c.RL (Hd (l :: hid c O) H') ds vs → Q (.ref l) H') (compL tgf t f (wipeD ρ vs) (items.drop (i + 1)) acc p3),
          fun H3 ⟨acc, vacc, p3, a1, a2, a3, a4, a5⟩ => ⟨items.length - (i + 1), by omega, rfl, hlt, acc, vacc, p3, a1, a2, a3, a4, a5⟩, fun x H3 y => ?_⟩
        obtain ⟨gr, rx⟩ := yy x H3 y
        have st3 : Stp c.T.tb c.p H2 H3 p2 := Stp.gr_ rs.pot gr
        have rs3 : RS c' O (wipeD ρ vs) (wipe σ vs) H3 p2 := rs.stp st3
        have gro : Gr (Hd (hid c O) H1) (Hd (hid c' O) H2) := fun a o ea => by
          obtain ⟨h1, h2, h3⟩ := Hd.sees ea
          have na : a ≠ l := ne_of_none h2 hl
          exact Hd.out (fun z => (List.mem_cons.mp ((hidE a).mp z)).elim na h1) (st.keep a o (fun z => h1 (z ▸ r.pm)) h2 h3) h3
        have rx := rx (hid c' O) gro fun a ha => rs.hidden ha
        cases et : tgf items[i] (wipeD ρ vs) with
        | none =>
          unfold DF.bnd at q
          rw [et] at q
          exact q.elim
        | some ρ1 =>
          rw [et] at q
          have q : Wg c W σ H (fun ds _ H' => ∀ l vs, Hd [] H l = none → H' l = some (.lst vs) → c.RL (Hd (l :: hid c O) H') ds vs → Q (.ref l) H') (bnd (noX (t ρ1)) (fun b => if b then bnd (noX (f ρ1)) fun y => (if acc.length < 100000 then compL tgf t f (wipeD ρ vs) (items.drop (i + 1)) (acc ++ [y]) else fail) else compL tgf t f (wipeD ρ vs) (items.drop (i + 1)) acc) p2) := q
          refine ⟨l, O, wipeD ρ vs, p2, items[i], ρ1, rs3, rx, et, fun O1 σ1 rs1 mv1 w1 k1 => ⟨w1.trans (wipe_wipe σ vs), l, O1, ρ1, p2, rs1, ?_⟩⟩
          unfold DF.bnd noX at q
          cases eb : t ρ1 p2 with
          | exc _ _ _ => rw [eb] at q; exact q.elim
          | stuck => rw [eb] at q; exact q.elim
          | ok b p3 =>
            rw [eb] at q
            intro H4 st4
            have stA : Stp c.T.tb c.p H1 H4 p3 := (st.trans st3).trans st4
            cases b with
            | false =>
              refine ⟨acc, vacc, p3, rs3.stp st4, stA, ?_, ?_, q⟩
              · exact st4.keep _ _ (fun z => lh (z ▸ r.pm)) (gr _ _ hlv)
              · exact RL.gr (st4.gr rs.pm) (RL.gr (st3.gr rs.pm) rl)
            | true =>
              refine ⟨l, O1, ρ1, p3, rs1.stp st4, ?_⟩
              simp only [if_true] at q
              cases ef : f ρ1 p3 with
              | exc _ _ _ => rw [ef] at q; exact q.elim
              | stuck => rw [ef] at q; exact q.elim
              | ok yd p4 =>
                rw [ef] at q
                intro H5 st5 yv ry
                simp only at q
                by_cases ha : acc.length < 100000
                · rw [if_pos ha] at q
                  have st45 : Stp c.T.tb c.p H3 H5 p4 := st4.trans st5
                  have rs5 : RS c' O (wipeD ρ vs) (wipe σ vs) H5 p4 := rs3.stp st45
                  have hl5 : H5 l = some (.lst vacc) := st45.keep _ _ (fun z => lh (z ▸ r.pm)) (gr _ _ hlv)
                  have rl5 : c.RL (Hd (hid c' O) H5) acc vacc := RL.gr (st45.gr rs.pm) (RL.gr (st3.gr rs.pm) rl)
                  have sub : ∀ a ∈ hid c' O, a ∈ hid c' O1 := fun a ha => by
                    rcases List.mem_append.mp ha with ha | ha
                    · exact List.mem_append_left _ ha
                    · obtain ⟨z, hz, ez⟩ := List.mem_map.mp ha
                      exact List.mem_append_right _ (List.mem_map.mpr ⟨z, k1 z hz (own_out r hn z hz), ez⟩)
                  have ry5 : c.R (Hd (hid c' O) H5) yd yv := R.gr (Hd.sub sub) ry
                  have lin : l ∈ hid c' O := List.mem_cons_self
                  have grU : Gr (Hd (hid c' O) H5) (Hd (hid c' O) (upd H5 l (.lst (vacc ++ [yv])))) := fun a o ea => by
                    obtain ⟨h1, h2, h3⟩ := Hd.sees ea
                    exact Hd.out h1 (by rw [upd_ne (fun z : a = l => h1 (z ▸ lin))]; exact h2) h3
                  have lp : c.p ≠ l := fun z => lh (z ▸ r.pm)
                  have l0 : Hd [] c.H0 l = none := by
                    cases e0 : Hd [] c.H0 l with
                    | none => rfl
                    | some o =>
                      obtain ⟨_, e0, n0⟩ := Hd.sees e0
                      exact absurd rfl (Hd.ne (r.ext l o (Ne.symm lp) e0 n0) n0 hl0)
                  refine ⟨vacc, hl5, Nat.lt_of_lt_of_le (by rw [← RL.len rl]; exact ha) (by decide), acc ++ [yd], vacc ++ [yv], p4, rs5.poke List.mem_cons_self (Ne.symm lp) l0, ?_, upd_same, RL.app (RL.gr grU rl5) (RL.one (R.gr grU ry5)), q⟩
                  exact ⟨fun a o n ea m => by
                    rw [upd_ne (ne_of_none ea hl)]
                    exact (st.trans (st3.trans st45)).keep a o n ea m, st45.pot.upd lp hl5 rfl⟩
                · rw [if_neg ha] at q
                  exact q.elim
      · have ei : i = items.length := by omega
        subst ei
        rw [List.drop_length] at q
        refine .inl ⟨y2 _ (Nat.le_refl _), ?_⟩
        exact q H2 (s1.trans st) l vacc hl0 hlv rl
    · rw [if_neg hn] at h
      exact h.elim
end
end DF

set_option Elab.async false
set_option linter.all false
set_option maxRecDepth 100000
set_option maxHeartbeats 4000000
namespace DF
open PySem L2
section
variable {X : Cx} {c : Cy} {W : WX} {σ : L2.St} {H H1 H' : Hp} {O : List (Nat × Addr)} {ρ : Slots} {pt pt' : Pot} {e e2 iter tg elt a b o : Expr} {p pos apos cpos : Pos}
theorem ds_asg_of {i : Nat} {st : Stmt} {f : Slots → M D} (h : PS X st (tAsg (dE c W f) (gName i))) : PS X st (dS c W (asgS i f)) := by
  refine ps_imp h fun E σ H ⟨O, ρ, pt, r, h⟩ => ⟨O, ρ, pt, r, (WO.bnd r h).imp fun d p1 H1 _ s1 q v rv => ?_⟩
  by_cases hl : i < ρ.length
  · rw [if_pos hl] at q
    exact q _ _ _ ((r.stp s1).put i (by rw [← r.len]; exact hl) rv) Mv.fewer
  · rw [if_neg hl] at q
    exact q.elim
theorem ds_asgL_of {i : Nat} {st : Stmt} {f : Slots → M (List D)} (h : PS X st (tAsg (dL c W f) (gName i))) : PS X st (dS c W (asgL i f)) := by
  refine ps_imp h fun E σ H ⟨O, ρ, pt, r, h⟩ => ⟨O, ρ, pt, r, ?_⟩
  unfold asgL DF.bnd at h
  cases e : f ρ pt with
  | ok ds p1 =>
    rw [e] at h
    intro H1 s1 l vs hl h1 rl
    simp only at h
    by_cases hz : i < ρ.length
    · rw [if_pos hz] at h
      obtain ⟨rs, mv⟩ := r.putOwn s1 i (by rw [← r.len]; exact hz) hl h1 rl
      exact h _ _ _ rs mv
    · rw [if_neg hz] at h
      exact h.elim
  | exc _ _ _ =>
    rw [e] at h
    exact fun cls dd H' st x => h cls dd σ H' (Fin.of_stp r st) x
  | stuck =>
    rw [e] at h
    exact h
theorem tAsg_imp {st : Stmt} {t t' : TE} {i : Nat} (h : PS X st (tAsg t (gName i))) (k : ∀ σ H Q, t' σ H Q → t σ H Q) : PS X st (tAsg t' (gName i)) := ps_imp h fun E σ H q => k σ H _ q
/-- a new list, kept -/
theorem box_use {f : Slots → M (List D)} {Q : VK} (h : dE c W (boxE f) σ H Q) : dL c W f σ H Q := by
  obtain ⟨O, ρ, pt, r, q⟩ := h
  refine ⟨O, ρ, pt, r, (Wg.bnd q).imp fun ds p1 H1 _ s1 q l vs hl h1 rl => ?_⟩
  refine Wg.here q s1.pot _ ?_
  simp only [Cy.R, R]
  refine ⟨l, vs, rfl, ?_, RL.gr (Hd.sub fun a h => List.mem_cons_of_mem _ h) rl⟩
  exact Hd.out (r.freshF hl) h1
/-! ### comprehensions -/
theorem dl_lc {ifs : List Expr} {scope : Scope} {own : List (Str × Nat)} {fi : Slots → M (List D)} {tgf : D → Slots → Option Slots} {t : Slots → M Bool} {f : Slots → M D} (hc : X.calm = true) (hN : X.N.Nodup) (hi : PI X tg iter (dI c W fi)) (ok : BlkOk X.N X.env.scope scope own)
    (hg : ∀ (l : Addr) (s : Shared) (H : Hp) (C : Addr) (cl : List (Str × Addr)) (fp : List Addr), PG (X.blk s H scope (compEnvC scope cl C X.env) fp) tg (dG { c with S := l :: c.S } (own.map (·.2)) tgf))
    (ht : ∀ (l : Addr) (s : Shared) (H : Hp) (C : Addr) (cl : List (Str × Addr)) (fp : List Addr), PTs (X.blk s H scope (compEnvC scope cl C X.env) fp) ifs (dT { c with S := l :: c.S } W0 t))
    (he : ∀ (l : Addr) (s : Shared) (H : Hp) (C : Addr) (cl : List (Str × Addr)) (fp : List Addr), PE (X.blk s H scope (compEnvC scope cl C X.env) fp) elt (dE { c with S := l :: c.S } W0 f))
    (hs : ∀ x, foldedSetIterable iter X.env x = pure x := by intro _; rfl) : PE X (.ListComp elt [⟨tg, iter, ifs, 0⟩] scope pos) (dL c W (compE fi (own.map (·.2)) tgf t f)) :=
  pe_imp (pe_lc hc hN hi ok (fun s H C cl fp => pg_ex fun l => hg l s H C cl fp) (fun s H C cl fp => pts_ex fun l => ht l s H C cl fp) (fun s H C cl fp => pe_ex fun l => he l s H C cl fp) hs) fun σ H Q h => comp_use h
theorem ps_lc {i : Nat} {y : Str} {py spos : Pos} {ifs : List Expr} {scope : Scope} {own : List (Str × Nat)} {fi : Slots → M (List D)} {tgf : D → Slots → Option Slots} {t : Slots → M Bool} {f : Slots → M D} (hc : X.calm = true) (hN : X.N.Nodup) (hy : X.N[i]? = some y) (hyl : X.env.scope.names.lookup y = some .local)
    (hsw : swapsWith (.ListComp elt [⟨tg, iter, ifs, 0⟩] scope pos) (some (.Name y py)) spos.line X.env = pure true) (hi : PI X tg iter (dI c W fi)) (ok : BlkOk X.N X.env.scope scope own)
    (hg : ∀ (l : Addr) (s : Shared) (H : Hp) (C : Addr) (cl : List (Str × Addr)) (fp : List Addr), PG (X.blk s H scope (compEnvC scope cl C X.env) fp) tg (dG { c with S := l :: c.S } (own.map (·.2)) tgf))
    (ht : ∀ (l : Addr) (s : Shared) (H : Hp) (C : Addr) (cl : List (Str × Addr)) (fp : List Addr), PTs (X.blk s H scope (compEnvC scope cl C X.env) fp) ifs (dT { c with S := l :: c.S } W0 t))
    (he : ∀ (l : Addr) (s : Shared) (H : Hp) (C : Addr) (cl : List (Str × Addr)) (fp : List Addr), PE (X.blk s H scope (compEnvC scope cl C X.env) fp) elt (dE { c with S := l :: c.S } W0 f))
    (hs : ∀ x, foldedSetIterable iter X.env x = pure x := by intro _; rfl) : PS X (.Assign [.Name y py] (.ListComp elt [⟨tg, iter, ifs, 0⟩] scope pos) spos) (tAsg (dL c W (compE fi (own.map (·.2)) tgf t f)) (gName i)) :=
  tAsg_imp (ps_setLc hc hN hy hyl hsw hi ok (fun s H C cl fp => pg_ex fun l => hg l s H C cl fp) (fun s H C cl fp => pts_ex fun l => ht l s H C cl fp) (fun s H C cl fp => pe_ex fun l => he l s H C cl fp) hs) fun σ H Q h => comp_use h
theorem ds_box {st : Stmt} {i : Nat} {f : Slots → M (List D)} (h : PS X st (tAsg (dL c W f) (gName i))) : PS X st (dS c W (asgS i (boxE f))) := ds_asg_of (tAsg_imp h fun σ H Q q => box_use q)

/-! ### subscripts -/
def ixD : D → D → Option D
  | .lst ds, .int i => atI ds i
  | .tup ds, .int i => atI ds i
  | .str x, .int i => if x.length ≤ 1000000 then (atI x.cps.toList i).map fun n => .str ⟨#[n]⟩ else none
  | _, _ => none
def ixM : D → D → M D := fun x y pt => match x, y with
  | .pot, .int 0 => .ok (.int pt.1) pt
  | .pot, .int 1 => .ok (.int pt.2) pt
  | x, y => opt (ixD x y) pt
theorem ixr_or {r r' : R2} (h : IxR X r) (h' : IxR X r') : IxR X (fun x y H Q => r x y H Q ∨ r' x y H Q) := by
  intro va sl pins s σ H x y v u Q I rx ry q hs
  rcases q with q | q
  · exact h va sl pins s σ H x y v u Q I rx ry q hs
  · exact h' va sl pins s σ H x y v u Q I rx ry q hs
theorem atI_rl {K : PySem.W.Frag} {T : Tb} {p : Addr} {ds : List D} {vs : List V} {i : Int} {d : D} (h : RL K T p H ds vs) (e : atI ds i = some d) : ∃ v, atI vs i = some v ∧ R K T p H d v := by
  unfold atI at e ⊢
  rw [← RL.len h]
  cases en : ixN ds.length i with
  | none => rw [en] at e; cases e
  | some j =>
    rw [en] at e
    simp only [Option.bind_some] at e ⊢
    exact RL.getD h e
theorem pot_read (r : RS c O ρ σ H pt) {v : V} (h : RB c O H .pot v) : v = .ref c.p := by
  rcases h with h | ⟨_, _, _, _, e, _⟩ | ⟨_, _, _, _, e, _⟩
  · simpa [Cy.R, R] using h
  · cases e
  · cases e
theorem ixM_ok {x y : D} {v w : V} {Q : VK} (hK : c.K = X.K) (rs : RS c O ρ σ H pt) (rx : RB c O H x v) (ry : RB c O H y w) (q : Wg c W σ H (fun d _ H' => ∀ v, c.R (Hd (hid c O) H') d v → Q v H') (ixM x y pt)) :
    rIxL X.K v w H Q ∨ rIxT X.K v w H Q ∨ rIxS v w H Q := by
  have gen : Wg c W σ H (fun d _ H' => ∀ v, c.R (Hd (hid c O) H') d v → Q v H') (opt (ixD x y) pt) → rIxL X.K v w H Q ∨ rIxT X.K v w H Q ∨ rIxS v w H Q := fun q0 => by
    obtain ⟨d, e, qd⟩ := Wg.opt q0 rs.pot
    clear q0 q
    unfold ixD at e
    split at e
    · obtain ⟨a, vs, rfl, ha, rl⟩ := rx.lst
      rw [ry.int]
      obtain ⟨v, ev, rv⟩ := atI_rl rl e
      exact .inl ⟨a, vs, _, v, rfl, rfl, .inl (.inl ha), ev, qd v rv⟩
    · obtain ⟨a, vs, rfl, ha, rl⟩ := rx.tup
      rw [ry.int]
      obtain ⟨v, ev, rv⟩ := atI_rl rl e
      exact .inr (.inl ⟨a, vs, _, v, rfl, rfl, by rw [← hK]; exact ha, ev, qd v rv⟩)
    · split at e
      · rename_i i hz
        rw [rx.str, ry.int]
        cases ea : atI (Str.cps ‹Str›).toList ‹Int› with
        | none => rw [ea] at e; cases e
        | some n =>
          rw [ea] at e
          cases e
          exact .inr (.inr ⟨_, _, n, rfl, rfl, Nat.le_trans hz (by decide), ea, qd _ (by simp [Cy.R, R])⟩)
      · cases e
    · cases e
  unfold ixM at q
  split at q
  · rw [pot_read rs rx, ry.int]
    exact .inl ⟨c.p, _, _, _, rfl, rfl, .inl (.inl rs.pot.at_), rfl, Wg.here q rs.pot _ (by simp [Cy.R, R])⟩
  · rw [pot_read rs rx, ry.int]
    exact .inl ⟨c.p, _, _, _, rfl, rfl, .inl (.inl rs.pot.at_), rfl, Wg.here q rs.pot _ (by simp [Cy.R, R])⟩
  · exact gen q
theorem de_ix {fa fb : Slots → M D} (ha : PE X a (dB c W fa)) (hb : PE X b (dB c W fb)) (hs : PlainIx b := by intro _ _; rfl) (hK : c.K = X.K := by rfl) : PE X (.Subscript a b pos) (dE c W (binE ixM fa fb)) := by
  refine pe_imp (pe_ix (ixr_or ix_list (ixr_or ix_tup ix_str)) ha hb hs) fun σ H Q ⟨O, ρ, pt, rs, q⟩ => ?_
  refine ⟨O, ρ, pt, rs, (Wg.bnd q).imp fun x p1 H1 _ s1 q v rv => ?_⟩
  have rs1 := rs.stp s1
  refine ⟨O, ρ, p1, rs1, (Wg.bnd q).imp fun y p2 H2 _ s2 q w rw => ?_⟩
  exact ixM_ok hK (rs1.stp s2) (rv.stp rs1 s2) rw q
/-! ### slices -/
def cutD (ds : List D) (lo hi : Option Int) : List D := (ds.drop (HT.sIx ds.length 0 lo)).take (HT.sIx ds.length ds.length hi - HT.sIx ds.length 0 lo)
theorem cut_rl {K : PySem.W.Frag} {T : Tb} {p : Addr} {ds : List D} {vs : List V} {lo hi : Option Int} (h : RL K T p H ds vs) : RL K T p H (cutD ds lo hi) (cutV vs lo hi) := by
  unfold cutD cutV
  rw [RL.len h]
  exact RL.take _ (RL.drop _ h)
def dO (c : Cy) (W : WX) (f : Slots → M (Option Int)) : TO := fun σ H Q => ∃ O ρ pt, RS c O ρ σ H pt ∧ Wg c W σ H (fun d _ H' => Q d H') (f ρ pt)
def noO : Slots → M (Option Int) := fun _ => ret none
def soO (f : Slots → M D) : Slots → M (Option Int) := fun ρ => bnd (f ρ) fun d => match d with
  | .int i => ret (some i)
  | _ => fail
theorem do_none : PO X none (dO c W noO) := ⟨fun pins s σ H Q I ⟨O, ρ, pt, r, q⟩ => po_none.run pins s σ H Q I (Wg.here q r.pot)⟩
theorem do_some {f : Slots → M D} (h : PE X e (dB c W f)) : PO X (some e) (dO c W (soO f)) := ⟨fun pins s σ H Q I ⟨O, ρ, pt, r, q⟩ => (po_some h).run pins s σ H Q I ⟨O, ρ, pt, r, (Wg.bnd q).imp fun d p1 H1 _ s1 q v rv => by
  cases d with
  | int i => exact ⟨i, rv.int, Wg.here q s1.pot⟩
  | _ => exact q.elim⟩⟩
theorem sl_use {r : V → Option Int → Option Int → Hp → VK → Prop} {fa : Slots → M D} {fl fh : Slots → M (Option Int)} {Q : VK} {P : D → Option Int → Option Int → M D}
    (ok : ∀ (O : List (Nat × Addr)) (ρ : Slots) (pt : Pot) (H : Hp) (Q : VK) (x : D) (lo hi : Option Int) (v : V), RS c O ρ σ H pt → RB c O H x v → Wg c W σ H (fun d _ H' => ∀ v, c.R (Hd (hid c O) H') d v → Q v H') (P x lo hi pt) → r v lo hi H Q)
    (h : dE c W (fun ρ => bnd (fa ρ) fun x => bnd (fl ρ) fun lo => bnd (fh ρ) fun hi => P x lo hi) σ H Q) : tSl r (dB c W fa) (dO c W fl) (dO c W fh) σ H Q := by
  obtain ⟨O, ρ, pt, rs, q⟩ := h
  refine ⟨O, ρ, pt, rs, (Wg.bnd q).imp fun x p1 H1 _ s1 q v rv => ?_⟩
  have rs1 := rs.stp s1
  refine ⟨O, ρ, p1, rs1, (Wg.bnd q).imp fun lo p2 H2 _ s2 q => ?_⟩
  have rs2 := rs1.stp s2
  refine ⟨O, ρ, p2, rs2, (Wg.bnd q).imp fun hi p3 H3 _ s3 q => ?_⟩
  exact ok O ρ p3 H3 Q x lo hi v (rs2.stp s3) ((rv.stp rs1 s2).stp rs2 s3) q
def slM : D → Option Int → Option Int → M D := fun x lo hi => match x with
  | .lst ds => ret (.lst (cutD ds lo hi))
  | .tup ds => if HT.sIx ds.length 0 lo = 0 ∧ HT.sIx ds.length ds.length hi = ds.length then fail else ret (.tup (cutD ds lo hi))
  | .str z => if z.length ≤ 1000000 then ret (.str (cutS z lo hi)) else fail
  | _ => fail
def slE (fa : Slots → M D) (fl fh : Slots → M (Option Int)) : Slots → M D := fun ρ => bnd (fa ρ) fun x => bnd (fl ρ) fun lo => bnd (fh ρ) fun hi => slM x lo hi
theorem de_slice {lo hi : Option Expr} {p2 : Pos} {fa : Slots → M D} {fl fh : Slots → M (Option Int)} (ha : PE X a (dB c W fa)) (hl : PO X lo (dO c W fl)) (hh : PO X hi (dO c W fh)) (hK : c.K = X.K := by rfl) : PE X (.Subscript a (.Slice lo hi none p2) pos) (dE c W (slE fa fl fh)) := by
  refine pe_imp (pe_slice (sl_list.or (sl_tup.or sl_str)) ha hl hh) fun σ H Q h => sl_use (P := slM) (fun O ρ pt H Q x lo hi v rs rx q => ?_) h
  cases x with
  | lst ds =>
    simp only [slM] at q
    obtain ⟨a, vs, rfl, ha, rl⟩ := rx.lst
    exact .inl ⟨a, vs, rfl, .inl (.inl ha), fun l hl => q _ (Stp.new rs.pot hl) _ (mk_lst rs hl (cut_rl rl))⟩
  | tup ds =>
    simp only [slM] at q
    obtain ⟨a, vs, rfl, ha, rl⟩ := rx.tup
    split at q
    · exact q.elim
    · rename_i hz
      exact .inr (.inl ⟨a, vs, rfl, by rw [← hK]; exact ha, by rw [← RL.len rl]; exact hz, fun l hl => q _ (Stp.new rs.pot hl) _ (mk_tup rs hl (cut_rl rl))⟩)
  | str z =>
    simp only [slM] at q
    split at q
    · rename_i hz
      rw [rx.str]
      exact .inr (.inr ⟨z, rfl, Nat.le_trans hz (by decide), Wg.here q rs.pot _ (by simp [Cy.R, R])⟩)
    · exact q.elim
  | _ => exact q.elim
/-! ### lists that grow -/
def ownOf : Option (Option SV) → Option (List D)
  | some (some (.own ds)) => some ds
  | _ => none
theorem ownOf_eq {x : Option (Option SV)} {ds : List D} (h : ownOf x = some ds) : x = some (some (.own ds)) := by
  unfold ownOf at h
  split at h
  · cases h; rfl
  · cases h
def growM (i : Nat) (ρ : Slots) (ds es : List D) : M Out := if ds.length + es.length ≤ 100000 then ret (.nx (ρ.set i (some (.own (ds ++ es))))) else fail
def appS (i : Nat) (f : Slots → M D) : Slots → M Out := fun ρ => bnd (opt (ownOf ρ[i]?)) fun ds => bnd (f ρ) fun d => growM i ρ ds [d]
def lstOf : D → Option (List D)
  | .lst ds => some ds
  | _ => none
def extS (i : Nat) (f : Slots → M D) : Slots → M Out := fun ρ => bnd (opt (ownOf ρ[i]?)) fun ds => bnd (f ρ) fun d => bnd (opt (lstOf d)) fun es => growM i ρ ds es
theorem grow_ok {E : Ends} {i : Nat} {ds es : List D} {a : Addr} {vs us : List V} (r : RS c O ρ σ H pt) (eo : ρ[i]? = some (some (.own ds))) (m : (i, a) ∈ O) (ev : σ[i]? = some (some (.ref a))) (ha : H a = some (.lst vs)) (rl : c.RL (Hd (hid c O) H) ds vs) (rn : c.RL (Hd (hid c O) H) es us) (h : WO c W E O H (growM i ρ ds es pt)) :
    vs.length + us.length ≤ 100000 ∧ E.nx σ (upd H a (.lst (vs ++ us))) := by
  unfold growM at h
  split at h
  · rename_i hz
    have l1 := RL.len rl
    have l2 := RL.len rn
    refine ⟨by omega, ?_⟩
    have hi : i < ρ.length := (List.getElem?_eq_some_iff.mp eo).1
    obtain ⟨rs, mv⟩ := r.mut (s' := .own (ds ++ es)) m (o := .lst (vs ++ us)) (fun gr => ⟨a, vs ++ us, m, ev, upd_same, RL.app (RL.gr gr rl) (RL.gr gr rn)⟩) hi
    exact h _ _ _ rs mv
  · exact h.elim
theorem ds_app {i : Nat} {x : Str} {f : Slots → M D} {spos : Pos} (h : PE X e (dE c W f)) (hN : X.N[i]? = some x := by rfl) (hv : Vis X.env.scope x := by first | exact Or.inl rfl | exact Or.inr (Or.inl rfl)) (hd : (x == ("__debug__" : Str)) = false := by decide) (hcd : (x == ("__classdict__" : Str)) = false := by decide)
    (hst : starEach [e] X.env = (false, eval e X.env) :: starEach [] X.env := by rfl) (hline : (apos.endLine == cpos.line) = true := by rfl) (hs : swapsWith (.Call (.Attribute (.Name x p) "append" apos) [e] [] cpos) none spos.line X.env = pure false := by rfl)
    (hfew : ((backTo cpos (starEach [e] X.env)).all (fun x => !x.1) && (backToKw cpos (keywordEach [] X.env)).all (fun x => x.1.isSome) && decide ([e].length + ([] : List Keyword).length + (if ([] : List Keyword).isEmpty then 0 else 1) < 30)) = true := by rfl)
    (hbase : attributeBase (.Name x p) "append" X.env (eval (.Name x p) X.env) = eval (.Name x p) X.env := by rfl) (hplain : (backTo cpos (starEach [] X.env)).any (·.1) = false := by rfl) :
    PS X (.Expr (.Call (.Attribute (.Name x p) "append" apos) [e] [] cpos) spos) (dS c W (appS i f)) := by
  refine ps_imp (ps_expr (pe_bm PySem.F.plainAttrs_list PySem.F.slot_list_append PySem.F.type_list_append mt_append (pe_var (i := i) hN hv hd hcd) (pa_cons h pa_nil hst) hbase hfew hline hst hplain) hs) fun E σ H ⟨O, ρ, pt, r, h⟩ => ?_
  obtain ⟨ds, eo, h⟩ := Wg.opt (WO.bnd r h) r.pot
  replace eo := ownOf_eq eo
  obtain ⟨a, vs, m, ev, ha, rl⟩ := r.sl i _ eo
  refine ⟨_, ev, .inl ⟨rfl, vs, .inl (.inl ha)⟩, O, ρ, pt, r, (WO.bnd r h).imp fun d p1 H1 _ s1 q v rv => ?_⟩
  have r1 := r.stp s1
  obtain ⟨a', vs, m', ev', ha, rl⟩ := r1.sl i _ eo
  rw [ev] at ev'
  cases ev'
  obtain ⟨hz, q⟩ := grow_ok r1 eo m' ev ha rl (RL.one rv) q
  exact ⟨a, vs, v, rfl, rfl, ha, Nat.lt_of_lt_of_le (Nat.lt_of_lt_of_le (Nat.lt_succ_self _) hz) (by decide), q⟩
theorem ds_ext {i : Nat} {x : Str} {f : Slots → M D} {spos : Pos} (h : PE X e (dE c W f)) (hN : X.N[i]? = some x := by rfl) (hv : Vis X.env.scope x := by first | exact Or.inl rfl | exact Or.inr (Or.inl rfl)) (hd : (x == ("__debug__" : Str)) = false := by decide) (hcd : (x == ("__classdict__" : Str)) = false := by decide)
    (hst : starEach [e] X.env = (false, eval e X.env) :: starEach [] X.env := by rfl) (hline : (apos.endLine == cpos.line) = true := by rfl) (hs : swapsWith (.Call (.Attribute (.Name x p) "extend" apos) [e] [] cpos) none spos.line X.env = pure false := by rfl)
    (hfew : ((backTo cpos (starEach [e] X.env)).all (fun x => !x.1) && (backToKw cpos (keywordEach [] X.env)).all (fun x => x.1.isSome) && decide ([e].length + ([] : List Keyword).length + (if ([] : List Keyword).isEmpty then 0 else 1) < 30)) = true := by rfl)
    (hbase : attributeBase (.Name x p) "extend" X.env (eval (.Name x p) X.env) = eval (.Name x p) X.env := by rfl) (hplain : (backTo cpos (starEach [] X.env)).any (·.1) = false := by rfl) :
    PS X (.Expr (.Call (.Attribute (.Name x p) "extend" apos) [e] [] cpos) spos) (dS c W (extS i f)) := by
  refine ps_imp (ps_expr (pe_bm PySem.F.plainAttrs_list PySem.F.slot_list_extend PySem.F.type_list_extend mt_extend (pe_var (i := i) hN hv hd hcd) (pa_cons h pa_nil hst) hbase hfew hline hst hplain) hs) fun E σ H ⟨O, ρ, pt, r, h⟩ => ?_
  obtain ⟨ds, eo, h⟩ := Wg.opt (WO.bnd r h) r.pot
  replace eo := ownOf_eq eo
  obtain ⟨a, vs, m, ev, ha, rl⟩ := r.sl i _ eo
  refine ⟨_, ev, .inl ⟨rfl, vs, .inl (.inl ha)⟩, O, ρ, pt, r, (WO.bnd r h).imp fun d p1 H1 _ s1 q v rv => ?_⟩
  have r1 := r.stp s1
  obtain ⟨a', vs, m', ev', ha, rl⟩ := r1.sl i _ eo
  rw [ev] at ev'
  cases ev'
  obtain ⟨es, ee, q⟩ := Wg.opt (WO.bnd r1 q) r1.pot
  cases d with
  | lst gs =>
    cases ee
    simp only [Cy.R, R] at rv
    obtain ⟨b, us, rfl, hb, rn⟩ := rv
    obtain ⟨hz, q⟩ := grow_ok r1 eo m' ev ha rl rn q
    exact ⟨a, b, vs, us, rfl, rfl, ha, (Hd.sees hb).2.1, Nat.le_trans hz (by decide), q⟩
  | _ => cases ee
end
end DF

set_option Elab.async false
set_option linter.all false
set_option maxRecDepth 100000
set_option maxHeartbeats 4000000
namespace DF
open PySem L2
section
variable {gu : Prop} {X : Cx} {c : Cy} {W : WX} {σ : L2.St} {H H1 H' : Hp} {O : List (Nat × Addr)} {ρ : Slots} {pt pt' : Pot} {e e2 iter tg elt a b o : Expr} {p pos apos cpos : Pos} {k n kc nC : Nat} {f C : Addr} {fd : FuncData} {ps : List Str} {fm : List D → M D}
/-! ### texts -/
def strsOf : List D → Option (List Str)
  | [] => some []
  | .str x :: ds => (strsOf ds).map (x :: ·)
  | _ => none
theorem strs_rl {K : PySem.W.Frag} {T : Tb} {p : Addr} : ∀ {ds : List D} {ys : List Str} {vs : List V}, strsOf ds = some ys → RL K T p H ds vs → vs = ys.map V.str
  | [], ys, vs, e, h => by
    cases e
    simpa [RL] using h
  | d :: ds, ys, vs, e, h => by
    simp only [RL] at h
    obtain ⟨v, ws, rfl, r, rl⟩ := h
    cases d with
    | str x =>
      simp only [strsOf] at e
      cases e1 : strsOf ds with
      | none => rw [e1] at e; cases e
      | some zs =>
        rw [e1] at e
        cases e
        rw [strs_rl e1 rl]
        simp only [R] at r
        rw [r]
        rfl
    | _ => simp [strsOf] at e
def strOf1 : D → Option Str
  | .str x => some x
  | _ => none
theorem strOf1_eq {d : D} {x : Str} (h : strOf1 d = some x) : d = .str x := by
  unfold strOf1 at h
  split at h
  · cases h; rfl
  · cases h
def joinF (a : Str) (y : D) : Option D := (seqOf [y]).bind fun ds => (strsOf ds).bind fun ys => if (ys.map (·.length)).sum + ys.length * a.length ≤ 1000000 then some (.str (Txt.join a ys)) else none
def joinE (fa fb : Slots → M D) : Slots → M D := fun ρ => bnd (fa ρ) fun x => bnd (opt (strOf1 x)) fun a => bnd (fb ρ) fun y => opt (joinF a y)
theorem de_join {fa fb : Slots → M D} (ha : PE X o (dB c W fa)) (hb : PE X e (dB c W fb)) (hK : c.K = X.K := by rfl) (hs : starEach [e] X.env = [(false, eval e X.env)] := by rfl) (hbase : attributeBase o "join" X.env (eval o X.env) = eval o X.env := by rfl) (hline : (apos.endLine == pos.line) = true := by rfl) :
    PE X (.Call (.Attribute o "join" apos) [e] [] pos) (dE c W (joinE fa fb)) := by
  refine pe_imp (pe_join ha hb hs hbase hline) fun σ H Q ⟨O, ρ, pt, rs, q⟩ => ⟨O, ρ, pt, rs, ?_⟩
  refine (Wg.bnd q).imp fun x p1 H1 ex s1 q v rv => ?_
  have rs1 := rs.stp s1
  obtain ⟨z, ez, q⟩ := Wg.opt (Wg.bnd q) s1.pot
  rw [strOf1_eq ez] at rv
  rw [rv.str]
  refine ⟨⟨z, rfl⟩, O, ρ, p1, rs1, (Wg.bnd q).imp fun y p2 H2 _ s2 q w rw => ?_⟩
  obtain ⟨d, ed, q⟩ := Wg.opt q s2.pot
  unfold joinF at ed
  cases es : seqOf [y] with
  | none => rw [es] at ed; cases ed
  | some ds =>
    rw [es] at ed
    simp only [Option.bind_some] at ed
    cases et : strsOf ds with
    | none => rw [et] at ed; cases ed
    | some ys =>
      rw [et] at ed
      simp only [Option.bind_some] at ed
      split at ed
      · rename_i hz
        cases ed
        obtain ⟨a, ws, e1, rl, h⟩ := seq_of (c := c) (O := O) (H := H2) (xs := [y]) (vs := [w]) ⟨w, [], rfl, rw, rfl⟩ es
        have ew := strs_rl et rl
        subst ew
        cases e1
        rw [hK] at h
        exact ⟨z, a, ys, rfl, rfl, h.imp id (·.1), Nat.le_trans hz (by decide), q _ (by simp [Cy.R, R])⟩
      · cases ed
/-! ### f-strings -/
def fmtF : D → Option D
  | .str y => if y.length ≤ 1000000 then some (.str y) else none
  | .int i => if i.natAbs.log2 < 1920 then some (.str (toString i)) else none
  | _ => none
def fmtRF : D → Option D
  | .str y => if (reprText y).length ≤ 1000000 then some (.str (reprText y)) else none
  | .int i => if i.natAbs.log2 < 1920 then some (.str (toString i)) else none
  | _ => none
def oneE (g : D → Option D) (f : Slots → M D) : Slots → M D := fun ρ => bnd (f ρ) fun d => opt (g d)
theorem de_fmt {g : Slots → M D} (h : PE X e (dE c W g)) : PE X (.FormattedValue e (-1) none pos) (dE c W (oneE fmtF g)) := by
  refine pe_imp (pe_fmt h) fun σ H Q ⟨O, ρ, pt, rs, q⟩ => ⟨O, ρ, pt, rs, (Wg.bnd q).imp fun d p1 H1 _ s1 q v rv => ?_⟩
  obtain ⟨z, ez, q⟩ := Wg.opt q s1.pot
  unfold fmtF at ez
  split at ez
  · split at ez
    · rename_i hz
      cases ez
      simp only [Cy.R, R] at rv
      exact .inl ⟨_, rv, Nat.le_trans hz (by decide), q _ (by simp [Cy.R, R])⟩
    · cases ez
  · split at ez
    · rename_i hz
      cases ez
      simp only [Cy.R, R] at rv
      exact .inr ⟨_, rv, hz, q _ (by simp [Cy.R, R])⟩
    · cases ez
  · cases ez
theorem de_fmtR {g : Slots → M D} (h : PE X e (dE c W g)) : PE X (.FormattedValue e 114 none pos) (dE c W (oneE fmtRF g)) := by
  refine pe_imp (pe_fmtR h) fun σ H Q ⟨O, ρ, pt, rs, q⟩ => ⟨O, ρ, pt, rs, (Wg.bnd q).imp fun d p1 H1 _ s1 q v rv => ?_⟩
  obtain ⟨z, ez, q⟩ := Wg.opt q s1.pot
  unfold fmtRF at ez
  split at ez
  · split at ez
    · rename_i hz
      cases ez
      simp only [Cy.R, R] at rv
      exact .inl ⟨_, rv, Nat.le_trans hz (by decide), q _ (by simp [Cy.R, R])⟩
    · cases ez
  · split at ez
    · rename_i hz
      cases ez
      simp only [Cy.R, R] at rv
      exact .inr ⟨_, rv, hz, q _ (by simp [Cy.R, R])⟩
    · cases ez
  · cases ez
def glueE : List (Slots → M D) → Str → Slots → M D
  | [], acc, _ => ret (.str acc)
  | f :: fs, acc, ρ => bnd (f ρ) fun d => bnd (opt (strOf1 d)) fun y => if (acc ++ y).length ≤ 1000000 then glueE fs (acc ++ y) ρ else fail
theorem glue_use : ∀ {fs : List (Slots → M D)} {acc : Str} {H : Hp} {Q : VK}, dE c W (glueE fs acc) σ H Q → tJs (fs.map (dE c W)) acc σ H fun out H1 => Q (.str out) H1
  | [], acc, H, Q, ⟨O, ρ, pt, rs, q⟩ => Wg.here q rs.pot _ (by simp [Cy.R, R])
  | f :: fs, acc, H, Q, ⟨O, ρ, pt, rs, q⟩ => by
    refine ⟨O, ρ, pt, rs, (Wg.bnd q).imp fun d p1 H1 _ s1 q v rv => ?_⟩
    obtain ⟨y, ey, q⟩ := Wg.opt (Wg.bnd q) s1.pot
    rw [strOf1_eq ey] at rv
    simp only [Cy.R, R] at rv
    split at q
    · rename_i hz
      exact ⟨y, rv, Nat.le_trans hz (by decide), glue_use ⟨O, ρ, p1, rs.stp s1, q⟩⟩
    · exact q.elim
def joinedE (fs : List (Slots → M D)) : Slots → M D := glueE fs Str.empty
theorem de_joined {v1 v2 : Expr} {rest : List Expr} {fs : List (Slots → M D)} (h : PJ X (v1 :: v2 :: rest) (fs.map (dE c W))) : PE X (.JoinedStr (v1 :: v2 :: rest) pos) (dE c W (joinedE fs)) := pe_imp (pe_joined h) fun σ H Q q => glue_use q
theorem de_joined1 {g : Slots → M D} (h : PE X e (dE c W g)) : PE X (.JoinedStr [e] pos) (dE c W g) := pe_joined1 h
/-! ### all, any -/
def blsOf : List D → Option (List Bool)
  | [] => some []
  | .bl x :: ds => (blsOf ds).map (x :: ·)
  | _ => none
theorem bls_rl {K : PySem.W.Frag} {T : Tb} {p : Addr} : ∀ {ds : List D} {ys : List Bool} {vs : List V}, blsOf ds = some ys → RL K T p H ds vs → vs = ys.map V.bl
  | [], ys, vs, e, h => by
    cases e
    simpa [RL] using h
  | d :: ds, ys, vs, e, h => by
    simp only [RL] at h
    obtain ⟨v, ws, rfl, r, rl⟩ := h
    cases d with
    | bl x =>
      simp only [blsOf] at e
      cases e1 : blsOf ds with
      | none => rw [e1] at e; cases e
      | some zs =>
        rw [e1] at e
        cases e
        rw [bls_rl e1 rl]
        simp only [R] at r
        rw [r]
        rfl
    | _ => simp [blsOf] at e
def lst1 : List D → Option (List D)
  | [.lst ds] => some ds
  | _ => none
theorem lst1_rl {xs ds : List D} {vs : List V} (rx : RBL c O H xs vs) (e : lst1 xs = some ds) : ∃ a ws, vs = [.ref a] ∧ c.RL (Hd (hid c O) H) ds ws ∧ SqL c.K H a ws := by
  unfold lst1 at e
  split at e
  · cases e
    obtain ⟨v, rfl, h⟩ := rx.one
    obtain ⟨a, vs, rfl, ha, rl⟩ := h.lst
    exact ⟨a, vs, rfl, rl, .inl (.inl ha)⟩
  · cases e
def allF (xs : List D) : Option D := (lst1 xs).bind fun ds => (blsOf ds).map fun bs => .bl (bs.all id)
def anyF (xs : List D) : Option D := (lst1 xs).bind fun ds => (blsOf ds).map fun bs => .bl (bs.any id)
theorem cd_all (hc : X.calm = true) (hK : c.K = X.K := by rfl) : CallD X c W (.builtin "all") (pu1 allF) := cd_pu (cr_all hc) fun O H xs z vs Q rx e q => by
  unfold allF at e
  cases e1 : lst1 xs with
  | none => rw [e1] at e; cases e
  | some ds =>
    rw [e1] at e
    simp only [Option.bind_some] at e
    cases e2 : blsOf ds with
    | none => rw [e2] at e; cases e
    | some bs =>
      rw [e2] at e
      cases e
      obtain ⟨a, ws, rfl, rl, h⟩ := lst1_rl rx e1
      rw [bls_rl e2 rl, hK] at h
      exact ⟨a, bs, rfl, h, q _ (by simp [Cy.R, R])⟩
theorem cd_any (hc : X.calm = true) (hK : c.K = X.K := by rfl) : CallD X c W (.builtin "any") (pu1 anyF) := cd_pu (cr_any hc) fun O H xs z vs Q rx e q => by
  unfold anyF at e
  cases e1 : lst1 xs with
  | none => rw [e1] at e; cases e
  | some ds =>
    rw [e1] at e
    simp only [Option.bind_some] at e
    cases e2 : blsOf ds with
    | none => rw [e2] at e; cases e
    | some bs =>
      rw [e2] at e
      cases e
      obtain ⟨a, ws, rfl, rl, h⟩ := lst1_rl rx e1
      rw [bls_rl e2 rl, hK] at h
      exact ⟨a, bs, rfl, h, q _ (by simp [Cy.R, R])⟩
/-! ### repr and str -/
def reprF : List D → Option D
  | [.str y] => if (reprText y).length ≤ 1000000 then some (.str (reprText y)) else none
  | [.int i] => if i.natAbs.log2 < 1920 then some (.str (toString i)) else none
  | [.bl b] => some (.str (if b then "True" else "False"))
  | [.non] => some (.str "None")
  | _ => none
def rRepr : List V → Hp → VK → Prop := fun vs H Q => (∃ y : Str, vs = [.str y] ∧ (reprText y).length ≤ 1000000 ∧ Q (.str (reprText y)) H) ∨ (∃ i : Int, vs = [.int i] ∧ i.natAbs.log2 < 1920 ∧ Q (.str (toString i)) H) ∨
  (∃ b : Bool, vs = [.bl b] ∧ Q (.str (if b then "True" else "False")) H) ∨ (vs = [.non] ∧ Q (.str "None") H)
theorem cr_repr : CallR X (.builtin "repr") rRepr := by
  intro pins s σ H vs us Q I r h
  rcases h with ⟨y, rfl, hz, q⟩ | ⟨i, rfl, hz, q⟩ | ⟨b, rfl, q⟩ | ⟨rfl, q⟩
  · obtain ⟨u, rfl, ru⟩ := r.one
    obtain ⟨t, rfl⟩ := ru
    exact P.repr_of_str ⟨.str _, H, I.tok _, ⟨_, rfl⟩, q⟩ (Nat.le_trans hz (by decide))
  · obtain ⟨u, rfl, ru⟩ := r.one
    obtain ⟨t, rfl⟩ := ru
    exact P.repr_of_int hz ⟨.str _, H, I.tok _, ⟨_, rfl⟩, q⟩
  · obtain ⟨u, rfl, ru⟩ := r.one
    cases ru
    refine P.repr_of_bool ⟨.str _, H, I.tok _, ⟨_, rfl⟩, q⟩
  · obtain ⟨u, rfl, ru⟩ := r.one
    cases ru
    exact P.repr_of_none ⟨.str _, H, I.tok _, ⟨_, rfl⟩, q⟩
theorem cd_repr : CallD X c W (.builtin "repr") (pu1 reprF) := cd_pu cr_repr fun O H xs z vs Q rx e q => by
  unfold reprF at e
  split at e
  · split at e
    · rename_i hz
      cases e
      obtain ⟨v, rfl, h⟩ := rx.one
      rw [h.str]
      exact .inl ⟨_, rfl, hz, q _ (by simp [Cy.R, R])⟩
    · cases e
  · split at e
    · rename_i hz
      cases e
      obtain ⟨v, rfl, h⟩ := rx.one
      rw [h.int]
      exact .inr (.inl ⟨_, rfl, hz, q _ (by simp [Cy.R, R])⟩)
    · cases e
  · cases e
    obtain ⟨v, rfl, h⟩ := rx.one
    rw [h.bl]
    exact .inr (.inr (.inl ⟨_, rfl, q _ (by simp [Cy.R, R])⟩))
  · cases e
    obtain ⟨v, rfl, h⟩ := rx.one
    rw [h.non]
    exact .inr (.inr (.inr ⟨rfl, q _ (by simp [Cy.R, R])⟩))
  · cases e
/-- repr or str by an own method -/
def txM (kc : Nat) (fm : List D → M D) : List D → M D
  | [.obj j fs] => if j = kc then bnd (fm [.obj j fs]) fun d => bnd (opt (strOf1 d)) fun y => ret (.str y) else fail
  | _ => fail
def rTx (X : Cx) (c : Cy) (W : WX) (fm : List D → M D) (C : Addr) : L2.St → List V → Hp → VK → Prop := fun σ vs H Q => ∃ a dx fs, vs = [.ref a] ∧ H a = some (.ins C dx fs) ∧ spF c.K c.T 1 fm [.ref a] H (fun z H' => ∃ y, z = .str y ∧ Q z H') (WE W σ)
theorem tx_use (hC : c.T.cls kc = C) {xs : List D} {vs : List V} {Q : VK} (rs : RS c O ρ σ H pt) (rx : RBL c O H xs vs) (q : Wg c W σ H (fun d _ H' => ∀ v, c.R (Hd (hid c O) H') d v → Q v H') (txM kc fm xs pt)) : rTx X c W fm C σ vs H Q := by
  unfold txM at q
  split at q
  · rename_i j gs
    split at q
    · rename_i hj
      subst hj
      obtain ⟨v, rfl, h⟩ := rx.one
      have h' : c.R (Hd (hid c O) H) (.obj j gs) v := by
        rcases h with h | ⟨_, _, _, _, e, _⟩ | ⟨_, _, _, _, e, _⟩
        · exact h
        · cases e
        · cases e
      have sp := spF_of (Q := fun z H' => ∃ y, z = .str y ∧ Q z H') rs (RL.one h') rfl ((Wg.bnd q).imp fun d p1 H1 _ s1 q v rv => by
        obtain ⟨y, ey, q⟩ := Wg.opt (Wg.bnd q) s1.pot
        rw [strOf1_eq ey] at rv
        simp only [Cy.R, R] at rv
        subst rv
        exact ⟨y, rfl, Wg.here q s1.pot _ (by simp [Cy.R, R])⟩)
      simp only [Cy.R, R] at h'
      obtain ⟨a, dx, ws, rfl, ha, _, rl⟩ := h'
      exact ⟨a, dx, _, rfl, by rw [← hC]; exact Hd.le _ _ ha, sp⟩
    · exact q.elim
  · exact q.elim
theorem strBack {pins : List (Addr × Obj)} {Q : VK} {v : Value} {s : Shared} (h : EP X pins σ (fun z H' => ∃ y, z = .str y ∧ Q z H') v s) : PySem.W.StrBack (EP X pins σ Q) v s := by
  obtain ⟨z, H', I', rz, y, rfl, q⟩ := h
  obtain ⟨t, rfl⟩ := rz
  exact ⟨.str y, H', I', ⟨t, rfl⟩, q⟩
theorem cd_reprO (hC : c.T.cls kc = C) (hs : PySem.W.findIn X.K (.ref C) "__repr__" = some (some (.ref f))) (hf : PySem.W.isFn X.K (.ref f) = true)
    (F : FnG gu X.prog X.w X.K X.mg X.base (L2.CX X.prog X.w) k f fd ps (spF c.K c.T 1 fm)) (hr : Rm gu (k + 1) X.A) (hb : Binds X.K fd ps []) (tk : Takes X W) : CallD X c W (.builtin "repr") (txM kc fm) := by
  refine ⟨rTx X c W fm C, fun pins s σ H xs us Q I r q => ?_, fun σ O ρ pt H Q xs vs rs rx q => tx_use hC rs rx q⟩
  obtain ⟨a, dx, fs, rfl, ha, sp⟩ := q
  obtain ⟨u, rfl, ru⟩ := r.one
  cases ru
  obtain ⟨ox, od, J⟩ := inst_at I ha
  obtain ⟨m, hF⟩ := I.fr
  refine PySem.W.repr_K hr.in1.units0 hF I.ok.mod.kin J hs hf ?_
  exact wpAny_mono (runSub (E := WE W) F hr.in1 rfl hb (passAt tk σ) I (vs := [.ref a]) (.cons (show RelV (.ref a) (.ref a) from rfl) .nil) sp) (fun r s' h => strBack h) fun _ _ z => z
theorem cd_strO (hC : c.T.cls kc = C) (hs : PySem.W.findIn X.K (.ref C) "__str__" = some (some (.ref f))) (hf : PySem.W.isFn X.K (.ref f) = true)
    (F : FnG gu X.prog X.w X.K X.mg X.base (L2.CX X.prog X.w) k f fd ps (spF c.K c.T 1 fm)) (hr : Rm gu (k + 2) X.A) (hb : Binds X.K fd ps []) (tk : Takes X W) : CallD X c W (.type "str") (txM kc fm) := by
  refine ⟨rTx X c W fm C, fun pins s σ H xs us Q I r q => ?_, fun σ O ρ pt H Q xs vs rs rx q => tx_use hC rs rx q⟩
  obtain ⟨a, dx, fs, rfl, ha, sp⟩ := q
  obtain ⟨u, rfl, ru⟩ := r.one
  cases ru
  obtain ⟨ox, od, J⟩ := inst_at I ha
  refine PySem.W.kso_call hr.in1.in1.units0 I.kIn J hs hf ?_
  exact wpAny_mono (runSub (E := WE W) F hr.in1.in1 rfl hb (passAt tk σ) I (vs := [.ref a]) (.cons (show RelV (.ref a) (.ref a) from rfl) .nil) sp) (fun r s' h => strBack h) fun _ _ z => z
/-! ### several names at once -/
theorem pg_or {t t' : TG} (h : PG X tg t) (h' : PG X tg t') : PG X tg (fun v σ H Q => t v σ H Q ∨ t' v σ H Q) := ⟨fun pins s σ H v u Q I r q => q.elim (h.run pins s σ H v u Q I r) (h'.run pins s σ H v u Q I r)⟩
def tgL (ts : List (D → Slots → Option Slots)) : D → Slots → Option Slots := fun d ρ => match d with
  | .tup ds => tgs ts ds ρ
  | .lst ds => tgs ts ds ρ
  | _ => none
theorem dg_seq {es : List Expr} {kk : Nat} {vs : List Nat} {ts : List (D → Slots → Option Slots)} (hc : X.calm = true) (h : PGs X es (dGs c vs ts)) (hn : (assignEach es X.env).length = ts.length := by rfl) (hst : (assignEach es X.env).findIdx? (·.1) = none := by rfl) (hK : c.K = X.K := by rfl) :
    PG X (.Tuple es kk pos) (dG c vs (tgL ts)) := by
  refine pg_imp (pg_or (pg_tup hc h hn hst) (pg_lst hc h hn hst)) fun v σ H Q ⟨O, ρ, pt, d, ρ', rs, rv, e, q⟩ => ?_
  cases d with
  | tup ds =>
    simp only [Cy.R, R] at rv
    obtain ⟨a, xs, rfl, ha, rl⟩ := rv
    have le := tgs_len (ts := ts) e
    exact .inl ⟨a, xs, rfl, by rw [← hK]; exact Hd.le.sqt ha, by rw [← RL.len rl]; exact le, O, ρ, pt, ds, ρ', rs, rl, e, q⟩
  | lst ds =>
    simp only [Cy.R, R] at rv
    obtain ⟨a, xs, rfl, ha, rl⟩ := rv
    have le := tgs_len (ts := ts) e
    exact .inr ⟨a, xs, rfl, .inl (.inl (Hd.le _ _ ha)), by rw [← RL.len rl]; exact le, O, ρ, pt, ds, ρ', rs, rl, e, q⟩
  | _ => simp [tgL] at e
def unpS (tgf : D → Slots → Option Slots) (f : Slots → M D) : Slots → M Out := fun ρ => bnd (f ρ) fun d => bnd (opt (tgf d ρ)) fun ρ' => ret (.nx ρ')
theorem ds_unp {vs : List Nat} {tgf : D → Slots → Option Slots} {g : Slots → M D} (h : PE X e (dE c W g)) (hg : PG X tg (dG c vs tgf)) (hs : swapsWithSole [tg] e pos.line X.env = pure false := by rfl) (hw : swappedStores [tg] e X.env = pure none := by rfl)
    (h1 : (assignEach [tg] X.env).map (·.2) = [assign tg X.env] := by rfl) : PS X (.Assign [tg] e pos) (dS c W (unpS tgf g)) := by
  refine ps_imp (ps_asg h hg hs hw h1) fun E σ H ⟨O, ρ, pt, r, h⟩ => ⟨O, ρ, pt, r, (WO.bnd r h).imp fun d p1 H1 _ s1 q v rv => ?_⟩
  have r1 := r.stp s1
  obtain ⟨ρ', e, q⟩ := Wg.opt (WO.bnd r1 q) r1.pot
  exact ⟨O, ρ, p1, d, ρ', r1, rv, e, fun O' σ' rs' mv _ _ => q O' σ' H1 rs' mv⟩
def parS (i j : Nat) (fa : Slots → M (List D)) : Slots → M Out := fun ρ => bnd (fa ρ) fun ds => bnd (opt (tgs [tgN i, tgN j] ds ρ)) fun ρ' => ret (.nx ρ')
def par3S (i j l : Nat) (fa : Slots → M (List D)) : Slots → M Out := fun ρ => bnd (fa ρ) fun ds => bnd (opt (tgs [tgN i, tgN j, tgN l] ds ρ)) fun ρ' => ret (.nx ρ')
theorem tgs1 {t : D → Slots → Option Slots} {ts : List (D → Slots → Option Slots)} {ds : List D} {ρ' : Slots} (e : tgs (t :: ts) ds ρ = some ρ') : ∃ d es ρ1, ds = d :: es ∧ t d ρ = some ρ1 ∧ tgs ts es ρ1 = some ρ' := by
  cases ds with
  | nil => simp [tgs] at e
  | cons d ds =>
    simp only [tgs] at e
    cases e1 : t d ρ with
    | none => rw [e1] at e; cases e
    | some ρ1 =>
      rw [e1] at e
      exact ⟨d, ds, ρ1, rfl, e1, e⟩
theorem tgs0 {ds : List D} {ρ' : Slots} (e : tgs [] ds ρ = some ρ') : ds = [] ∧ ρ = ρ' := by
  cases ds with
  | nil => simp only [tgs] at e; cases e; exact ⟨rfl, rfl⟩
  | cons d ds => simp [tgs] at e
theorem tgN1 {i : Nat} {d : D} {v : V} {ρ1 : Slots} (r : RS c O ρ σ H pt) (rv : c.R (Hd (hid c O) H) d v) (e : tgN i d ρ = some ρ1) : ∃ O1, RS c O1 ρ1 (σ.set i (some v)) H pt ∧ Mv c O H O1 H := by
  unfold tgN at e
  split at e
  · rename_i hl
    cases e
    exact ⟨_, r.put i (by rw [← r.len]; exact hl) rv, Mv.fewer⟩
  · cases e
theorem ds_par {i j : Nat} {x y : Str} {fa : Slots → M (List D)} {px py pt0 : Pos} {kt k2 pt2} (hc : X.calm = true) (hN : X.N.Nodup) (ha : PA X [a, b] (dA c W fa)) (hi : X.N[i]? = some x := by rfl) (hj : X.N[j]? = some y := by rfl) (hij : i ≠ j := by decide)
    (hx : X.env.scope.names.lookup x = some .local := by rfl) (hy : X.env.scope.names.lookup y = some .local := by rfl)
    (hw : swappedStores [.Tuple [.Name x px, .Name y py] kt pt0] (.Tuple [a, b] k2 pt2) X.env = pure (some [x, y]) := by rfl)
    (hs : swapsWithSole [.Tuple [.Name x px, .Name y py] kt pt0] (.Tuple [a, b] k2 pt2) pos.line X.env = pure false := by rfl) :
    PS X (.Assign [.Tuple [.Name x px, .Name y py] kt pt0] (.Tuple [a, b] k2 pt2) pos) (dS c W (parS i j fa)) := by
  refine ps_imp (ps_par hc hN hi hj hij hx hy ha hw hs) fun E σ H ⟨O, ρ, pt, r, h⟩ => ⟨O, ρ, pt, r, (WO.bnd r h).imp fun ds p1 H1 _ s1 q vs rl => ?_⟩
  have r1 := r.stp s1
  obtain ⟨ρ', e, q⟩ := Wg.opt (WO.bnd r1 q) r1.pot
  obtain ⟨d1, es, ρ1, rfl, e1, e⟩ := tgs1 e
  obtain ⟨d2, es, ρ2, rfl, e2, e⟩ := tgs1 e
  obtain ⟨rfl, rfl⟩ := tgs0 e
  simp only [Cy.RL, RL] at rl
  obtain ⟨v1, _, rfl, rv1, v2, _, rfl, rv2, rfl⟩ := rl
  obtain ⟨O1, q1, m1⟩ := tgN1 r1 rv1 e1
  obtain ⟨O2, q2, m2⟩ := tgN1 q1 (R.gr m1.gr rv2) e2
  exact ⟨v1, v2, rfl, q _ _ _ q2 (m1.trans m2)⟩
theorem ds_par3 {i j l : Nat} {x y z : Str} {a3 : Expr} {fa : Slots → M (List D)} {px py pz pt0 : Pos} {kt k2 pt2} (hc : X.calm = true) (hN : X.N.Nodup) (ha : PA X [a, b, a3] (dA c W fa)) (hi : X.N[i]? = some x := by rfl) (hj : X.N[j]? = some y := by rfl) (hl : X.N[l]? = some z := by rfl) (hij : i ≠ j := by decide) (hil : i ≠ l := by decide) (hjl : j ≠ l := by decide)
    (hx : X.env.scope.names.lookup x = some .local := by rfl) (hy : X.env.scope.names.lookup y = some .local := by rfl) (hz : X.env.scope.names.lookup z = some .local := by rfl)
    (hw : swappedStores [.Tuple [.Name x px, .Name y py, .Name z pz] kt pt0] (.Tuple [a, b, a3] k2 pt2) X.env = pure (some [x, y, z]) := by rfl)
    (hs : swapsWithSole [.Tuple [.Name x px, .Name y py, .Name z pz] kt pt0] (.Tuple [a, b, a3] k2 pt2) pos.line X.env = pure false := by rfl) :
    PS X (.Assign [.Tuple [.Name x px, .Name y py, .Name z pz] kt pt0] (.Tuple [a, b, a3] k2 pt2) pos) (dS c W (par3S i j l fa)) := by
  refine ps_imp (ps_par3 hc hN hi hj hl hij hil hjl hx hy hz ha hw hs) fun E σ H ⟨O, ρ, pt, r, h⟩ => ⟨O, ρ, pt, r, (WO.bnd r h).imp fun ds p1 H1 _ s1 q vs rl => ?_⟩
  have r1 := r.stp s1
  obtain ⟨ρ', e, q⟩ := Wg.opt (WO.bnd r1 q) r1.pot
  obtain ⟨d1, es, ρ1, rfl, e1, e⟩ := tgs1 e
  obtain ⟨d2, es, ρ2, rfl, e2, e⟩ := tgs1 e
  obtain ⟨d3, es, ρ3, rfl, e3, e⟩ := tgs1 e
  obtain ⟨rfl, rfl⟩ := tgs0 e
  simp only [Cy.RL, RL] at rl
  obtain ⟨v1, _, rfl, rv1, v2, _, rfl, rv2, v3, _, rfl, rv3, rfl⟩ := rl
  obtain ⟨O1, q1, m1⟩ := tgN1 r1 rv1 e1
  obtain ⟨O2, q2, m2⟩ := tgN1 q1 (R.gr m1.gr rv2) e2
  obtain ⟨O3, q3, m3⟩ := tgN1 q2 (R.gr (m1.trans m2).gr rv3) e3
  exact ⟨v1, v2, v3, rfl, q _ _ _ q3 ((m1.trans m2).trans m3)⟩
end
end DF

set_option Elab.async false
set_option linter.all false
set_option maxRecDepth 100000
set_option maxHeartbeats 4000000
namespace DF
open PySem L2
/-! ### the pot: a list of two ints that the law draws from -/
section
variable {X : Cx} {c : Cy} {W : WX} {σ : L2.St} {H H1 H' : Hp} {O : List (Nat × Addr)} {ρ : Slots} {pt pt' : Pot} {e a b o : Expr} {p p2 p3 pos apos cpos : Pos}
def isPot : Option (Option SV) → Bool
  | some (some (.val .pot)) => true
  | _ => false
theorem isPot_eq {x : Option (Option SV)} (h : isPot x = true) : x = some (some (.val .pot)) := by
  unfold isPot at h
  split at h
  · rfl
  · cases h
def setP (pt : Pot) (ρ : Slots) : M Out := fun _ => .ok (.nx ρ) pt
def intOf : D → Option Int
  | .int i => some i
  | _ => none
theorem intOf_eq {d : D} {i : Int} (h : intOf d = some i) : d = .int i := by
  unfold intOf at h
  split at h
  · cases h; rfl
  · cases h
def potS (i : Nat) (f : Slots → M D) : Slots → M Out := fun ρ => bnd (f ρ) fun d => bnd (opt (intOf d)) fun q => if isPot ρ[i]? then (fun pt => setP (pt.1, q) ρ pt) else fail
theorem pot_stp {q pt : Pot} (h : Pots c.T.tb c.p H pt) : Stp c.T.tb c.p H (upd H c.p (potO q)) q := ⟨fun a o n h _ => by rw [upd_ne n]; exact h, h.put⟩
theorem ds_pot {i j : Nat} {x : Str} {f : Slots → M D} (h : PE X e (dE c W f)) (hN : X.N[i]? = some x := by rfl) (hv : Vis X.env.scope x := by first | exact Or.inl rfl | exact Or.inr (Or.inl rfl)) (hd : (x == ("__debug__" : Str)) = false := by decide) (hcd : (x == ("__classdict__" : Str)) = false := by decide)
    (ha : ∀ v, assign (.Subscript (.Name x p) (.Constant (.int 1) j p2) p3) X.env v = (do
      let ov ← holding [v] (eval (.Name x p) X.env)
      let iv ← holding [v, ov] (eval (.Constant (.int 1) j p2) X.env)
      standAt p3
      holding [v, ov, iv] (setItem ov iv v)
      release [v, ov, iv] []) := by intro _; rfl)
    (hs : swapsWithSole [.Subscript (.Name x p) (.Constant (.int 1) j p2) p3] e pos.line X.env = pure false := by rfl) (hw : swappedStores [.Subscript (.Name x p) (.Constant (.int 1) j p2) p3] e X.env = pure none := by rfl)
    (h1 : (assignEach [.Subscript (.Name x p) (.Constant (.int 1) j p2) p3] X.env).map (·.2) = [assign (.Subscript (.Name x p) (.Constant (.int 1) j p2) p3) X.env] := by rfl) :
    PS X (.Assign [.Subscript (.Name x p) (.Constant (.int 1) j p2) p3] e pos) (dS c W (potS i f)) := by
  refine ps_imp (ps_asg h (pg_sub (pe_var (i := i) hN hv hd hcd) pe_int set_list ha) hs hw h1) fun E σ H ⟨O, ρ, pt, r, h⟩ => ⟨O, ρ, pt, r, (WO.bnd r h).imp fun d p1 H1 _ s1 q v rv => ?_⟩
  have r1 := r.stp s1
  obtain ⟨z, ez, q⟩ := Wg.opt (WO.bnd r1 q) r1.pot
  rw [intOf_eq ez] at rv
  simp only [Cy.R, R] at rv
  subst rv
  split at q
  · rename_i hp
    obtain ⟨v, ev, rv⟩ := r1.sl i _ (isPot_eq hp)
    simp only [Cy.R, R] at rv
    subst rv
    refine ⟨_, ev, c.p, _, 1, 1, rfl, rfl, s1.pot.at_, rfl, ?_⟩
    exact q _ _ _ (r1.stp (pot_stp r1.pot (q := (p1.1, z)))) ((pot_stp (c := c) r1.pot (q := (p1.1, z))).mv r.hp)
  · exact q.elim
def two : D → Option (Int × Int)
  | .tup [.int a, .int b] => some (a, b)
  | _ => none
theorem two_eq {d : D} {q : Int × Int} (h : two d = some q) : d = .tup [.int q.1, .int q.2] := by
  unfold two at h
  split at h
  · cases h; rfl
  · cases h
def potS2 (i j : Nat) (f : Slots → M D) : Slots → M Out := fun ρ => bnd (f ρ) fun d => bnd (opt (two d)) fun q => if isPot ρ[i]? && decide (j < ρ.length) then (fun pt => setP (q.1, pt.2) (ρ.set j (some (.val (.int q.2)))) pt) else fail
theorem ds_pot2 {i j k kk : Nat} {x y : Str} {f : Slots → M D} {py pt0 : Pos} (hc : X.calm = true) (hN : X.N.Nodup) (h : PE X e (dE c W f)) (hi : X.N[i]? = some x := by rfl) (hv : Vis X.env.scope x := by first | exact Or.inl rfl | exact Or.inr (Or.inl rfl)) (hd : (x == ("__debug__" : Str)) = false := by decide) (hcd : (x == ("__classdict__" : Str)) = false := by decide)
    (hj : X.N[j]? = some y := by rfl) (hy : Loc X.env.scope y := by first | exact Or.inl rfl | exact Or.inr rfl) (hf : X.fn y = true ∨ X.env.scope.names.lookup y = some .local := by first | exact .inl rfl | exact .inr rfl | assumption)
    (ha : ∀ v, assign (.Subscript (.Name x p) (.Constant (.int 0) k p2) p3) X.env v = (do
      let ov ← holding [v] (eval (.Name x p) X.env)
      let iv ← holding [v, ov] (eval (.Constant (.int 0) k p2) X.env)
      standAt p3
      holding [v, ov, iv] (setItem ov iv v)
      release [v, ov, iv] []) := by intro _; rfl)
    (hs : swapsWithSole [.Tuple [.Subscript (.Name x p) (.Constant (.int 0) k p2) p3, .Name y py] kk pt0] e pos.line X.env = pure false := by rfl) (hw : swappedStores [.Tuple [.Subscript (.Name x p) (.Constant (.int 0) k p2) p3, .Name y py] kk pt0] e X.env = pure none := by rfl)
    (h1 : (assignEach [.Tuple [.Subscript (.Name x p) (.Constant (.int 0) k p2) p3, .Name y py] kk pt0] X.env).map (·.2) = [assign (.Tuple [.Subscript (.Name x p) (.Constant (.int 0) k p2) p3, .Name y py] kk pt0) X.env] := by rfl)
    (h2 : (assignEach [.Subscript (.Name x p) (.Constant (.int 0) k p2) p3, .Name y py] X.env).map (·.2) = assign (.Subscript (.Name x p) (.Constant (.int 0) k p2) p3) X.env :: (assignEach [.Name y py] X.env).map (·.2) := by rfl)
    (h3 : (assignEach [.Name y py] X.env).map (·.2) = assign (.Name y py) X.env :: (assignEach [] X.env).map (·.2) := by rfl)
    (h4 : (assignEach [.Subscript (.Name x p) (.Constant (.int 0) k p2) p3, .Name y py] X.env).length = 2 := by rfl) (h5 : (assignEach [.Subscript (.Name x p) (.Constant (.int 0) k p2) p3, .Name y py] X.env).findIdx? (·.1) = none := by rfl) (hK : c.K = X.K := by rfl) :
    PS X (.Assign [.Tuple [.Subscript (.Name x p) (.Constant (.int 0) k p2) p3, .Name y py] kk pt0] e pos) (dS c W (potS2 i j f)) := by
  refine ps_imp (ps_asg h (pg_tup hc (pgs_cons (pg_sub (pe_var (i := i) hi hv hd hcd) pe_int set_list ha) (pgs_cons (pg_name (i := j) hN hj hy hf) pgs_nil h3) h2) h4 h5) hs hw h1) fun E σ H ⟨O, ρ, pt, r, h⟩ => ⟨O, ρ, pt, r, (WO.bnd r h).imp fun d p1 H1 _ s1 q v rv => ?_⟩
  have r1 := r.stp s1
  obtain ⟨z, ez, q⟩ := Wg.opt (WO.bnd r1 q) r1.pot
  rw [two_eq ez] at rv
  simp only [Cy.R, R, RL] at rv
  obtain ⟨ad, vs, rfl, sq, v1, _, rfl, rfl, v2, _, rfl, rfl, rfl⟩ := rv
  split at q
  · rename_i hp
    rw [Bool.and_eq_true] at hp
    obtain ⟨hp, hl⟩ := hp
    replace hl := of_decide_eq_true hl
    obtain ⟨v, ev, rv⟩ := r1.sl i _ (isPot_eq hp)
    simp only [Cy.R, R] at rv
    subst rv
    refine ⟨ad, _, rfl, by rw [← hK]; exact Hd.le.sqt sq, rfl, _, _, rfl, _, ev, c.p, _, 0, 0, rfl, rfl, s1.pot.at_, rfl, _, _, rfl, rfl, ?_⟩
    have r2 := r1.stp (pot_stp r1.pot (q := (z.1, p1.2)))
    have r3 := r2.put j (d := .int z.2) (v := .int z.2) (by rw [← r.len]; exact hl) (by simp [Cy.R, R])
    exact q _ _ _ r3 (((pot_stp (c := c) r1.pot (q := (z.1, p1.2))).mv r.hp).trans Mv.fewer)
  · exact q.elim
def dmF : List D → M D
  | [.int i, .int j] => if 0 < j ∧ j < 1073741824 then ret (.tup [.int (i / j), .int (i % j)]) else fail
  | _ => fail
theorem cd_divmod : CallD X c W (.builtin "divmod") dmF := ⟨_, calls_of call_divmod, fun σ O ρ pt H Q xs vs rs rx q => by
  unfold dmF at q
  split at q
  · split at q
    · rename_i hz
      obtain ⟨v, w, rfl, h, h'⟩ := rx.two
      rw [h.int, h'.int]
      refine ⟨_, _, rfl, hz, fun l hl => q _ (Stp.new rs.pot hl) _ (mk_tup rs hl ?_)⟩
      simp [Cy.R, Cy.RL, RL, R]
    · exact q.elim
  · exact q.elim⟩
end
end DF

set_option Elab.async false
set_option linter.all false
set_option maxRecDepth 100000
set_option maxHeartbeats 4000000
namespace DF
open PySem L2
/-! ### the text's facts, read off the heap behind the top -/
def fdAt (K : PySem.W.Frag) (a : Addr) : FuncData := match K.lookup a with
  | some ⟨_, _, .func fd, _⟩ => fd
  | _ => PySem.W.fnOf "" "" ⟨[], [], none, [], [], none, []⟩ [] ⟨.function, [], false, false, []⟩ .none .none .none .none none .none .none
theorem fdAt_eq {K : PySem.W.Frag} {x qual : Str} {pa : Arguments} {bd : List Stmt} {sc : Scope} {dvs : List V} {kws : List (Str × V)} {f : Addr} {fd : FuncData} (F : FunD K x qual pa bd sc dvs kws f fd) : fdAt K f = fd := by
  obtain ⟨oc, od, dV, kV, doc, pm, an, cdv, ct, osl, rfl, lk, _⟩ := F.ex
  unfold fdAt
  rw [lk]
abbrev Fct := PySem.W.Frag → Bool
def obsZ (oks : List Fct) (fn : List He5.DefA) (K : PySem.W.Frag) : He.AlD := ((oks.all fun f => f K) && fn.all fun d => d.ok K, fn.map fun d => He5.fnA K (d.at_ K))
def SaysZ (oks : List Fct) (fn : List He5.DefA) (K : PySem.W.Frag) : Prop := obsZ oks fn K = He5.valA fn
def obsZG (n : Nat) (oks : List Fct) (fn : List He5.DefA) (g : Addr → Option Obj) : He.AlD := obsZ oks fn (He.frG g (He5.asA g n))
def hookZ (n : Nat) (oks : List Fct) (fn : List He5.DefA) : PySem.W.Hook where
  α := He.AlD
  obs := fun s => obsZG n oks fn s.heap.get?
  val := fun _ => He5.valA fn
  says := fun _ h => ∃ K : PySem.W.Frag, K.In h ∧ SaysZ oks fn K
  of := fun _ _ e => ⟨_, He.frG_in, e⟩
  keeps := fun _ _ _ ⟨K, hK, c⟩ k => ⟨K, PySem.W.Frag.In.keeps hK k, c⟩
theorem obsZG_eq {n : Nat} {oks : List Fct} {fn : List He5.DefA} {g : Addr → Option Obj} {s : Shared} (h : ∀ a, g a = s.heap.get? a) : obsZG n oks fn g = (hookZ n oks fn).obs s := by
  have e : g = s.heap.get? := funext h
  rw [e] <;> rfl
section
variable {oks : List Fct} {fn : List He5.DefA} {K : PySem.W.Frag} {h : Heap} {mg : Str → Option Value}
theorem SaysZ.fact (c : SaysZ oks fn K) (i : Nat) {f : Fct} (h : oks[i]? = some f := by rfl) : f K = true := by
  have c1 := (He.ba (show ((oks.all fun f => f K) && fn.all fun d => d.ok K) = true from congrArg (fun z : He.AlD => z.1) c)).1
  exact List.all_eq_true.mp c1 f (List.mem_of_getElem? h)
theorem SaysZ.def_ (c : SaysZ oks fn K) (i : Nat) {d : He5.DefA} (h : fn[i]? = some d := by rfl) : FunD K d.name d.qual d.params d.body d.scope (d.dvs K) (d.kws K) (d.at_ K) (fdAt K (d.at_ K)) := by
  have c2 := (He.ba (show ((oks.all fun f => f K) && fn.all fun d => d.ok K) = true from congrArg (fun z : He.AlD => z.1) c)).2
  have e : fn.map (fun d => He5.fnA K (d.at_ K)) = fn.map He5.DefA.val := congrArg (fun z : He.AlD => z.2) c
  have e2 : (fn.map fun d => He5.fnA K (d.at_ K))[i]? = (fn.map He5.DefA.val)[i]? := by rw [e]
  rw [List.getElem?_map, List.getElem?_map, h] at e2
  obtain ⟨fd, F⟩ := He5.DefA.funD (Option.some.inj e2) (List.all_eq_true.mp c2 d (List.mem_of_getElem? h))
  rw [fdAt_eq F]
  exact F
/-- the text of a law: its facts, and the names of its module -/
structure Tx (oks : List Fct) (fn : List He5.DefA) (K : PySem.W.Frag) (mg : Str → Option Value) : Prop where
  c : SaysZ oks fn K
  g : ∃ h : Heap, K.In h ∧ h.Ns mainGlobals mg
/-! ### kinds of facts -/
def fGlo (x : Str) : Fct := fun K => (He.Fa.glo x).ok K
def fFree (x : Str) : Fct := fun K => (He.Fa.free x).ok K
def fCls (x : Str) : Fct := fun K => (He.Fa.cls x).ok K
def fNoat (x f : Str) : Fct := fun K => (He.Fa.noat x f).ok K
def fMeth (x m : Str) : Fct := fun K => (He.Fa.meth x m).ok K
def fMk (x : Str) : Fct := fun K => (He.Fa.mkr x).ok K
def fClsI (x : Str) : Fct := fun K => (He.Fa.cls x).ok K && (He.eqO (PySem.W.findIn K (.ref (He.ga K x)) "__class__") (some (some (.builtin "object.__class__"))) && (He.eqO (PySem.W.specialIn K (.builtin "object.__class__") "__get__") (some (some (.builtin "getset_descriptor.__get__"))) &&
  (decide (PySem.W.takesIn K (.builtin "object.__class__") = some true) && decide (PySem.W.mroIn K (He.ga K x) (.type "object") = some true))))
def fProp (x y : Str) : Fct := fun K => He.eqO (PySem.W.findIn K (.ref (He.ga K x)) y) (some (some (.ref (He.ma K (He.ga K x) y)))) && (He.eqO (PySem.W.specialIn K (.ref (He.ma K (He.ga K x) y)) "__get__") (some (some (.builtin "property.__get__"))) &&
  (decide (PySem.W.takesIn K (.ref (He.ma K (He.ga K x) y)) = some true) && (match PySem.W.recIn K (He.ma K (He.ga K x) y) "property" with
    | some (.ref _ :: _) => true
    | _ => false)))
def fCmp (x : Str) (cs : List Str) : Fct := fun K => (tagB.all fun n => decide (PySem.W.subIn K (.type n) (.ref (He.ga K x)) = some false)) && cs.all fun y => PySem.W.notFirst K (He.ga K x) (.ref (He.ga K y))
def fNe (x : Str) : Fct := fun K => He.eqO (PySem.W.findIn K (.ref (He.ga K x)) "__ne__") (some (some (.builtin "object.__ne__"))) && decide (PySem.W.subIn K (.ref (He.ga K x)) (.type "object") = some true)
def fBin (x : Str) (op : Operator) : Fct := fun K => PySem.W.selfFirst K (He.ga K x) && (He.eqO (PySem.W.findIn K (.ref (He.ga K x)) (dunderR op.info.2)) (some none) &&
  tagB.all fun n => (PySem.W.findIn K (.type n) (PySem.dunder op.info.2)).isSome && (PySem.W.findIn K (.type n) (dunderR op.info.2)).isSome)
def ansOf (ts : List String) (cs : List Bool) : Sum String Nat → Option Bool
  | .inl n => if n ∈ tagB then some (decide (n ∈ ts)) else none
  | .inr k => cs[k]?
def fIsi (u : PySem.W.Frag → Value) (ts : List String) (cs : List Str) (bs : List Bool) : Fct := fun K => (tagB.all fun n => decide (PySem.W.kitOne K (.type n) (u K) = some (decide (n ∈ ts)))) && (List.zip cs bs).all fun q => decide (PySem.W.kitOne K (.ref (He.ga K q.1)) (u K) = some q.2)
section
variable {x y f m : Str}
theorem Tx.glo (t : Tx oks fn K mg) (i : Nat) (h : oks[i]? = some (fGlo x) := by rfl) : mg x = some (.ref (He.ga K x)) := let ⟨_, X, G⟩ := t.g; He.glo_ok X G (t.c.fact i h)
theorem Tx.free (t : Tx oks fn K mg) (i : Nat) (h : oks[i]? = some (fFree x) := by rfl) : mg x = none := let ⟨_, X, G⟩ := t.g; He.free_ok X G (t.c.fact i h)
theorem Tx.cls (t : Tx oks fn K mg) (i : Nat) (h : oks[i]? = some (fCls x) := by rfl) : Cls K (He.ga K x) := He.cls_ok (t.c.fact i h)
theorem Tx.noat (t : Tx oks fn K mg) (i : Nat) (h : oks[i]? = some (fNoat x f) := by rfl) : NoAttr K (He.ga K x) f := He.noat_ok (t.c.fact i h)
theorem Tx.meth (t : Tx oks fn K mg) (i : Nat) (h : oks[i]? = some (fMeth x m) := by rfl) : Meth K (He.ga K x) m (He.ma K (He.ga K x) m) := He.meth_ok (t.c.fact i h)
theorem Tx.mk_ (t : Tx oks fn K mg) (i : Nat) (h : oks[i]? = some (fMk x) := by rfl) : Mk K (He.ga K x) (He.ma K (He.ga K x) "__init__") := He.mkr_ok (t.c.fact i h)
theorem Tx.clsI (t : Tx oks fn K mg) (i : Nat) (h : oks[i]? = some (fClsI x) := by rfl) : ClsI K (He.ga K x) := by
  have q := t.c.fact i h
  obtain ⟨q1, q⟩ := He.ba q
  obtain ⟨q2, q⟩ := He.ba q
  obtain ⟨q3, q⟩ := He.ba q
  obtain ⟨q4, q5⟩ := He.ba q
  exact ⟨He.cls_ok q1, He.eqO_ok q2, He.eqO_ok q3, of_decide_eq_true q4, of_decide_eq_true q5⟩
theorem Tx.prop (t : Tx oks fn K mg) (i : Nat) (h : oks[i]? = some (fProp x y) := by rfl) : PropOf K (He.ga K x) y (He.ma K (He.ga K x) y) (He5.wf K (He.ga K x) "property" y) := by
  have q := t.c.fact i h
  obtain ⟨q1, q⟩ := He.ba q
  obtain ⟨q2, q⟩ := He.ba q
  obtain ⟨q3, q4⟩ := He.ba q
  refine ⟨He.eqO_ok q1, He.eqO_ok q2, of_decide_eq_true q3, ?_⟩
  unfold He5.wf
  split at q4
  · rename_i f r e
    exact ⟨r, by rw [e]⟩
  · cases q4
theorem Tx.ne (t : Tx oks fn K mg) (i : Nat) (h : oks[i]? = some (fNe x) := by rfl) : PySem.W.findIn K (.ref (He.ga K x)) "__ne__" = some (some (.builtin "object.__ne__")) ∧ PySem.W.subIn K (.ref (He.ga K x)) (.type "object") = some true := by
  obtain ⟨q1, q2⟩ := He.ba (t.c.fact i h)
  exact ⟨He.eqO_ok q1, of_decide_eq_true q2⟩
theorem Tx.bin {op : Operator} (t : Tx oks fn K mg) (i : Nat) (h : oks[i]? = some (fBin x op) := by rfl) : PySem.W.selfFirst K (He.ga K x) = true ∧ PySem.W.findIn K (.ref (He.ga K x)) (dunderR op.info.2) = some none ∧
    ∀ n ∈ tagB, ∃ fo ro, PySem.W.findIn K (.type n) (PySem.dunder op.info.2) = some fo ∧ PySem.W.findIn K (.type n) (dunderR op.info.2) = some ro := by
  obtain ⟨q1, q⟩ := He.ba (t.c.fact i h)
  obtain ⟨q2, q⟩ := He.ba q
  refine ⟨q1, He.eqO_ok q2, fun n hn => ?_⟩
  obtain ⟨z1, z2⟩ := He.ba (List.all_eq_true.mp q n hn)
  obtain ⟨a, ea⟩ := Option.isSome_iff_exists.mp z1
  obtain ⟨b, eb⟩ := Option.isSome_iff_exists.mp z2
  exact ⟨a, b, ea, eb⟩
/-- the classes of the text by their numbers -/
abbrev Tab_ := PySem.W.Frag → Addr × Str
/-- the tables of code, and the names of the defs that are values -/
abbrev Tf_ := List Tab_ × List Str
def tbOf (cs : List (Str × List Str)) (tf : Tf_) (K : PySem.W.Frag) : Tb := { tb := tf.1.map fun f => f K, cls := fun k => He.ga K (cs.getD k ("", [])).1, names := fun k => (cs.getD k ("", [])).2, fn := fun n => He.ga K (tf.2.getD n "") }
theorem Tx.cmpI {X : Cx} {cs : List (Str × List Str)} {tf : Tf_} (t : Tx oks fn X.K mg) (i : Nat) (h : oks[i]? = some (fCmp x (cs.map (·.1))) := by rfl) : CmpI X (tbOf cs tf X.K) cs.length (He.ga X.K x) := by
  obtain ⟨q1, q2⟩ := He.ba (t.c.fact i h)
  refine ⟨fun n hn => of_decide_eq_true (List.all_eq_true.mp q1 n hn), fun k hk => ?_⟩
  have e : (cs.getD k ("", [])) = cs[k] := by rw [List.getD_eq_getElem?_getD, List.getElem?_eq_getElem hk]; rfl
  show PySem.W.notFirst X.K (He.ga X.K x) (.ref (He.ga X.K (cs.getD k ("", [])).1)) = true
  rw [e]
  exact List.all_eq_true.mp q2 _ (List.mem_map.mpr ⟨_, List.getElem_mem hk, rfl⟩)
theorem Tx.isi {cs : List (Str × List Str)} {tf : Tf_} {u : PySem.W.Frag → Value} {ts : List String} {bs : List Bool} (t : Tx oks fn K mg) (i : Nat) (hl : bs.length = cs.length) (h : oks[i]? = some (fIsi u ts (cs.map (·.1)) bs) := by rfl) :
    ∀ (s : Sum String Nat) b, ansOf ts bs s = some b → PySem.W.kitOne K (tagV (tbOf cs tf K) s) (u K) = some b := by
  obtain ⟨q1, q2⟩ := He.ba (t.c.fact i h)
  intro s b e
  cases s with
  | inl n =>
    simp only [ansOf] at e
    split at e
    · rename_i hn
      cases e
      exact of_decide_eq_true (List.all_eq_true.mp q1 n hn)
    · cases e
  | inr k =>
    simp only [ansOf] at e
    have hk : k < bs.length := (List.getElem?_eq_some_iff.mp e).1
    have hc : k < cs.length := by omega
    have e1 : (cs.getD k ("", [])) = cs[k] := by rw [List.getD_eq_getElem?_getD, List.getElem?_eq_getElem hc]; rfl
    show PySem.W.kitOne K (.ref (He.ga K (cs.getD k ("", [])).1)) (u K) = some b
    rw [e1]
    have mem : (cs[k].1, b) ∈ List.zip (cs.map (·.1)) bs := by
      refine List.mem_of_getElem? (i := k) ?_
      rw [List.getElem?_zip_eq_some]
      exact ⟨by rw [List.getElem?_map, List.getElem?_eq_getElem hc]; rfl, e⟩
    exact of_decide_eq_true (List.all_eq_true.mp q2 _ mem)
end
end
/-! ### built-in names -/
theorem bo_abs : bootBuiltins "abs" = some (.builtin "abs") := by decide +kernel
theorem bo_len : bootBuiltins "len" = some (.builtin "len") := by decide +kernel
theorem bo_max : bootBuiltins "max" = some (.builtin "max") := by decide +kernel
theorem bo_min : bootBuiltins "min" = some (.builtin "min") := by decide +kernel
theorem bo_repr : bootBuiltins "repr" = some (.builtin "repr") := by decide +kernel
theorem bo_all : bootBuiltins "all" = some (.builtin "all") := by decide +kernel
theorem bo_any : bootBuiltins "any" = some (.builtin "any") := by decide +kernel
theorem bo_sum : bootBuiltins "sum" = some (.builtin "sum") := by decide +kernel
theorem bo_divmod : bootBuiltins "divmod" = some (.builtin "divmod") := by decide +kernel
theorem bo_isinstance : bootBuiltins "isinstance" = some (.builtin "isinstance") := by decide +kernel
theorem bo_int : bootBuiltins "int" = some (.type "int") := by decide +kernel
theorem bo_bool : bootBuiltins "bool" = some (.type "bool") := by decide +kernel
theorem bo_str : bootBuiltins "str" = some (.type "str") := by decide +kernel
theorem bo_list : bootBuiltins "list" = some (.type "list") := by decide +kernel
theorem bo_tuple : bootBuiltins "tuple" = some (.type "tuple") := by decide +kernel
theorem bo_dict : bootBuiltins "dict" = some (.type "dict") := by decide +kernel
section
variable {gu : Prop} {X : Cx} {c : Cy} {W : WX} {k kc nC : Nat} {f C : Addr} {fd : FuncData} {ps : List Str} {fm : List D → M D} {x m : Str} {p : Pos} {T : String}
theorem pe_bty (hm : X.mg x = none) (hv : bootBuiltins x = some (.type T)) (hg : Gl X x := by rfl) (hn : x ≠ "__name__" := by decide) (hdb : (x == ("__debug__" : Str)) = false := by decide) : PE X (.Name x p) (tC (.ty T)) :=
  ⟨fun pins s σ H Q I h => ld_blt I hg hm hv ⟨.ty T, H, I, rfl, h⟩ hn hdb⟩
theorem pe_gcl {C : Addr} (hm : X.mg x = some (.ref C)) (hg : Gl X x := by rfl) (hd : (x == ("__debug__" : Str)) = false := by decide) : PE X (.Name x p) (tC (.ref C)) := pe_glob hg hm rfl hd
theorem ov_binS {op : Operator} (hd : PySem.dunder op.info.2 = m) (hCs : ∀ k, k < nC → ClsI X.K (c.T.cls k)) (hK : c.K = X.K) (hC : c.T.cls kc = C) (hn1 : ∀ k, k < nC → c.T.cls k = C) (ci : CmpI X c.T nC C) (hm : Meth X.K C m f)
    (hB : PySem.W.selfFirst X.K C = true ∧ PySem.W.findIn X.K (.ref C) (dunderR op.info.2) = some none ∧ ∀ n ∈ tagB, ∃ fo ro, PySem.W.findIn X.K (.type n) (PySem.dunder op.info.2) = some fo ∧ PySem.W.findIn X.K (.type n) (dunderR op.info.2) = some ro)
    (F : FnG gu X.prog X.w X.K X.mg X.base (L2.CX X.prog X.w) k f fd ps (spF c.K c.T 2 fm)) (hr : Rm gu k X.A) (hb : Binds X.K fd ps []) (tk : Takes X W) : OpV X c W (binaryOp op) (ownM nC kc fm) :=
  ov_bin hCs hK hC hn1 ci hB.1 (by rw [hd]; exact hm.at_) hm.fn hB.2.1 (.inl rfl) hB.2.2 F hr hb tk
theorem du_add : PySem.dunder Operator.Add.info.2 = "__add__" := by decide +kernel
theorem du_sub : PySem.dunder Operator.Sub.info.2 = "__sub__" := by decide +kernel
theorem du_mul : PySem.dunder Operator.Mult.info.2 = "__mul__" := by decide +kernel
theorem cst_nil : Cst c [] [] := fun H => RL.nil
theorem cst_cons {d : D} {v : V} {dd : List D} {dvs : List V} (h : ∀ H, c.R H d v) (hs : Cst c dd dvs) : Cst c (d :: dd) (v :: dvs) := fun H => by
  simp only [Cy.RL, RL]
  exact ⟨v, dvs, rfl, h H, hs H⟩
theorem cst_int {i : Int} {dd : List D} {dvs : List V} (hs : Cst c dd dvs) : Cst c (.int i :: dd) (.int i :: dvs) := cst_cons (fun H => by simp [Cy.R, R]) hs
theorem cst_non {dd : List D} {dvs : List V} (hs : Cst c dd dvs) : Cst c (.non :: dd) (.non :: dvs) := cst_cons (fun H => by simp [Cy.R, R]) hs
theorem cst_str {x : Str} {dd : List D} {dvs : List V} (hs : Cst c dd dvs) : Cst c (.str x :: dd) (.str x :: dvs) := cst_cons (fun H => by simp [Cy.R, R]) hs
theorem cst_bl {x : Bool} {dd : List D} {dvs : List V} (hs : Cst c dd dvs) : Cst c (.bl x :: dd) (.bl x :: dvs) := cst_cons (fun H => by simp [Cy.R, R]) hs
end
/-! ### operators that look at the kinds -/
abbrev addU : D → D → M D := orM (pu iAdd) (orM (pu sAdd) (orM (boxM lCat) tCat))
section
variable {gu : Prop} {X : Cx} {c : Cy} {W : WX}
theorem od_addU (hK : c.K = X.K := by rfl) : OpD X c W (binaryOp .Add) addU := od_iAdd.or (od_sAdd.or (od_lCat.d.or (od_tCat hK)))
end
end DF

set_option Elab.async false
set_option linter.all false
set_option maxRecDepth 100000
set_option maxHeartbeats 4000000
namespace DF
open PySem L2
section
variable {X : Cx} {x : Str} {T : String} {r : List V → Hp → VK → Prop} {t : TA} {e : Expr} {es : List Expr} {p pos : Pos}
theorem pe_cty (hc : CallR X (.type T) r) (hm : X.mg x = none) (hv : bootBuiltins x = some (.type T)) (ha : PA X (e :: es) t) (hg : Gl X x := by rfl) (hn : x ≠ "__name__" := by decide) (hdb : (x == ("__debug__" : Str)) = false := by decide)
    (he : starEach (e :: es) X.env = (false, eval e X.env) :: starEach es X.env := by rfl) (hpl : (backTo pos (starEach es X.env)).any (·.1) = false := by rfl) : PE X (.Call (.Name x p) (e :: es) [] pos) (tCB r t) :=
  ⟨fun pins s σ H Q I h => wpAny_Call_Name_kw (ld_blt I hg hm hv (PyProof.Rows.callWith_type1 (thn (ha.run pos pins s σ H _ I h) fun us s1 ⟨vs, H1, I1, r1, q1⟩ => hc pins s1 σ H1 vs us Q I1 r1 q1) he hpl) hn hdb)⟩
end
/-! ### the law's pot: what is asked of it -/
def PotOk (pt : Pot) : Prop := 0 ≤ pt.1 ∧ 0 < pt.2 ∧ pt.2 ≤ 2147483629
def spPot (K : PySem.W.Frag) : Sp := fun vs H Q _ => ∃ (a : Addr) (ns : List Int) (k : Int), vs = [.ref a, .int k] ∧ SqL K H a (ns.map V.int) ∧ 0 ≤ k ∧ k < 100 ∧ ∀ pt : Pot, PotOk pt → ∀ l, H l = none → Q (.ref l) (upd H l (potO pt))
theorem small_mul {i j : Int} (hi : 0 ≤ i) (hj : 0 ≤ j) (h1 : i < 4294967296) (h2 : j < 4294967296) : CMulW i j := by
  have a : i.natAbs < 2 ^ 32 := by omega
  have b : j.natAbs < 2 ^ 32 := by omega
  exact wide_mul a b (by decide) (by decide) (by decide)
def absI (i : Int) : Int := if i < 0 then -i else i
theorem absI_nn (i : Int) : 0 ≤ absI i := by unfold absI; split <;> omega
theorem pot_ok (c k : Int) (h0 : 0 ≤ k) (h1 : k < 100) : PotOk (if absI c - 10 ^ (18 : Int).toNat > 0 then absI c - 10 ^ (18 : Int).toNat else 0, (absI c % 2147483563 * 40009 + 61297 * k + 17) % 2147483629 + 1) := by
  refine ⟨?_, ?_, ?_⟩
  · show 0 ≤ (if absI c - 10 ^ (18 : Int).toNat > 0 then absI c - 10 ^ (18 : Int).toNat else 0)
    split <;> omega
  · show 0 < (absI c % 2147483563 * 40009 + 61297 * k + 17) % 2147483629 + 1
    omega
  · show (absI c % 2147483563 * 40009 + 61297 * k + 17) % 2147483629 + 1 ≤ 2147483629
    omega
theorem cell_at {ns : List Int} {k : Int} (h0 : 0 ≤ k) (h : k < (ns.map V.int).length) : ∃ c, atI (ns.map V.int) k = some (.int c) := by
  have hn : k.toNat < ns.length := by
    rw [List.length_map] at h
    omega
  refine ⟨ns[k.toNat], ?_⟩
  unfold atI ixN
  rw [if_pos h0, if_pos h, Option.bind_some, List.getElem?_map, List.getElem?_eq_getElem hn]
  rfl
theorem cell_read {K : PySem.W.Frag} {H : Hp} {a : Addr} {ns : List Int} {k : Int} {σ : L2.St} {Q : VK} (hS : SqL K H a (ns.map V.int)) (h0 : 0 ≤ k) (h1 : k < 100) (e0 : σ[0]? = some (some (.ref a))) (e1 : σ[1]? = some (some (.int k))) (fin : ∀ c : Int, Q (.int c) H) :
    tIf (tTest (tOp (rI0 fun i j => .bl (decide (i < j))) (tVar 1) (tCB (fun xs H Q => ∃ x n, xs = [x] ∧ LenV K x H n ∧ Q (.int n) H) (tCons (tVar 0) tNil)))) (tOp (rIxL K) (tVar 0) (tVar 1)) (tOp (rI CMulW fun i j => .int (i * j)) (tC (.int 7)) (tVar 1)) σ H Q := by
  refine ⟨_, e1, _, e0, _, _, rfl, .inl ⟨_, hS, rfl⟩, _, _, rfl, rfl, _, rfl, ?_⟩
  by_cases hk : k < (ns.map V.int).length
  · rw [decide_eq_true hk]
    obtain ⟨c, hc⟩ := cell_at h0 hk
    exact ⟨_, e0, _, e1, a, _, k, _, rfl, rfl, hS, hc, fin c⟩
  · rw [decide_eq_false hk]
    exact ⟨_, e1, _, _, rfl, rfl, small_mul (by decide) h0 (by decide) (by omega), fin _⟩
/-! ### the law -/
theorem rd_nt {H H' : Hp} {a : Addr} {u : HO} (g : ∀ a o, H a = some o → nt o = true → H' a = some o) (n : nt u = true) (h : Rd H a u) : Rd H' a u := h.elim (fun h => .inl (g _ _ h n)) fun ⟨o, h⟩ => .inr ⟨o, g _ _ h rfl⟩
theorem sql_nt {K : PySem.W.Frag} {H H' : Hp} {a : Addr} {xs : List V} (g : ∀ a o, H a = some o → nt o = true → H' a = some o) (h : SqL K H a xs) : SqL K H' a xs := h.elim (fun h => .inl (rd_nt g rfl h)) .inr
def spLaw (K : PySem.W.Frag) (T : Tb) : Sp := fun vs H Q _ => ∃ (a : Addr) (ns : List Int), vs = [.ref a] ∧ SqL K H a (ns.map V.int) ∧ ns.length ≤ 63 ∧ LamX.Tabs T.tb H ∧ ∀ H', Q (.bl true) H'
theorem tab_upd {tb : List (Addr × Str)} {H : Hp} {a : Addr} {o u : HO} (h : LamX.Tabs tb H) (e : H a = some u) (m : mt u = true) : LamX.Tabs tb (L2.upd H a o) := fun q hq => by
  obtain ⟨ps, h1, h2, h3⟩ := h q hq
  refine ⟨ps, ?_, h2, fun pos cv hc => ?_⟩
  · rw [upd_ne (fun z => by rw [z, e] at h1; cases h1; cases m)]
    exact h1
  · obtain ⟨c, e1, e2⟩ := h3 pos cv hc
    refine ⟨c, e1, ?_⟩
    rw [upd_ne (fun z => by
      rw [z, e] at e2
      have e3 : u = LamX.CodeO a q.2 := Option.some.inj e2
      rw [e3] at m
      cases m)]
    exact e2
/-- a def that tells True of every pot -/
def AllPots (m : List D → M D) : Prop := ∀ pt, PotOk pt → ∃ pt', m [.pot] pt = .ok (.bl true) pt'
theorem right_sp {K : PySem.W.Frag} {T : Tb} {m : List D → M D} (hm : AllPots m) {H : Hp} {l : Addr} {pt : Pot} (hp : PotOk pt) (hl : H l = some (potO pt)) (hT : LamX.Tabs T.tb H) {Q : VK} {E : XK}
    (q : ∀ H', (∀ a o, a ≠ l → H a = some o → nt o = true → H' a = some o) → LamX.Tabs T.tb H' → Q (.bl true) H') : spF K T 1 m [.ref l] H Q E := by
  obtain ⟨pt', e⟩ := hm pt hp
  refine ⟨l, [l], [.pot], pt, List.mem_singleton.mpr rfl, fun a ha => ?_, rfl, ?_, ⟨hl, hT⟩, ?_⟩
  · rw [List.mem_singleton.mp ha]
    exact ⟨_, hl, rfl⟩
  · simp [RL, R]
  · rw [e]
    intro v H' st rv
    simp only [Cy.R, R] at rv
    subst rv
    exact q H' (fun a o n e m => st.keep a o n e m) st.pot.tab
theorem law_lc {K : PySem.W.Frag} {T : Tb} {m : List D → M D} (hm : AllPots m) {n : Nat} (hn : n < 100) {a : Addr} {ns : List Int} {H : Hp} {Q : VK} {σ : L2.St} (hS : SqL K H a (ns.map V.int)) (hT : LamX.Tabs T.tb H) (es : σ = [some (.ref a), none])
    (q : ∀ D H', H' D = some (.lst ((List.replicate n true).map V.bl)) → Q (.ref D) H') :
    ∀ D, H D = none → ∃ W : Nat → Nat → Hp → Prop, (∃ m, W 0 m (upd H D (.lst []))) ∧ ∀ i mm H, W i mm H →
      ((Itr 0 n).stop i H ∧ Q (.ref D) H) ∨ ((Itr 0 n).go i H ∧ ∃ Nx : Hp → Prop, (∀ H', Nx H' → ∃ m', m' < mm ∧ W (i + 1) m' H') ∧ ∀ x H', (Itr 0 n).yld i H x H' → gName 1 x (wipe σ [1]) H' fun σ2 H2 => wipe σ2 [1] = wipe σ [1] ∧ tYes σ2 H2 fun b H3 =>
        if b = true then tCallA (spF K T 1 m) [] (WE W0) (tCons (tCallA (spPot K) [] (WE W0) (tCons (tVar 0) (tCons (tVar 1) tNil))) tNil) σ2 H3 fun y H4 => ∃ acc, H4 D = some (.lst acc) ∧ acc.length < sizeLine ∧ Nx (upd H4 D (.lst (acc ++ [y]))) else Nx H3) := by
  subst es
  intro D hD
  refine lc_range (lo := 0) (g := gName 1) (tt := tYes) (te := tCallA (spF K T 1 m) [] (WE W0) (tCons (tCallA (spPot K) [] (WE W0) (tCons (tVar 0) (tCons (tVar 1) tNil))) tNil)) (vs := [1]) (σ := [some (.ref a), none]) (Pv := fun i H' => i ≤ n ∧ ((∀ b o, H b = some o → nt o = true → H' b = some o) ∧ LamX.Tabs T.tb H') ∧ H' D = some (.lst ((List.replicate i true).map V.bl))) ⟨Nat.zero_le _, ⟨fun b o e _ => by rw [upd_ne (ne_of_none e hD)]; exact e, hT.ext fun b o e => by rw [upd_ne (ne_of_none e hD)]; exact e⟩, upd_same⟩ (fun i H' hi ⟨_, g, hd⟩ => ?_) fun H' ⟨_, g, hd⟩ => q D H' hd
  refine ⟨rfl, ?_⟩
  show tCallA (spF K T 1 m) [] (WE W0) (tCons (tCallA (spPot K) [] (WE W0) (tCons (tVar 0) (tCons (tVar 1) tNil))) tNil) [some (.ref a), some (.int (0 + (i : Int)))] H' _
  obtain ⟨g, gT⟩ := g
  refine ⟨_, rfl, _, rfl, a, ns, _, rfl, sql_nt g hS, by omega, by omega, fun pt hp l hl => ?_⟩
  have gl : ∀ b o, H' b = some o → upd H' l (potO pt) b = some o := fun b o e => by rw [upd_ne (ne_of_none e hl)]; exact e
  refine right_sp hm hp upd_same (gT.ext gl) fun H2 kp kT => ?_
  have hDl : D ≠ l := ne_of_none hd hl
  have hd2 : H2 D = some (.lst ((List.replicate i true).map V.bl)) := kp D _ hDl (by rw [upd_ne hDl]; exact hd) rfl
  refine ⟨_, hd2, ?_, hi, ⟨fun b o e n => ?_, fun q hq => ?_⟩, ?_⟩
  · rw [List.length_map, List.length_replicate]
    exact Nat.lt_of_lt_of_le (Nat.lt_trans hi hn) (by decide)
  · have bD : b ≠ D := ne_of_none e hD
    have bl : b ≠ l := ne_of_none (g b o e n) hl
    rw [upd_ne bD]
    exact kp b o bl (by rw [upd_ne bl]; exact g b o e n) n
  · exact tab_upd kT hd2 rfl q hq
  · rw [upd_same, List.replicate_succ', List.map_append]
    rfl
theorem all_reps (n : Nat) : (List.replicate n true).all id = true := by
  rw [List.all_eq_true]
  intro x hx
  rw [List.eq_of_mem_replicate hx]
  rfl
theorem cap_ok {m : Int} (h : m ≤ 90) : -(2 ^ 62) ≤ (if m > 1 then m else 1) ∧ (if m > 1 then m else 1) < (2 ^ 62 : Int) ∧ (if m > 1 then m else 1).toNat < 100 := by
  split <;> refine ⟨?_, ?_, ?_⟩ <;> omega
theorem cx_no {P : Program} {w : World} (H : Hp) (s : Shared) (e : Value) (s' : Shared) (h : L2.CX P w [] H s (fun _ _ _ => False) e s') : False := by
  obtain ⟨_, _, _, _, _, _, _, _, _, _, _, _, z⟩ := h
  exact z
/-- the end of a law whose defs may let exceptions out -/
theorem walkZ {lw : PySem.W.OpenLaw} {k : Nat} {qq : Program} {loose : List Str} {XP : (Str → Option Value) → Heap → Prop} {YP : World → Heap → Prop} {dd : DefRec} {x : Str} (h63 : lw.most = some 63) (hdf : dd.params.defaults = []) (hrm : Room k callerA)
    (F : ∀ (w : World) (mg : Str → Option Value) (fa : Addr) (hh : Heap), YP w hh → hh.Ns mainGlobals mg → mg dd.name = some (.ref fa) → ∃ (K : PySem.W.Frag) (fd : FuncData) (cs : List (Addr × Addr)) (T : Tb), K.In hh ∧ (∀ p ∈ cs, hh.get? p.2 = some { cls := .none, data := .fields #[] }) ∧ (∀ p ∈ cs, K.lookup p.2 = none) ∧ (∀ p ∈ cs, PySem.W.CodeHd hh p.1 p.2) ∧
        (∀ q ∈ T.tb, ∃ p ∈ cs, p.2 = q.1) ∧ (∀ (s : Shared) (u : Value), BindsTo s fd ⟨[u], []⟩ [(x, u)]) ∧
        ∀ bb : Heap, K.In bb → bb.Ns mainGlobals mg → (∀ p ∈ cs, LamX.TabB bb mg p.1 p.2) → FnOk lw.prog w K mg bb (L2.CX lw.prog w) k fa fd [x] (spLaw K T)) : PySem.W.WalkO qq loose XP YP lw.row.toRowW dd [] (fun f vs => PySem.call f vs) := by
  refine LamX.walk_ofTsE (x := x) (CX := fun w => L2.CX lw.prog w) h63 (by decide) hdf hrm (fun w mg fa h Y G hm => ?_) fun w H s e s' => cx_no H s e s'
  obtain ⟨K, fd, cs, T, KX, h1, h2, h3, h4, hb, hF⟩ := F w mg fa h Y G hm
  refine ⟨K, KX, fd, cs, spLaw K T, h1, h2, h3, hb, fun H a ns hl _ hH hS => ⟨a, ns, rfl, hS, hl, fun q hq => ?_, fun _ => rfl⟩, hF⟩
  obtain ⟨p, hp, e⟩ := h4 q hq
  exact LamX.TabS.nil (e ▸ hH p hp)
end DF

set_option Elab.async false
set_option linter.all false
set_option maxRecDepth 100000
set_option maxHeartbeats 4000000
/-! DFG: the mirrors worked out by simp. -/
namespace DF
open PySem L2
section
variable {α β : Type} {ρ : Slots} {pt : Pot}
def bndR (r : Res α) (k : α → M β) : Res β := match r with
  | .ok a q => k a q
  | .exc c fs q => .exc c fs q
  | .stuck => .stuck
@[simp] theorem e_bnd (m : M α) (k : α → M β) : bnd m k pt = bndR (m pt) k := by unfold bnd bndR; rfl
@[simp] theorem e_bndok (a : α) (q : Pot) (k : α → M β) : bndR (.ok a q) k = k a q := rfl
@[simp] theorem e_bndst (k : α → M β) : bndR .stuck k = .stuck := rfl
@[simp] theorem e_bndex (c : Nat) (fs : List D) (q : Pot) (k : α → M β) : bndR (.exc c fs q) k = .exc c fs q := rfl
@[simp] theorem e_ret (a : α) : ret a pt = .ok a pt := rfl
@[simp] theorem e_fail : (fail : M α) pt = .stuck := rfl
@[simp] theorem e_some (a : α) : opt (some a) pt = .ok a pt := rfl
@[simp] theorem e_none : opt (none : Option α) pt = .stuck := rfl
@[simp] theorem e_ite {c : Prop} [Decidable c] (a b : M α) : (if c then a else b) pt = if c then a pt else b pt := by split <;> rfl
/-! slots -/
@[simp] theorem e_val (d : D) : valOf (some (some (.val d))) = some d := rfl
@[simp] theorem e_bval (d : D) : bvalOf (some (some (.val d))) = some d := rfl
@[simp] theorem e_bown (ds : List D) : bvalOf (some (some (.own ds))) = some (.lst ds) := rfl
@[simp] theorem e_var (i : Nat) : varE i ρ pt = opt (valOf ρ[i]?) pt := rfl
@[simp] theorem e_bvar (i : Nat) : bvarE i ρ pt = opt (bvalOf ρ[i]?) pt := rfl
@[simp] theorem e_c (d : D) : cE d ρ pt = .ok d pt := rfl
@[simp] theorem e_nilA : nilA ρ pt = .ok [] pt := rfl
@[simp] theorem e_consA (f : Slots → M D) (g : Slots → M (List D)) : consA f g ρ pt = bndR (f ρ pt) fun d => bnd (g ρ) fun ds => ret (d :: ds) := e_bnd _ _
@[simp] theorem e_tupE (g : Slots → M (List D)) : tupE g ρ pt = bndR (g ρ pt) fun ds => if ds.length ≤ 100000 then ret (.tup ds) else fail := e_bnd _ _
@[simp] theorem e_lenA (g : Slots → M (List D)) : lenA g ρ pt = bndR (g ρ pt) fun ds => if ds.length ≤ 100000 then ret ds else fail := e_bnd _ _
@[simp] theorem e_boxE (g : Slots → M (List D)) : boxE g ρ pt = bndR (g ρ pt) fun ds => ret (.lst ds) := e_bnd _ _
@[simp] theorem e_binE (g : D → D → M D) (fa fb : Slots → M D) : binE g fa fb ρ pt = bndR (fa ρ pt) fun x => bnd (fb ρ) fun y => g x y := e_bnd _ _
@[simp] theorem e_asB (b : Bool) : asB (.bl b) pt = .ok b pt := rfl
@[simp] theorem e_testE (f : Slots → M D) : testE f ρ pt = bndR (f ρ pt) asB := e_bnd _ _
@[simp] theorem e_andT (f g : Slots → M Bool) : andT f g ρ pt = bndR (f ρ pt) fun b => if b then g ρ else ret false := e_bnd _ _
@[simp] theorem e_orT (f g : Slots → M Bool) : orT f g ρ pt = bndR (f ρ pt) fun b => if b then ret true else g ρ := e_bnd _ _
@[simp] theorem e_notT (f : Slots → M Bool) : notT f ρ pt = bndR (f ρ pt) fun b => ret (!b) := e_bnd _ _
@[simp] theorem e_andE (f g : Slots → M D) : andE f g ρ pt = bndR (bndR (f ρ pt) asB) fun b => if b then g ρ else ret (.bl false) := by unfold andE; rw [e_bnd, e_bnd]
@[simp] theorem e_orE (f g : Slots → M D) : orE f g ρ pt = bndR (bndR (f ρ pt) asB) fun b => if b then ret (.bl true) else g ρ := by unfold orE; rw [e_bnd, e_bnd]
@[simp] theorem e_notE (f : Slots → M D) : notE f ρ pt = bndR (bndR (f ρ pt) asB) fun b => ret (.bl (!b)) := by unfold notE; rw [e_bnd, e_bnd]
@[simp] theorem e_ifE (t : Slots → M Bool) (f g : Slots → M D) : ifE t f g ρ pt = bndR (t ρ pt) fun b => if b then f ρ else g ρ := e_bnd _ _
def negK : D → M D
  | .int i => ret (.int (-i))
  | _ => fail
@[simp] theorem e_negE (f : Slots → M D) : negE f ρ pt = bndR (f ρ pt) negK := by
  unfold negE bnd bndR
  cases f ρ pt with
  | ok o q => cases o <;> rfl
  | _ => rfl
@[simp] theorem e_negK (i : Int) : negK (.int i) pt = .ok (.int (-i)) pt := rfl
/-! statements -/
@[simp] theorem e_nilS : nilS ρ pt = .ok (.nx ρ) pt := rfl
def seqK (g : Slots → M Out) : Out → M Out
  | .nx ρ' => g ρ'
  | o => ret o
@[simp] theorem e_seqS (f g : Slots → M Out) : seqS f g ρ pt = bndR (f ρ pt) (seqK g) := by
  unfold seqS bnd bndR
  cases f ρ pt with
  | ok o q => cases o <;> rfl
  | _ => rfl
@[simp] theorem e_seqK (g : Slots → M Out) : seqK g (.nx ρ) pt = g ρ pt := rfl
@[simp] theorem e_seqR (g : Slots → M Out) (d : D) : seqK g (.rt d) pt = .ok (.rt d) pt := rfl
@[simp] theorem e_retS (f : Slots → M D) : retS f ρ pt = bndR (f ρ pt) fun d => ret (.rt d) := e_bnd _ _
@[simp] theorem e_retNS : retNS ρ pt = .ok (.rt .non) pt := rfl
@[simp] theorem e_ifS (t : Slots → M Bool) (f g : Slots → M Out) : ifS t f g ρ pt = bndR (t ρ pt) fun b => if b then f ρ else g ρ := e_bnd _ _
@[simp] theorem e_asgS (i : Nat) (f : Slots → M D) : asgS i f ρ pt = bndR (f ρ pt) fun d => if i < ρ.length then ret (.nx (ρ.set i (some (.val d)))) else fail := e_bnd _ _
@[simp] theorem e_asgL (i : Nat) (f : Slots → M (List D)) : asgL i f ρ pt = bndR (f ρ pt) fun d => if i < ρ.length then ret (.nx (ρ.set i (some (.own d)))) else fail := e_bnd _ _
def finK : Out → M D
  | .rt d => ret d
  | .nx _ => ret .non
  | _ => fail
@[simp] theorem e_finr (d : D) : finK (.rt d) pt = .ok d pt := rfl
@[simp] theorem e_finn : finK (.nx ρ) pt = .ok .non pt := rfl
theorem e_fnM (n : Nat) (g : Slots → M Out) (ds : List D) : fnM n g ds pt = bndR (g (ini n ds) pt) finK := by
  unfold fnM bnd bndR
  cases g (ini n ds) pt with
  | ok o q => cases o <;> rfl
  | _ => rfl
def iniK (kc nf : Nat) : Out → M (List D)
  | .nx ρ => opt (fldsOf kc nf ρ)
  | _ => fail
@[simp] theorem e_iniK (kc nf : Nat) : iniK kc nf (.nx ρ) pt = opt (fldsOf kc nf ρ) pt := rfl
theorem e_iniM (kc nf n : Nat) (g : Slots → M Out) (ds : List D) : iniM kc nf n g ds pt = bndR (g (some (.slf kc []) :: ini n ds) pt) (iniK kc nf) := by
  unfold iniM bnd bndR
  cases g (some (.slf kc []) :: ini n ds) pt with
  | ok o q => cases o <;> rfl
  | _ => rfl
/-! operators -/
@[simp] theorem e_pu (g : D → D → Option D) (x y : D) : pu g x y pt = opt (g x y) pt := rfl
@[simp] theorem e_pu1 (g : List D → Option D) (x : List D) : pu1 g x pt = opt (g x) pt := rfl
@[simp] theorem e_blt (g : List D → M α) (fa : Slots → M (List D)) : bltE g fa ρ pt = bndR (fa ρ pt) g := e_bnd _ _
@[simp] theorem e_iop (g : Int → Int → Int) (i j : Int) : iop g (.int i) (.int j) = some (.int (g i j)) := rfl
@[simp] theorem e_iopC (C : Int → Int → Bool) (g : Int → Int → Int) (i j : Int) : iopC C g (.int i) (.int j) = if C i j then some (.int (g i j)) else none := rfl
@[simp] theorem e_icmp (g : Int → Int → Bool) (i j : Int) : icmp g (.int i) (.int j) = some (.bl (g i j)) := rfl
@[simp] theorem e_addI (i j : Int) : addU (.int i) (.int j) pt = .ok (.int (i + j)) pt := rfl
@[simp] theorem e_addS (i j : Str) : addU (.str i) (.str j) pt = (pu sAdd (.str i) (.str j)) pt := by
  show (match pu sAdd (.str i) (.str j) pt with
    | .stuck => orM (boxM lCat) tCat (.str i) (.str j) pt
    | r => r) = _
  cases e : pu sAdd (.str i) (.str j) pt <;> rfl
@[simp] theorem e_eqI (i j : Int) : dEq (.int i) (.int j) = some (.bl (decide (i = j))) := rfl
@[simp] theorem e_neI (i j : Int) : dNe (.int i) (.int j) = some (.bl (!decide (i = j))) := rfl
@[simp] theorem e_eqS (i j : Str) : dEq (.str i) (.str j) = some (.bl (decide (i = j))) := rfl
@[simp] theorem e_neS (i j : Str) : dNe (.str i) (.str j) = some (.bl (!decide (i = j))) := rfl
@[simp] theorem e_eqB (i j : Bool) : dEq (.bl i) (.bl j) = some (.bl (decide (i = j))) := rfl
@[simp] theorem e_neB (i j : Bool) : dNe (.bl i) (.bl j) = some (.bl (!decide (i = j))) := rfl
@[simp] theorem e_call (n : Nat) (fm : List D → M D) (dd : List D) (fa : Slots → M (List D)) : callE n fm dd fa ρ pt = bndR (fa ρ pt) fun ds => if (ds ++ dd).length = n then fm (ds ++ dd) else fail := e_bnd _ _
@[simp] theorem e_make (kc n : Nat) (m : List D → M (List D)) (dd : List D) (fa : Slots → M (List D)) : makeE kc n m dd fa ρ pt = bndR (fa ρ pt) fun ds => if (ds ++ dd).length + 1 = n then bnd (m (ds ++ dd)) fun fs => ret (.obj kc fs) else fail := e_bnd _ _
def getK (kc ix : Nat) : D → M D
  | .obj j fs => if j = kc then opt fs[ix]? else fail
  | _ => fail
@[simp] theorem e_getE (kc ix : Nat) (fo : Slots → M D) : getE kc ix fo ρ pt = bndR (fo ρ pt) (getK kc ix) := by
  unfold getE bnd bndR
  cases fo ρ pt with
  | ok o q => cases o <;> rfl
  | _ => rfl
@[simp] theorem e_getK (kc ix : Nat) (fs : List D) : getK kc ix (.obj kc fs) pt = opt fs[ix]? pt := by
  show (if kc = kc then opt fs[ix]? else fail) pt = _
  rw [if_pos rfl]
def noXR (r : Res α) : Res α := match r with
  | .exc _ _ _ => .stuck
  | r => r
@[simp] theorem e_noX (m : M α) : noX m pt = noXR (m pt) := rfl
@[simp] theorem e_noXok (a : α) : noXR (.ok a pt) = .ok a pt := rfl
def propK (kc : Nat) (fm : List D → M D) : D → M D
  | .obj j fs => if j = kc then noX (fm [.obj j fs]) else fail
  | _ => fail
@[simp] theorem e_propE (kc : Nat) (fm : List D → M D) (fo : Slots → M D) : propE kc fm fo ρ pt = bndR (fo ρ pt) (propK kc fm) := by
  unfold propE bnd bndR
  cases fo ρ pt with
  | ok o q => cases o <;> rfl
  | _ => rfl
@[simp] theorem e_propK (kc : Nat) (fm : List D → M D) (fs : List D) : propK kc fm (.obj kc fs) pt = noXR (fm [.obj kc fs] pt) := by
  show (if kc = kc then noX (fm [.obj kc fs]) else fail) pt = _
  rw [if_pos rfl]
  rfl
def methK (kc n : Nat) (fm : List D → M D) (dd : List D) (fa : Slots → M (List D)) (ρ : Slots) : D → M D
  | .obj j fs => if j = kc then bnd (fa ρ) fun ds => if (ds ++ dd).length + 1 = n then fm (.obj j fs :: (ds ++ dd)) else fail else fail
  | _ => fail
@[simp] theorem e_methE (kc n : Nat) (fm : List D → M D) (dd : List D) (fo : Slots → M D) (fa : Slots → M (List D)) : methE kc n fm dd fo fa ρ pt = bndR (fo ρ pt) (methK kc n fm dd fa ρ) := by
  unfold methE bnd bndR
  cases fo ρ pt with
  | ok o q => cases o <;> rfl
  | _ => rfl
@[simp] theorem e_methK (kc n : Nat) (fm : List D → M D) (dd : List D) (fa : Slots → M (List D)) (fs : List D) : methK kc n fm dd fa ρ (.obj kc fs) pt = bndR (fa ρ pt) fun ds => if (ds ++ dd).length + 1 = n then fm (.obj kc fs :: (ds ++ dd)) else fail := by
  show (if kc = kc then bnd (fa ρ) fun ds => if (ds ++ dd).length + 1 = n then fm (.obj kc fs :: (ds ++ dd)) else fail else fail) pt = _
  rw [if_pos rfl]
  exact e_bnd _ _
def slfOf (kc ix : Nat) : Option (Option SV) → Option (List D)
  | some (some (.slf k fs)) => if k = kc ∧ fs.length = ix then some fs else none
  | _ => none
@[simp] theorem e_slf (kc ix : Nat) (fs : List D) : slfOf kc ix (some (some (.slf kc fs))) = if fs.length = ix then some fs else none := by
  unfold slfOf
  simp
@[simp] theorem e_fldS (i kc ix : Nat) (f : Slots → M D) : fldS i kc ix f ρ pt = bndR (f ρ pt) fun d => opt ((slfOf kc ix ρ[i]?).map fun fs => .nx (ρ.set i (some (.slf kc (fs ++ [d]))))) := by
  unfold fldS
  rw [e_bnd]
  congr 1
  funext d q
  match h : ρ[i]? with
  | some (some (.slf k fs)) =>
    simp only [slfOf]
    by_cases hz : k = kc ∧ fs.length = ix
    · rw [if_pos hz, if_pos hz, hz.1]
      rfl
    · rw [if_neg hz, if_neg hz]
      rfl
  | some (some (.val _)) => rfl
  | some (some (.own _)) => rfl
  | some (some (.ownd _)) => rfl
  | some (some (.exv _ _)) => rfl
  | some (some .lam) => rfl
  | some (some (.raw _)) => rfl
  | some none => rfl
  | none => rfl
@[simp] theorem e_flds (kc nf : Nat) (fs : List D) (r : Slots) (h : fs.length = nf) : fldsOf kc nf (some (.slf kc fs) :: r) = some fs := by
  unfold fldsOf
  simp [h]
@[simp] theorem e_ix0 : ixM .pot (.int 0) pt = .ok (.int pt.1) pt := rfl
@[simp] theorem e_ix1 : ixM .pot (.int 1) pt = .ok (.int pt.2) pt := rfl
@[simp] theorem e_ixT (ds : List D) (i : Int) : ixM (.tup ds) (.int i) pt = opt (atI ds i) pt := rfl
@[simp] theorem e_ixL (ds : List D) (i : Int) : ixM (.lst ds) (.int i) pt = opt (atI ds i) pt := rfl
@[simp] theorem e_at0 (d : D) (ds : List D) : atI (d :: ds) 0 = some d := by simp [atI, ixN]
@[simp] theorem e_at1 (d e : D) (ds : List D) : atI (d :: e :: ds) 1 = some e := by
  unfold atI ixN
  rw [if_pos (by decide), if_pos (by simp only [List.length_cons]; omega)]
  rfl
@[simp] theorem e_at2 (d e f : D) (ds : List D) : atI (d :: e :: f :: ds) 2 = some f := by
  unfold atI ixN
  rw [if_pos (by decide), if_pos (by simp only [List.length_cons]; omega)]
  rfl
@[simp] theorem e_isi (nC : Nat) (ans : Sum String Nat → Option Bool) (fo : Slots → M D) : isiE nC ans fo ρ pt = bndR (fo ρ pt) fun x => opt (((knd nC x).bind ans).map .bl) := e_bnd _ _
@[simp] theorem e_forS (fi : Slots → M (List D)) (tgf : D → Slots → Option Slots) (g : Slots → M Out) : forS fi tgf g ρ pt = bndR (fi ρ pt) fun items => forL tgf g items ρ := e_bnd _ _
def forK (tgf : D → Slots → Option Slots) (g : Slots → M Out) (ds : List D) : Out → M Out
  | .nx ρ2 => forL tgf g ds ρ2
  | .ct ρ2 => forL tgf g ds ρ2
  | .bk ρ2 => ret (.nx ρ2)
  | .rt d => ret (.rt d)
@[simp] theorem e_forL0 (tgf : D → Slots → Option Slots) (g : Slots → M Out) : forL tgf g [] ρ pt = .ok (.nx ρ) pt := rfl
@[simp] theorem e_forL (tgf : D → Slots → Option Slots) (g : Slots → M Out) (d : D) (ds : List D) : forL tgf g (d :: ds) ρ pt = bndR (opt (tgf d ρ) pt) fun ρ1 => bnd (g ρ1) (forK tgf g ds) := by
  show bnd (opt (tgf d ρ)) _ pt = _
  rw [e_bnd]
  cases opt (tgf d ρ) pt with
  | ok r q =>
    simp only [e_bndok, e_bnd]
    cases g r q with
    | ok o z => cases o <;> rfl
    | _ => rfl
  | _ => rfl
@[simp] theorem e_forK (tgf : D → Slots → Option Slots) (g : Slots → M Out) (ds : List D) : forK tgf g ds (.nx ρ) pt = forL tgf g ds ρ pt := rfl
@[simp] theorem e_forKr (tgf : D → Slots → Option Slots) (g : Slots → M Out) (ds : List D) (d : D) : forK tgf g ds (.rt d) pt = .ok (.rt d) pt := rfl
@[simp] theorem e_itE (f : Slots → M D) : itE f ρ pt = bndR (f ρ pt) fun d => opt (itemsOf d) := e_bnd _ _
@[simp] theorem e_itA (g : List D → Option (List D)) (fa : Slots → M (List D)) : itA g fa ρ pt = bndR (fa ρ pt) fun ds => opt (g ds) := e_bnd _ _
@[simp] theorem e_itT (ds : List D) : itemsOf (.tup ds) = some ds := rfl
@[simp] theorem e_itL (ds : List D) : itemsOf (.lst ds) = some ds := rfl
@[simp] theorem e_tgN (i : Nat) (d : D) : tgN i d ρ = if i < ρ.length then some (ρ.set i (some (.val d))) else none := rfl
@[simp] theorem e_tgT (ts : List (D → Slots → Option Slots)) (ds : List D) : tgT ts (.tup ds) ρ = tgs ts ds ρ := rfl
@[simp] theorem e_tgLT (ts : List (D → Slots → Option Slots)) (ds : List D) : tgL ts (.tup ds) ρ = tgs ts ds ρ := rfl
@[simp] theorem e_tgLL (ts : List (D → Slots → Option Slots)) (ds : List D) : tgL ts (.lst ds) ρ = tgs ts ds ρ := rfl
@[simp] theorem e_tgs0 : tgs [] [] ρ = some ρ := rfl
@[simp] theorem e_tgs (t : D → Slots → Option Slots) (ts : List (D → Slots → Option Slots)) (d : D) (ds : List D) : tgs (t :: ts) (d :: ds) ρ = (t d ρ).bind (tgs ts ds) := rfl
@[simp] theorem e_comp (fi : Slots → M (List D)) (vs : List Nat) (tgf : D → Slots → Option Slots) (t : Slots → M Bool) (f : Slots → M D) : compE fi vs tgf t f ρ pt = bndR (fi ρ pt) fun items => if noOwn ρ vs then compL tgf t f (wipeD ρ vs) items [] else fail := e_bnd _ _
@[simp] theorem e_compL0 (tgf : D → Slots → Option Slots) (t : Slots → M Bool) (f : Slots → M D) (acc : List D) : compL tgf t f ρ [] acc pt = .ok acc pt := rfl
@[simp] theorem e_compL (tgf : D → Slots → Option Slots) (t : Slots → M Bool) (f : Slots → M D) (d : D) (ds acc : List D) : compL tgf t f ρ (d :: ds) acc pt = bndR (opt (tgf d ρ) pt) fun ρ1 => bnd (noX (t ρ1)) fun b => if b then bnd (noX (f ρ1)) fun y => (if acc.length < 100000 then compL tgf t f ρ ds (acc ++ [y]) else fail) else compL tgf t f ρ ds acc := e_bnd _ _
@[simp] theorem e_yesT : yesT ρ pt = .ok true pt := rfl
@[simp] theorem e_wipe0 : wipeD ρ [] = ρ := rfl
@[simp] theorem e_wipe (v : Nat) (vs : List Nat) : wipeD ρ (v :: vs) = (wipeD ρ vs).set v none := rfl
@[simp] theorem e_unp (tgf : D → Slots → Option Slots) (f : Slots → M D) : unpS tgf f ρ pt = bndR (f ρ pt) fun d => bnd (opt (tgf d ρ)) fun ρ' => ret (.nx ρ') := e_bnd _ _
@[simp] theorem e_par (i j : Nat) (fa : Slots → M (List D)) : parS i j fa ρ pt = bndR (fa ρ pt) fun ds => bnd (opt (tgs [tgN i, tgN j] ds ρ)) fun ρ' => ret (.nx ρ') := e_bnd _ _
@[simp] theorem e_par3 (i j l : Nat) (fa : Slots → M (List D)) : par3S i j l fa ρ pt = bndR (fa ρ pt) fun ds => bnd (opt (tgs [tgN i, tgN j, tgN l] ds ρ)) fun ρ' => ret (.nx ρ') := e_bnd _ _
@[simp] theorem e_slE (fa : Slots → M D) (fl fh : Slots → M (Option Int)) : slE fa fl fh ρ pt = bndR (fa ρ pt) fun x => bnd (fl ρ) fun lo => bnd (fh ρ) fun hi => slM x lo hi := e_bnd _ _
@[simp] theorem e_noO : noO ρ pt = .ok none pt := rfl
def soK : D → M (Option Int)
  | .int i => ret (some i)
  | _ => fail
@[simp] theorem e_soO (f : Slots → M D) : soO f ρ pt = bndR (f ρ pt) soK := by
  unfold soO bnd bndR
  cases f ρ pt with
  | ok o q => cases o <;> rfl
  | _ => rfl
@[simp] theorem e_soK (i : Int) : soK (.int i) pt = .ok (some i) pt := rfl
@[simp] theorem e_joinE (fa fb : Slots → M D) : joinE fa fb ρ pt = bndR (fa ρ pt) fun x => bnd (opt (strOf1 x)) fun a => bnd (fb ρ) fun y => opt (joinF a y) := e_bnd _ _
@[simp] theorem e_str1 (x : Str) : strOf1 (.str x) = some x := rfl
@[simp] theorem e_oneE (g : D → Option D) (f : Slots → M D) : oneE g f ρ pt = bndR (f ρ pt) fun d => opt (g d) := e_bnd _ _
@[simp] theorem e_joined (fs : List (Slots → M D)) : joinedE fs ρ pt = glueE fs Str.empty ρ pt := rfl
@[simp] theorem e_glue0 (acc : Str) : glueE [] acc ρ pt = .ok (.str acc) pt := rfl
@[simp] theorem e_glue (f : Slots → M D) (fs : List (Slots → M D)) (acc : Str) : glueE (f :: fs) acc ρ pt = bndR (f ρ pt) fun d => bnd (opt (strOf1 d)) fun y => if (acc ++ y).length ≤ 1000000 then glueE fs (acc ++ y) ρ else fail := e_bnd _ _
@[simp] theorem e_unE (g : D → M D) (f : Slots → M D) : unE g f ρ pt = bndR (f ρ pt) g := e_bnd _ _
@[simp] theorem e_unM (kc : Nat) (fm : List D → M D) (fs : List D) : unM kc fm (.obj kc fs) pt = fm [.obj kc fs] pt := by
  show (if kc = kc then fm [.obj kc fs] else fail) pt = _
  rw [if_pos rfl]
@[simp] theorem e_txM (kc : Nat) (fm : List D → M D) (fs : List D) : txM kc fm [.obj kc fs] pt = bndR (fm [.obj kc fs] pt) fun d => bnd (opt (strOf1 d)) fun y => ret (.str y) := by
  show (if kc = kc then bnd (fm [.obj kc fs]) _ else fail) pt = _
  rw [if_pos rfl]
  exact e_bnd _ _
@[simp] theorem e_ownM (nC kc : Nat) (fm : List D → M D) (fs : List D) (y : D) : ownM nC kc fm (.obj kc fs) y pt = if (knd nC y).isSome then fm [.obj kc fs, y] pt else .stuck := by
  show (if kc = kc ∧ (knd nC y).isSome = true then fm [.obj kc fs, y] else fail) pt = _
  by_cases h : (knd nC y).isSome = true <;> simp [h]
@[simp] theorem e_neM (nC kc : Nat) (fm : List D → M D) (x y : D) : neM nC kc fm x y pt = bndR (ownM nC kc fm x y pt) notB := e_bnd _ _
@[simp] theorem e_notB (b : Bool) : notB (.bl b) pt = .ok (.bl (!b)) pt := rfl
@[simp] theorem e_own (ds : List D) : ownOf (some (some (.own ds))) = some ds := rfl
@[simp] theorem e_app (i : Nat) (f : Slots → M D) : appS i f ρ pt = bndR (opt (ownOf ρ[i]?) pt) fun ds => bnd (f ρ) fun d => growM i ρ ds [d] := e_bnd _ _
@[simp] theorem e_ext (i : Nat) (f : Slots → M D) : extS i f ρ pt = bndR (opt (ownOf ρ[i]?) pt) fun ds => bnd (f ρ) fun d => bnd (opt (lstOf d)) fun es => growM i ρ ds es := e_bnd _ _
@[simp] theorem e_grow (i : Nat) (ds es : List D) : growM i ρ ds es pt = if ds.length + es.length ≤ 100000 then .ok (.nx (ρ.set i (some (.own (ds ++ es))))) pt else .stuck := e_ite _ _
@[simp] theorem e_lst1 (ds : List D) : lstOf (.lst ds) = some ds := rfl
@[simp] theorem e_kI (nC : Nat) (i : Int) : knd nC (.int i) = some (.inl "int") := rfl
@[simp] theorem e_kS (nC : Nat) (i : Str) : knd nC (.str i) = some (.inl "str") := rfl
@[simp] theorem e_kB (nC : Nat) (i : Bool) : knd nC (.bl i) = some (.inl "bool") := rfl
@[simp] theorem e_kN (nC : Nat) : knd nC .non = some (.inl "NoneType") := rfl
@[simp] theorem e_kL (nC : Nat) (i : List D) : knd nC (.lst i) = some (.inl "list") := rfl
@[simp] theorem e_kT (nC : Nat) (i : List D) : knd nC (.tup i) = some (.inl "tuple") := rfl
@[simp] theorem e_kO (nC k : Nat) (fs : List D) : knd nC (.obj k fs) = if k < nC then some (.inr k) else none := rfl
@[simp] theorem e_ansI (ts : List String) (cs : List Bool) (n : String) : ansOf ts cs (.inl n) = if n ∈ tagB then some (decide (n ∈ ts)) else none := rfl
@[simp] theorem e_ansO (ts : List String) (cs : List Bool) (k : Nat) : ansOf ts cs (.inr k) = cs[k]? := rfl
@[simp] theorem e_tagB (n : String) : (n ∈ tagB) = (n = "NoneType" ∨ n = "bool" ∨ n = "int" ∨ n = "str" ∨ n = "list" ∨ n = "tuple" ∨ n = "dict") := by simp [tagB]
end
@[simp] theorem e_addT (i j : List D) {pt : Pot} : addU (.tup i) (.tup j) pt = tCat (.tup i) (.tup j) pt := rfl
/-! ### a draw -/
def Pt (pt : Pot) : Prop := 0 ≤ pt.1 ∧ 0 ≤ pt.2 ∧ pt.2 < 4294967296
theorem PotOk.pt {pt : Pot} (h : PotOk pt) : Pt pt := ⟨h.1, Int.le_of_lt h.2.1, by have := h.2.2; omega⟩
end DF

set_option Elab.async false
set_option linter.all false
set_option maxRecDepth 100000
set_option maxHeartbeats 4000000
/-! DFH: numbers with bounds, texts of numbers. -/
namespace DF
open PySem L2
def Bd (k : Nat) (z : Int) : Prop := z.natAbs < 2 ^ k
def MulOk (i j : Int) : Prop := i.natAbs.log2 + j.natAbs.log2 < 1000000
def Log (i : Int) : Prop := i.natAbs.log2 < 1920
theorem Bd.log {k : Nat} {z : Int} (h : Bd k z) (hk : 0 < k) : z.natAbs.log2 < k := by
  by_cases e : z.natAbs = 0
  · rw [e]
    exact hk
  · exact (Nat.log2_lt e).mpr h
theorem Bd.mono {k l : Nat} {z : Int} (h : Bd k z) (hk : k ≤ l) : Bd l z := Nat.lt_of_lt_of_le h (Nat.pow_le_pow_right (by decide) hk)
theorem Bd.add {k : Nat} {x y : Int} (h : Bd k x) (h' : Bd k y) : Bd (k + 1) (x + y) := by
  unfold Bd at *
  have := Int.natAbs_add_le x y
  rw [Nat.pow_succ]
  omega
theorem Bd.neg {k : Nat} {x : Int} (h : Bd k x) : Bd k (-x) := by
  unfold Bd at *
  rw [Int.natAbs_neg]
  exact h
theorem Bd.sub {k : Nat} {x y : Int} (h : Bd k x) (h' : Bd k y) : Bd (k + 1) (x - y) := by
  rw [Int.sub_eq_add_neg]
  exact h.add h'.neg
theorem Bd.mul {k l : Nat} {x y : Int} (h : Bd k x) (h' : Bd l y) : Bd (k + l) (x * y) := by
  unfold Bd at *
  rw [Int.natAbs_mul, Nat.pow_add]
  exact Nat.mul_lt_mul'' h h'
theorem Bd.ok {k l : Nat} {x y : Int} (h : Bd k x) (h' : Bd l y) (hk : 0 < k) (hl : 0 < l) (hs : k + l ≤ 1000000) : MulOk x y := by
  have := h.log hk
  have := h'.log hl
  unfold MulOk
  omega
theorem Bd.lg {k : Nat} {x : Int} (h : Bd k x) (hk : 0 < k) (hs : k ≤ 1920) : Log x := Nat.lt_of_lt_of_le (h.log hk) hs
@[simp high] theorem e_mul (i j : Int) (h : MulOk i j) : iMul (.int i) (.int j) = some (.int (i * j)) := by
  show (if decide (i.natAbs.log2 + j.natAbs.log2 < 1000000) = true then some (D.int (i * j)) else none) = _
  rw [if_pos (decide_eq_true (show i.natAbs.log2 + j.natAbs.log2 < 1000000 from h))]
theorem log_lt64 {j : Int} (h0 : 0 < j) (h1 : j < 18446744073709551616) : j.natAbs.log2 < 9000 := by
  have : Bd 64 j := by unfold Bd; omega
  exact Nat.lt_trans (this.log (by decide)) (by decide)
@[simp high] theorem e_div (i j : Int) (h0 : 0 < j) (h1 : j < 18446744073709551616) : iDiv (.int i) (.int j) = some (.int (i / j)) := by
  show (if (decide (0 < j) && decide (j.natAbs.log2 < 9000)) = true then some (D.int (i / j)) else none) = _
  rw [if_pos (by rw [decide_eq_true h0, decide_eq_true (log_lt64 h0 h1)]; rfl)]
/-! ### the text of a number -/
theorem ofs_app (a b : String) : Str.ofString (a ++ b) = Str.ofString a ++ Str.ofString b := by
  rw [Str.ofString_eq_toList, Str.ofString_eq_toList, Str.ofString_eq_toList]
  apply Str.ext'
  rw [Str.cps_append]
  simp
def tx (i : Int) : Str := Str.ofString (toString i)
theorem tx_neg {i : Int} (h : 0 < i) : tx (-i) = Str.ofString "-" ++ tx i := by
  obtain ⟨n, rfl⟩ := Int.eq_ofNat_of_zero_le (Int.le_of_lt h)
  cases n with
  | zero => omega
  | succ m =>
    unfold tx
    rw [← ofs_app]
    rfl
theorem tx_len {i : Int} (h : Log i) : (tx i).length ≤ 1921 := by
  unfold tx
  rw [ofString_length]
  exact int_text_length_le (by decide) h
@[simp] theorem e_fmtI (i : Int) (h : Log i) : fmtF (.int i) = some (.str (tx i)) := by
  show (if i.natAbs.log2 < 1920 then some (D.str (toString i)) else none) = _
  rw [if_pos (show i.natAbs.log2 < 1920 from h)]
  rfl
@[simp] theorem e_strI (i : Int) (h : Log i) : strF [.int i] = some (.str (tx i)) := by
  show (if i.natAbs.log2 < 1920 then some (D.str (toString i)) else none) = _
  rw [if_pos (show i.natAbs.log2 < 1920 from h)]
  rfl
theorem tx_pos (i : Int) : 0 < (tx i).length := by
  have nn : ∀ n : Nat, 0 < (tx (n : Int)).length := fun n => by
    have h := TL.tl_num n
    have h2 := TL.numL_ne n
    rw [← h] at h2
    unfold tx Str.length
    unfold TL.tl at h2
    cases e : (Str.ofString (toString ((n : Nat) : Int))).cps with
    | mk l =>
      rw [e] at h2
      cases l with
      | nil => exact absurd rfl h2
      | cons a l => exact Nat.succ_pos _
  by_cases h : 0 ≤ i
  · obtain ⟨n, rfl⟩ := Int.eq_ofNat_of_zero_le h
    exact nn n
  · have : i = -(-i) := by omega
    rw [this, tx_neg (by omega), Str.length_append]
    obtain ⟨n, e⟩ := Int.eq_ofNat_of_zero_le (show 0 ≤ -i by omega)
    rw [e]
    have := nn n
    omega
theorem len_ne {a b : Str} (h : 0 < a.length) (hb : b.length = 0) : ¬ a = b := fun e => by
  rw [e, hb] at h
  exact Nat.lt_irrefl _ h
@[simp] theorem e_sAdd (a b : Str) (h : a.length + b.length ≤ 1000000) : sAdd (.str a) (.str b) = some (.str (a ++ b)) := by
  show (if _ then _ else _) = _
  rw [if_pos h]
theorem sok_app {a b : Str} (ha : PyData.strOk a = true) (hb : PyData.strOk b = true) : PyData.strOk (a ++ b) = true := by
  unfold PyData.strOk at *
  rw [Str.cps_append, Array.all_append, ha, hb]
  rfl
theorem sok_ofs (s : String) : PyData.strOk (Str.ofString s) = true := by
  unfold PyData.strOk
  rw [Str.ofString_eq_toList]
  simp only [List.all_toArray, List.all_eq_true, List.mem_map, forall_exists_index, and_imp]
  rintro n c _ rfl
  refine decide_eq_true ?_
  have h := c.valid
  unfold UInt32.isValidChar Nat.isValidChar at h
  show c.val.toNat < 1114112
  rcases h with h | h
  · exact Nat.lt_trans h (by decide)
  · exact h.2
end DF

set_option Elab.async false
set_option linter.all false
set_option maxRecDepth 100000
set_option maxHeartbeats 4000000
namespace DF
open PySem PySem.Spec PyProof.Rows L2
/-! ### several except clauses, each with a name -/
/-- behind a clause its name is gone -/
def offE (i : Nat) (D : Ends) : Ends := { nx := fun τ G => D.nx (τ.set i none) G, rt := D.rt, bk := fun τ G => D.bk (τ.set i none) G, ct := fun τ G => D.ct (τ.set i none) G }
abbrev Cl := Value × Nat × (Addr → Value → Option Addr → TS)
def wNam (K : PySem.W.Frag) (Wo : WX) (D : Ends) : List Cl → WX
  | [] => Wo
  | q :: r => fun cls d σ H => ∃ b, PySem.W.exmOne K cls q.1 = some b ∧ (b = true → ∀ a, H a = none → q.2.2 a cls d (offE q.2.1 D) (σ.set q.2.1 (some (.ref a))) H) ∧ (b = false → wNam K Wo D r cls d σ H)
inductive HdN (X : Cx) : List ExceptHandler → List Cl → Prop
  | nil : HdN X [] []
  | cons {x n : Str} {cv : Value} {i : Nat} {ts : Addr → Value → Option Addr → TS} {st : Stmt} {sts : List Stmt} {p1 p2 : Pos} {hs : List ExceptHandler} {l : List Cl} (nm : Names X x cv) (hi : X.N[i]? = some n) (hl : X.env.kindOf n = some .local)
      (su : ∀ (a : Addr) (oe : Obj) (cls : Value) (d : Option Addr) (pn : List (Addr × Obj)), Zc cls d oe → (∃ vs, oe.data = .fields vs) → PSs (X.suite a ((a, oe) :: pn)) (st :: sts) (ts a cls d)) (more : HdN X hs l) :
      HdN X (.ExceptHandler (some (.Name x p1)) (some n) (st :: sts) p2 :: hs) ((cv, i, ts) :: l)
section
variable {X : Cx} {body : List Stmt} {h1 : ExceptHandler} {hs : List ExceptHandler} {l : List Cl} {pos : Pos} {tb : WX → TS} {Wo : WX}
theorem try_named (es : X.stack = X.env :: X.outer) (ef : X.env.frame = some X.env.locals) (nd : X.N.Nodup) (tk : Takes X Wo)
    (hb : ∀ (W : WX) (pn : List (Addr × Obj)) (xe : Value → Shared → Prop), Takes (X.tr pn xe) W → PassesOwn (model X.prog X.w) X.A X.env xe → PSs (X.tr pn xe) body (tb W))
    (hk : HdN X (h1 :: hs) l) : PS X (.Try body (h1 :: hs) [] [] pos) (fun D σ H => tb (wNam X.K Wo D l) D σ H) := by
  refine ⟨fun pins s σ H D I0 want => ?_⟩
  have ok := I0.ok
  have frm : X.A.frames = some (X.env :: X.outer) := ok.frames.trans (congrArg some es)
  refine wpAny_Try_except ?_
  refine wpAny_mono ((hb (wNam X.K Wo D l) (X.pn ++ pins)
    (fun ev z1 => wpAny (model X.prog X.w) X.A (noteFrame ev X.env) (fun _ z2 => wpAny (model X.prog X.w) X.A (setFlight ev none) (fun _ z3 =>
      wpAny (model X.prog X.w) X.A (handleBy ev X.env (h1 :: hs)) (SP X pins D) X.xe z3) X.xe z2) X.xe z1)
    (fun ev z caught => ?_) PassesOwn.looking).run [] s σ H D (I0.toTry _) want) (fun fl z sp => ?_) (fun _ _ q => q)
  · obtain ⟨a, G, sI, pins1, τ, H1, cls, d, rfl, Jt, below, up, sky, na, eos, bare, w⟩ := caught
    have J : Inv X pins τ H1 sI := Jt.ofTry ok
    have sky1 : Sky G (X.env :: X.outer) a (Zc cls d) X.env.locals z.heap := es ▸ sky
    show wpAny (model X.prog X.w) X.A (noteFrame (.ref a) X.env) _ _ _
    refine Sky.land Zc.steady frm ef sky1 fun g fly up1 => ?_
    have Jg : Inv X pins τ H1 { z with heap := g } := J.landed below fly.1 (up.trans up1) eos bare
    obtain ⟨oe, ovs, eoe, zoe, doe⟩ := fly.there
    have offFr : a ∉ frs (X.env :: X.outer) := fun hm => by
      obtain ⟨_, o2, e2, n2⟩ := fly.2.2.1.mem hm
      rw [eoe] at e2
      cases e2
      exact n2 _ doe
    have offL : a ≠ X.env.locals := fun q => offFr (List.mem_filterMap.mpr ⟨X.env, List.mem_cons_self, by rw [ef, q]⟩)
    have offF : a ∉ X.fs := fun hm => by
      obtain ⟨en, m1, m2⟩ := List.mem_filterMap.mp hm
      exact offFr (List.mem_filterMap.mpr ⟨en, List.mem_cons_of_mem _ m1, m2⟩)
    have Sg := Jg.suite eoe doe na offL offF
    have each : ∀ {hz : List ExceptHandler} {lz : List Cl}, HdN X hz lz → wNam X.K Wo D lz cls d τ H1 → wpAny (model X.prog X.w) X.A (handleBy (.ref a) X.env hz) (SP X pins D) X.xe { z with heap := g } := by
      intro hz lz hd
      induction hd with
      | nil =>
        intro w
        refine wpAny_handleBy_nil ?_
        obtain ⟨_, _, _, o5, v5, T5, _, _, e5, _, d5, i5, _⟩ := id fly
        unfold PySem.passOn
        refine wpAny_bind (wpAny_field e5 d5 i5 ?_)
        rw [if_neg (show ¬ ((Value.ref T5 == Value.none) = true) from by simp)]
        have up2 : wpAny (model X.prog X.w) X.A (setFlight (.ref a) X.env.frame) (fun _ z4 => wpAny (model X.prog X.w) X.A (throw (.ref a) : Sem Flow) (SP X pins D) X.xe z4) X.xe { z with heap := g } := by
          rw [ef]
          exact HandSPX.setFlight_upZ fly fun g4 held up4 => wpAny_throw (tk _ _ ⟨a, G, sI, pins, τ, H1, cls, d, rfl, J, below, (up.trans up1).trans up4, .inr (.inr (es ▸ held)), na, eos, bare, w⟩)
        first
          | exact wpAny_bind (wpAny_pure (wpAny_bind up2))
          | exact wpAny_bind up2
      | @cons x n cv i ts st sts p1 p2 hs2 l2 nm hi hl su more ih =>
        intro w
        obtain ⟨b, eb, yes, no⟩ := w
        refine wpAny_handleBy_cons (codeAny_handlers_test ?_) (by intro q; cases q)
        have lkT : PySem.W.Looks (model X.prog X.w) g (typeOf (.ref a)) cls := fun A Q E y k q => wpAny_typeOf_ref (k _ _ eoe) (by rw [zoe.1]; exact q)
        have lkM := PySem.W.exm_one (M := model X.prog X.w) Jg.kIn lkT eb
        have named : ∀ {Q : Value → Shared → Prop} {E : Value → Shared → Prop}, Q cv { z with heap := g } → wpAny (model X.prog X.w) (X.A.mark (some (.ref a))) (eval (.Name x p1) X.env) Q E { z with heap := g } := fun {Q E} q => by
          obtain ⟨g1, g2, g3 | ⟨g3, g4, g5⟩⟩ := nm
          · exact ld_glob (X := X.suite a ((a, oe) :: (X.pn ++ pins))) Sg g1 g3 q g2
          · exact ld_blt (X := X.suite a ((a, oe) :: (X.pn ++ pins))) Sg g1 g3 g4 q g5 g2
        refine named (lkM.here ?_)
        cases b with
        | false =>
          show wpAny _ X.A (handleBy (.ref a) X.env hs2) _ _ _
          exact ih (no rfl)
        | true =>
          refine codeAny_handlers_suite_as (HandSPX.lands_againZ fly fun g4 fly4 up4 => ?_)
          have J4 : Inv X pins τ H1 { z with heap := g4 } := J.landed below fly4.1 ((up.trans up1).trans up4) eos bare
          obtain ⟨o4, v4, e4, z4, d4⟩ := fly4.there
          have S4 := J4.suite e4 d4 na offL offF
          refine store_ok (X := X.suite a ((a, o4) :: (X.pn ++ pins))) (v := .ref a) S4 nd hi (.inl hl) rfl (fun y S5 => ?_) (.inr hl)
          refine wpAny_mono ((su a o4 cls d (X.pn ++ pins) z4 ⟨_, d4⟩).run [] y _ H1 _ S5 (yes rfl a na)) (fun fl y6 sp => ?_) (fun _ _ q => q.elim)
          have goes : ∀ {τ6 : L2.St} {H6 : Hp} {Q : Shared → Prop}, Inv (X.suite a ((a, o4) :: (X.pn ++ pins))) [] τ6 H6 y6 → (∀ y7, Inv X pins (τ6.set i none) H6 y7 → Q y7) →
              wpAny (model X.prog X.w) X.A (do bindName X.env n .none; unbindBehindTheSuite X.env n p2) (fun _ y7 => Q y7) X.xe y6 := fun {τ6 H6 Q} S6 hq => gone_ok (S6.unsuite ok) nd hi hl hq
          cases fl with
          | ret u =>
            obtain ⟨v6, τ6, H6, S6, r6, q6⟩ := sp
            exact goes S6 fun y7 J7 => ⟨_, _, _, J7, r6, q6⟩
          | next =>
            obtain ⟨τ6, H6, S6, q6⟩ := sp
            exact goes S6 fun y7 J7 => ⟨_, _, J7, q6⟩
          | brk =>
            obtain ⟨τ6, H6, S6, q6⟩ := sp
            exact goes S6 fun y7 J7 => ⟨_, _, J7, q6⟩
          | cont =>
            obtain ⟨τ6, H6, S6, q6⟩ := sp
            exact goes S6 fun y7 J7 => ⟨_, _, J7, q6⟩
    exact each hk w
  · cases fl with
    | ret u =>
      obtain ⟨v, τ, H1, Jt, r, q⟩ := sp
      exact ⟨v, τ, H1, Jt.ofTry ok, r, q⟩
    | next =>
      obtain ⟨τ, H1, Jt, q⟩ := sp
      exact wpAny_execs_nil ⟨τ, H1, Jt.ofTry ok, q⟩
    | brk =>
      obtain ⟨τ, H1, Jt, q⟩ := sp
      exact ⟨τ, H1, Jt.ofTry ok, q⟩
    | cont =>
      obtain ⟨τ, H1, Jt, q⟩ := sp
      exact ⟨τ, H1, Jt.ofTry ok, q⟩
end
end DF

set_option Elab.async false
set_option linter.all false
set_option maxRecDepth 100000
set_option maxHeartbeats 4000000
namespace DF
open PySem PySem.Spec PyProof.Rows L2
/-! ### exception classes of the text over any of the built-in ones, called with values and keywords -/
section
open PySem.HandSPX Builtin
variable {prog : Program} {w : World} {M : Model} {A : Around} {E : Value → Shared → Prop} {R : Result → Shared → Prop} {h : Heap} {g : Array GenState} {d : Drawn} {t : Nat} {os : OsState}
variable {nm q : Str} {C N : Addr} {bs bm bmB : List Value} {hdct : Bool} {sn : List Str} {sub : List Value} {ab : Bool} {col : Option Bool} {dd : Option Addr} {k0 k1 k2 k3 k5 : Option Value} {B newId initId : String} {us : List Value} {kw : List (Str × Value)}
theorem xk_check (FB : ExcBaseFacts B newId initId bmB) (ct : ∀ Y : String, bm.contains (.type Y) = bmB.contains (.type Y)) {Q : Unit → Shared → Prop}
    (hC : h.get? C = some (excClassObj nm q C N bs bm hdct sn sub ab col dd k0 k1 k2 k3 k5 newId)) (want : Q () ⟨h, g, d, t, os⟩) : wpAny M A (checkBuiltinCall newId ⟨.ref C :: us, kw⟩) Q E ⟨h, g, d, t, os⟩ := by
  have inB : (Value.ref C :: bm).contains (.type B) = true := by rw [List.contains_cons, ct, FB.hasB, Bool.or_true]
  have ns := FB.noStar
  simp only [checkBuiltinCall, FB.newKind, FB.newSplit, FB.newRow]
  repeat (first | with_reducible refine wpAny_loadPart_at hC ?_ | (with_reducible refine wpAny_isSubtype_exc hC ?_; rw [inB]) | with_reducible refine wpAny_staticBase_exc hC ?_ | with_reducible refine wpAny_madeBy_exc hC ?_ | simp only [bne_self_eq_false, Bool.false_eq_true, if_false] | wp_step)
  exact want
theorem xk_new (FB : ExcBaseFacts B newId initId bmB) (ct : ∀ Y : String, bm.contains (.type Y) = bmB.contains (.type Y))
    (hC : h.get? C = some (excClassObj nm q C N bs bm hdct sn sub ab col dd k0 k1 k2 k3 k5 newId)) (hl : us.length ≤ sizeLine)
    (want : R (.ok (.ret (.ref (h.objs.size + 1)))) ⟨(h.push (PySem.W.kdv_tup us)).push (excO C h.objs.size), g, d, t, os⟩) :
    codeAny (model prog w) A (.builtin newId ⟨.ref C :: us, kw⟩) R ⟨h, g, d, t, os⟩ := by
  have he := FB.ends
  have inB : (Value.ref C :: bm).contains (.type B) = true := by rw [List.contains_cons, ct, FB.hasB, Bool.or_true]
  have noA : (Value.ref C :: bm).contains (.type "AttributeError") = false := by rw [List.contains_cons, ct, FB.noAttr]; rfl
  have noN : (Value.ref C :: bm).contains (.type "NameError") = false := by rw [List.contains_cons, ct, FB.noName]; rfl
  refine codeAny_builtinAt FB.entry ?_
  unfold Builtin.«BaseException.__new__»
  refine PySem.wpAt_bind ?_
  show PySem.wpAt _ _ _ (stack >>= _) _ _ _
  refine PySem.wpAt_bind (PySem.wpAt_stack fun p1 p2 => PySem.wpAt_of_wpAny ?_)
  wp_walk
  refine PySem.wpAt_of_wpAny ?_
  rw [FB.owner]
  repeat (first | with_reducible refine wpAny_madeHere_exc FB.canon hC ?_ | with_reducible refine wpAny_loadPart_at hC ?_ | (with_reducible refine wpAny_isSubtype_exc hC ?_; first | rw [inB] | rw [noA] | rw [noN]) | wp_step)
  show R _ _
  rw [Heap.size_push]
  exact want
theorem xk_tcall (FB : ExcBaseFacts B newId initId bmB) (ct : ∀ Y : String, bm.contains (.type Y) = bmB.contains (.type Y)) {fI : Addr} {Q : PySem.Fin → Shared → Prop}
    (hC : h.get? C = some (excClassObj nm q C N bs bm hdct sn sub ab col dd k0 k1 k2 k3 k5 newId))
    (hi : PySem.W.Looks (model prog w) h (typeLookup (.ref C) "__init__") (some (.ref fI))) (hb : ∀ self, PySem.W.Looks (model prog w) h (bindSpecial (.ref fI) self) (.ref fI, [self])) (hl : us.length ≤ sizeLine)
    (want : codeAny (model prog w) A (.call (.ref fI) ⟨.ref (h.objs.size + 1) :: us, kw⟩)
      (fun r z => match r with | .ok (.ret v) => v = .none ∧ Q (.done (.ret (.ref (h.objs.size + 1)))) z | .ok _ => False | .error e => E e z)
      ⟨(h.push (PySem.W.kdv_tup us)).push (excO C h.objs.size), g, d, t, os⟩) :
    wpAny (model prog w) A (Builtin.«type.__call__» ⟨.ref C :: us, kw⟩) Q E ⟨h, g, d, t, os⟩ := by
  repeat (first | with_reducible refine wpAny_loadPart_at hC ?_ | with_reducible refine wpAny_madeBy_exc hC ?_ | wp_step)
  refine codeAny_call_builtin_code (Code.quiet_builtin _ FB.quiet) (xk_check FB ct hC ?_)
  refine xk_new FB ct hC hl ?_
  show wpAny _ _ _ _ _ _
  have up : ∀ b o, h.get? b = some o → ((h.push (PySem.W.kdv_tup us)).push (excO C h.objs.size)).get? b = some o := fun b o e => Heap.get?_push_of_some _ (Heap.get?_push_of_some _ e)
  have hC1 := up _ _ hC
  have e1 : ((h.push (PySem.W.kdv_tup us)).push (excO C h.objs.size)).get? (h.objs.size + 1) = some (excO C h.objs.size) := by heap_get
  have cc : (Value.ref C :: bm).contains (.ref C) = true := by simp
  have i1 := hi.keeps up
  have b1 := (hb (.ref (h.objs.size + 1))).keeps up
  unfold isInstance
  repeat (first | with_reducible refine wpAny_loadPart_at e1 ?_ | (with_reducible refine wpAny_isSubtype_exc hC1 ?_; rw [cc]) | wp_step)
  show wpAny _ _ (typeLookup (.ref C) _) _ _ _
  refine i1.at (wpAny_holding (wpAny_bind (b1.at (wpAny_bind (wpAny_call (codeAny_mono want fun r z y => ?_))))))
  rcases r with e | (v | _ | _ | _) <;> first | exact y | exact y.elim | skip
  obtain ⟨rfl, y⟩ := y
  first
    | exact wpAny_pure (wpAny_pure y)
    | (wp_walk; exact y)
theorem xk_ccheck {Q : Unit → Shared → Prop} (hC : h.get? C = some (excClassObj nm q C N bs bm hdct sn sub ab col dd k0 k1 k2 k3 k5 newId))
    (want : Q () ⟨h, g, d, t, os⟩) : wpAny M A (checkBuiltinCall "type.__call__" ⟨.ref C :: us, kw⟩) Q E ⟨h, g, d, t, os⟩ := by
  have f3 := tc_sub
  have hT : (⟨h, g, d, t, os⟩ : Shared).TypeIs (.ref C) "type" := ⟨_, hC, rfl⟩
  simp only [checkBuiltinCall, tc_kind, tc_split]
  repeat (any_goals (first | assumption | with_reducible refine wpAny_loadPart_at hC ?_ | with_reducible refine wpAny_onRaise ?_ | with_reducible refine wpAny_map ?_ | wp_step))
theorem xk_call (FB : ExcBaseFacts B newId initId bmB) (ct : ∀ Y : String, bm.contains (.type Y) = bmB.contains (.type Y)) {fI : Addr}
    (hC : h.get? C = some (excClassObj nm q C N bs bm hdct sn sub ab col dd k0 k1 k2 k3 k5 newId))
    (hi : PySem.W.Looks (model prog w) h (typeLookup (.ref C) "__init__") (some (.ref fI))) (hb : ∀ self, PySem.W.Looks (model prog w) h (bindSpecial (.ref fI) self) (.ref fI, [self])) (hl : us.length ≤ sizeLine)
    (want : codeAny (model prog w) (A.under (.builtin "type.__call__" ⟨.ref C :: us, kw⟩)) (.call (.ref fI) ⟨.ref (h.objs.size + 1) :: us, kw⟩) (PySem.W.InitBack (h.objs.size + 1) R)
      ⟨(h.push (PySem.W.kdv_tup us)).push (excO C h.objs.size), g, d, t, os⟩) :
    codeAny (model prog w) A (.call (.ref C) ⟨us, kw⟩) R ⟨h, g, d, t, os⟩ := by
  have f1 := tc_lookup
  have f2 := tc_bind (.ref C)
  have hT : (⟨h, g, d, t, os⟩ : Shared).TypeIs (.ref C) "type" := ⟨_, hC, rfl⟩
  refine codeAny_of_tree ?_
  show wpAny _ _ (callAny (.ref C) _) _ _ _
  repeat (any_goals (first | assumption | with_reducible refine wpAny_loadPart_at hC ?_ | wp_step))
  refine ⟨rfl, ?_⟩
  refine codeAny_call_builtin_at (Code.quiet_builtin _ (by decide +kernel)) entry_typeCall (xk_ccheck hC (xk_tcall FB ct hC hi hb hl ?_))
  refine codeAny_mono want fun r z y => ?_
  rcases r with e | (v | _ | _ | _) <;> exact y
end
/-- a built-in exception class that classes of the text may stand over -/
structure BaB (B newId initId : String) (bmB : List Value) : Prop where
  F : ExcBaseFacts B newId initId bmB
  S : StoreFacts B bmB "object.__setattr__" "object"
def baOf : String → List Value
  | "ValueError.__new__" => [.type "ValueError", .type "Exception", .type "BaseException", .type "object"]
  | "LookupError.__new__" => [.type "LookupError", .type "Exception", .type "BaseException", .type "object"]
  | "RuntimeError.__new__" => [.type "RuntimeError", .type "Exception", .type "BaseException", .type "object"]
  | "ArithmeticError.__new__" => [.type "ArithmeticError", .type "Exception", .type "BaseException", .type "object"]
  | _ => []
def inOf : String → String
  | "ValueError.__new__" => "ValueError.__init__"
  | "LookupError.__new__" => "LookupError.__init__"
  | "RuntimeError.__new__" => "RuntimeError.__init__"
  | "ArithmeticError.__new__" => "ArithmeticError.__init__"
  | _ => ""
theorem baOf_ok {n : String} (h : (baOf n).isEmpty = false) : ∃ B, BaB B n (inOf n) (baOf n) := by
  unfold baOf at h
  split at h
  · exact ⟨_, F.excBase_ValueError, F.store_ValueError⟩
  · exact ⟨_, F.excBase_LookupError, F.store_LookupError⟩
  · exact ⟨_, F.excBase_RuntimeError, F.store_RuntimeError⟩
  · exact ⟨_, F.excBase_ArithmeticError, F.store_ArithmeticError⟩
  · cases h
/-- what the written part says of such a class -/
structure OxG (K : PySem.W.Frag) (C : Addr) : Prop where
  cls : ∃ (B newId initId : String) (bmB : List Value) (nm q : Str) (N : Addr) (bs bm : List Value) (sn : List Str) (sub : List Value) (ab : Bool) (col : Option Bool) (dd : Option Addr) (k0 k1 k2 k3 k5 : Option Value), BaB B newId initId bmB ∧
    K.lookup C = some (excClassObj nm q C N bs bm true sn sub ab col dd k0 k1 k2 k3 k5 newId) ∧ PySem.W.excTail bmB bm = true
  set : PySem.W.findIn K (.ref C) "__setattr__" = some (some (.builtin "object.__setattr__"))
  isE : PySem.W.subIn K (.ref C) (.type "BaseException") = some true
  ty : PySem.W.typeIn K (.ref C) = some (.type "type")
  kp : PySem.W.keepIn K (.ref C) = true
section
open Builtin Builtin.ObjectAttr PySem.HandSPX
variable {prog : Program} {w : World} {A : Around} {E : Value → Shared → Prop} {R : Result → Shared → Prop} {hp : Heap} {g : Array GenState} {d : Drawn} {t : Nat} {os : OsState} {K : PySem.W.Frag} {name : Str} {tk : Tok} {v : Value} {x C dx : Addr} {fv : Array Value} {B : String} {bmB : List Value}
theorem xs_new (SF : StoreFacts B bmB "object.__setattr__" "object") (X : K.In hp) (hx : hp.get? x = some { cls := .ref C, data := .fields fv }) (ov : PySem.W.excOver K C bmB = true) (hd : PySem.W.hasDictIn K C = true) (ha : PySem.W.findIn K (.ref C) name = some none)
    (want : ∀ h1 tk1 dx, (∀ b o, b ≠ x → hp.get? b = some o → h1.get? b = some o) → hp.objs.size ≤ dx → dx ≠ x → h1.get? x = some { cls := .ref C, dict := some dx, data := .fields fv } →
      h1.Ns1 dx (fun y => if y = name then some v else none) → R (.ok (.ret .none)) ⟨h1, g, d, tk1, os⟩) :
    codeAny (model prog w) A (.call (.builtin "object.__setattr__") ⟨[.ref x, .str name tk, v], []⟩) R ⟨hp, g, d, t, os⟩ := by
  have J : PySem.W.InstAt hp x { cls := .ref C, data := .fields fv } C none := ⟨hx, rfl, rfl, trivial⟩
  have ne : x ≠ hp.objs.size := Nat.ne_of_lt (Heap.lt_size hx)
  have tkr : PySem.W.takerIn K C name = some none := by unfold PySem.W.takerIn; rw [ha]; rfl
  refine PySem.W.osa_openX (od := none) SF X J ov tkr fun b => ?_
  obtain ⟨cd, hcd, hh⟩ := PySem.W.any_some hd
  have cls1 : PySem.W.Looks (model prog w) hp (classData C) cd := PySem.W.looks_clsIn X hcd
  show wpAny _ _ (storeInOwnDict (.ref x) (.ref C) (.str name tk) name v b) _ _ _
  obtain ⟨nm, bs, mro, ns, qn, hd1, sn, sb, ab, col, del⟩ := cd
  dsimp only at hh
  subst hh
  unfold storeInOwnDict ownDictForStores
  repeat (first | with_reducible refine store_in_new ?_ ?_ | with_reducible refine wpAny_loadPart_at hx ?_ | with_reducible refine cls1.at ?_ | wp_step)
  · exact ⟨_, #[], _, (Heap.get?_update_ne _ _ _ _ ne.symm).trans (Heap.get?_push_at rfl rfl), rfl, fun e he => absurd he (by simp), fun _ => rfl⟩
  · intro h1 tk1 hn hs
    have hx1 : (hp.push { cls := .type "dict", data := .dict #[] }).get? x = some { cls := .ref C, data := .fields fv } := Heap.get?_push_of_some _ hx
    refine want h1 tk1 hp.objs.size (fun b o hb ho => ?_) (Nat.le_refl _) ne.symm ?_ hn
    · exact (hs.2 b (Nat.ne_of_lt (Heap.lt_size ho))).trans ((Heap.get?_update_ne _ _ _ _ hb).trans (Heap.get?_push_of_some _ ho))
    · exact (hs.2 x ne).trans (Heap.get?_update_self _ hx1 rfl)
theorem xs_old {m0 : Str → Option Value} {nl : List Str} (SF : StoreFacts B bmB "object.__setattr__" "object") (X : K.In hp) (hx : hp.get? x = some { cls := .ref C, dict := some dx, data := .fields fv }) (hns : hp.Ns1 dx m0) (hw : Within m0 nl) (hz : nl.length ≤ 1000)
    (ov : PySem.W.excOver K C bmB = true) (hd : PySem.W.hasDictIn K C = true) (ha : PySem.W.findIn K (.ref C) name = some none)
    (want : ∀ h1 tk1, (∀ b o, b ≠ dx → hp.get? b = some o → h1.get? b = some o) → h1.Ns1 dx (fun y => if y = name then some v else m0 y) → R (.ok (.ret .none)) ⟨h1, g, d, tk1, os⟩) :
    codeAny (model prog w) A (.call (.builtin "object.__setattr__") ⟨[.ref x, .str name tk, v], []⟩) R ⟨hp, g, d, t, os⟩ := by
  obtain ⟨oD, esD, epD, hoD, hdD, _⟩ := hns.count hw
  have J : PySem.W.InstAt hp x { cls := .ref C, dict := some dx, data := .fields fv } C (some oD) := ⟨hx, rfl, rfl, hoD⟩
  have tkr : PySem.W.takerIn K C name = some none := by unfold PySem.W.takerIn; rw [ha]; rfl
  refine PySem.W.osa_openX (od := some oD) SF X J ov tkr fun b => ?_
  obtain ⟨cd, hcd, hh⟩ := PySem.W.any_some hd
  have cls1 : PySem.W.Looks (model prog w) hp (classData C) cd := PySem.W.looks_clsIn X hcd
  show wpAny _ _ (storeInOwnDict (.ref x) (.ref C) (.str name tk) name v b) _ _ _
  obtain ⟨nm, bs, mro, ns, qn, hd1, sn, sb, ab, col, del⟩ := cd
  dsimp only at hh
  subst hh
  unfold storeInOwnDict ownDictForStores
  repeat (first | with_reducible refine PySem.OEX.store_in_old hns hw hz ?_ | with_reducible refine wpAny_loadPart_at hx ?_ | with_reducible refine cls1.at ?_ | wp_step)
  intro h1 tk1 hn hs
  exact want h1 tk1 (fun b o hb ho => (hs.2 b hb).trans ho) hn
end
theorem OxG.over {K : PySem.W.Frag} {C : Addr} (T : OxG K C) : ∃ (B newId initId : String) (bmB : List Value), BaB B newId initId bmB ∧ PySem.W.excOver K C bmB = true ∧ PySem.W.hasDictIn K C = true := by
  obtain ⟨B, n, i, bmB, nm, q, N, bs, bm, sn, sub, ab, col, dd, k0, k1, k2, k3, k5, ba, lk, tl⟩ := T.cls
  have hcl : PySem.W.clsIn K C = some { name := nm, bases := bs, mro := .ref C :: bm, ns := N, qualname := q, hasDict := true, slotNames := sn, subclasses := sub, abstract := ab, collection := col, hasDel := false } := by unfold PySem.W.clsIn; rw [lk] <;> rfl
  refine ⟨B, n, i, bmB, ba, ?_, ?_⟩
  · unfold PySem.W.excOver
    rw [hcl]
    simp [tl]
  · unfold PySem.W.hasDictIn
    rw [hcl]
    rfl
section
variable {X : Cx} {pins : List (Addr × Obj)} {σ : L2.St} {H : Hp} {s : Shared} {a C dx : Addr} {f : Str} {y : V} {u : Value} {fs : List (Str × V)} {Q : Unit → Shared → Prop} {E : Value → Shared → Prop} {A : Around}
theorem xst_new (T : OxG X.K C) (I : Inv X pins σ H s) (e : H a = some (exo a C none)) (no : PySem.W.findIn X.K (.ref C) f = some none) (ry : RelV y u)
    (h : ∀ dx s1, H dx = none → dx ≠ a → Inv X pins σ (upd (upd H dx (exd dx [(f, y)])) a (exo a C (some dx))) s1 → Q () s1) : wpAny (model X.prog X.w) A (setAttr (.ref a) f u) Q E s := by
  obtain ⟨B, n, i, bmB, ba, ov, hd⟩ := T.over
  obtain ⟨t1, ho⟩ := exo_at I.hok e
  obtain ⟨hp, g, d, t, os⟩ := s
  refine PySem.W.set_plain I.kIn (ox := { cls := .ref C, dict := none, data := .fields #[.ref t1, .none, .none, .none, .bool false, .none] }) (od := none) ⟨ho, rfl, rfl, trivial⟩ T.set ?_
  refine xs_new ba.S I.kIn ho ov hd no fun h1 tk1 dx k dn dne hx hn => ?_
  have hnd : H dx = none := I.hok.fresh dn
  have nd : ∀ {b : Addr} {o : Obj}, hp.get? b = some o → b ≠ dx := fun q => Nat.ne_of_lt (Nat.lt_of_lt_of_le (Heap.lt_size q) dn)
  have na : ∀ {b : Addr}, H b = none → b ≠ a := fun n z => by rw [z, e] at n; cases n
  have U : Un X.fs [] H (upd (upd H dx (exd dx [(f, y)])) a (exo a C (some dx))) hp h1 := {
    keep := fun b o q n _ _ => k b o (na n) q
    slot := fun b o q n _ _ => ⟨o.slots, k b o (na n) q⟩
    free := fun b o q n _ => by rw [upd_ne (na n), upd_ne (nd q)]; exact n
    there := fun b o q _ => if hb : b = a then ⟨_, hb ▸ hx⟩ else ⟨o, k b o hb q⟩
    tups := fun b xs q => by rw [upd_ne (at_ne e q exo_tup), upd_ne (ne_of_none q hnd)]; exact q
    frzs := fun b o v q => by rw [upd_ne (at_ne e q exo_frz), upd_ne (ne_of_none q hnd)]; exact q
    tbls := fun b ps q => ⟨#[], by rw [upd_ne (at_ne e q exo_tbl), upd_ne (ne_of_none q hnd), q]; simp⟩ }
  refine h dx _ hnd dne (I.un (t' := tk1) U fun b o q => ?_)
  by_cases hb : b = a
  · subst hb
    rw [upd_same] at q
    cases q
    exact exo_ok hx
  rw [upd_ne hb] at q
  by_cases hb2 : b = dx
  · subst hb2
    rw [upd_same] at q
    cases q
    exact exd_ok hn (relO_put (fs := []) ry fun _ => True.intro)
  rw [upd_ne hb2] at q
  refine (I.hok b o q).stay (fun c v hc z => k c v ?_ z) (fun c hc => ?_) (fun c xs hc => ?_)
  · exact hc.elim (fun hc => hc ▸ hb) fun hc => at_ne e hc exo_own
  · rw [upd_ne (at_ne e hc exo_own), upd_ne (ne_of_none hc hnd)]
    exact hc
  · rw [upd_ne (at_ne e hc exo_tup), upd_ne (ne_of_none hc hnd)]
    exact hc
theorem xst_old (T : OxG X.K C) (I : Inv X pins σ H s) (e : H a = some (exo a C (some dx))) (ed : H dx = some (exd dx fs)) (hl : fs.length ≤ 900) (no : PySem.W.findIn X.K (.ref C) f = some none) (ry : RelV y u)
    (h : ∀ s1, Inv X pins σ (upd H dx (exd dx ((f, y) :: fs))) s1 → Q () s1) : wpAny (model X.prog X.w) A (setAttr (.ref a) f u) Q E s := by
  obtain ⟨B, n, i, bmB, ba, ov, hd⟩ := T.over
  obtain ⟨t1, ho⟩ := exo_at I.hok e
  obtain ⟨mA, hns, rel⟩ := exd_at I.hok ed
  have hw := within_of rel
  obtain ⟨hp, g, d, t, os⟩ := s
  obtain ⟨oD, _, _, hoD, _, _⟩ := hns.count hw
  refine PySem.W.set_plain I.kIn (ox := { cls := .ref C, dict := some dx, data := .fields #[.ref t1, .none, .none, .none, .bool false, .none] }) (od := some oD) ⟨ho, rfl, rfl, hoD⟩ T.set ?_
  refine xs_old ba.S I.kIn ho hns hw (by rw [List.length_map]; omega) ov hd no fun h1 tk1 k hn => ?_
  have th : ∃ o, h1.get? dx = some o := let ⟨o, _, _, q, _⟩ := hn; ⟨o, q⟩
  exact h _ (I.write (t' := tk1) (x := dx) (e := dx) (o := exd dx ((f, y) :: fs)) (by rw [ed]; exact True.intro) (.inl rfl) k th (exd_ok hn (relO_put ry rel)))
end
/-- self.f = e -/
def tXst (K : PySem.W.Frag) (f : Str) (to te : TE) : TS := fun D σ H => te σ H fun y H1 => to σ H1 fun x H2 => ∃ a C : Addr, x = .ref a ∧ OxG K C ∧ PySem.W.findIn K (.ref C) f = some none ∧
  ((H2 a = some (exo a C none) ∧ ∀ dx, H2 dx = none → dx ≠ a → D.nx σ (upd (upd H2 dx (exd dx [(f, y)])) a (exo a C (some dx)))) ∨
    ∃ (dx : Addr) (fs : List (Str × V)), H2 a = some (exo a C (some dx)) ∧ H2 dx = some (exd dx fs) ∧ fs.length ≤ 900 ∧ D.nx σ (upd H2 dx (exd dx ((f, y) :: fs))))
theorem ps_xst {X : Cx} {o e : Expr} {to te : TE} {f : Str} {p1 pos : Pos} (ho : PE X o to) (he : PE X e te) (hs : swapsWith e (some (.Attribute o f p1)) pos.line X.env = pure false := by rfl) : PS X (.Assign [.Attribute o f p1] e pos) (tXst X.K f to te) := by
  refine ⟨fun pins s σ H D I h => plainObj_wpAny_Assign_Attribute (thn (he.run pins s σ H _ I h) fun v s1 ⟨y, H1, I1, r1, q1⟩ => thn (ho.run pins s1 σ H1 _ I1 q1) fun u s2 ⟨x, H2, I2, r2, a, C, ex, T, hno, q⟩ => ?_) hs⟩
  subst ex
  obtain rfl : u = Value.ref a := r2
  rcases q with ⟨ea, q⟩ | ⟨dx, fs, ea, ed, hl, q⟩
  · exact xst_new T I2 ea hno r1 fun dx s1 n ne J => ⟨σ, _, J, q dx n ne⟩
  · exact xst_old T I2 ea ed hl hno r1 fun s1 J => ⟨σ, _, J, q⟩
end DF

set_option Elab.async false
set_option linter.all false
set_option maxRecDepth 100000
set_option maxHeartbeats 4000000
namespace DF
open PySem PySem.Spec PyProof.Rows L2
/-! ### exceptions of the text: made -/
def spX (T : Tb) (ec : Nat) : Sp := fun vs H Q _ => ∃ a ws, vs = .ref a :: ws ∧ ws.length = (T.names ec).length ∧ H a = some (exo a (T.cls ec) none) ∧
  ∀ (d : Addr) (fl : List (Str × V)), H d = none → d ≠ a → (∀ (i : Nat) (n : Str) (v : V), (T.names ec)[i]? = some n → ws[i]? = some v → fl.lookup n = some v) → Q .non (upd (upd H d (exd d fl)) a (exo a (T.cls ec) (some d)))
section
variable {P : Program} {w : World} {K : PySem.W.Frag} {mg : Str → Option Value} {base : Heap} {T : Tb} {x qual : Str} {st : Stmt} {f : Addr} {fd : FuncData} {y v v2 fld fld2 : Str} {ec : Nat}
theorem fnX1 (F : FunD K x qual (defArgs st) (defBody st) (defScope st) [] [] f fd) (S : FnScope [y, v] [y, v] (defScope st)) (O : OxG K (T.cls ec)) (hn : T.names ec = [fld]) (no : NoAttr K (T.cls ec) fld)
    (hb : ∀ (cdv : Value) (A : Around) (outer : List Env) (s : Shared) (H : Hp) (E : XK), PSs (cxOf (L2.CX P w) P w K mg base [y, v] qual (defScope st) f cdv A outer s H E) (defBody st) (tXst K fld (tVar 0) (tVar 1))) :
    FnOk P w K mg base (L2.CX P w) 1 f fd [y, v] (spX T ec) := by
  refine F.ok (k := 0) S (fun vs H Q E h => ?_) (fun cdv A outer s H vs Q E hr h => ?_)
  · obtain ⟨a, ws, rfl, hl, _⟩ := h
    rw [List.length_cons, hl, hn]
    rfl
  · obtain ⟨a, ws, rfl, hl, ha, q⟩ := h
    rw [hn] at hl
    obtain ⟨y1, rfl⟩ := List.length_eq_one_iff.mp hl
    refine ⟨_, hb cdv A outer s H E, ⟨y1, rfl, .ref a, rfl, a, _, rfl, O, no, .inl ⟨ha, fun d hd ne => q d _ hd ne fun i n v e1 e2 => ?_⟩⟩⟩
    rw [hn] at e1
    match i, e1, e2 with
    | 0, e1, e2 =>
      simp only [List.getElem?_cons_zero, Option.some.injEq] at e1 e2
      subst e1 e2
      simp
    | i + 1, e1, e2 => simp at e1
theorem upd_swap {H : Hp} {a d : Addr} {o u u2 : HO} (ne : d ≠ a) : upd (upd (upd H d u) a o) d u2 = upd (upd H d u2) a o := by
  funext b
  by_cases h1 : b = d
  · subst h1
    rw [upd_same, upd_ne ne, upd_same]
  · rw [upd_ne h1]
    by_cases h2 : b = a
    · subst h2
      rw [upd_same, upd_same]
    · rw [upd_ne h2, upd_ne h1, upd_ne h2, upd_ne h1]
theorem fnX2 (F : FunD K x qual (defArgs st) (defBody st) (defScope st) [] [] f fd) (S : FnScope [y, v, v2] [y, v, v2] (defScope st)) (O : OxG K (T.cls ec)) (hn : T.names ec = [fld, fld2]) (no : NoAttr K (T.cls ec) fld) (no2 : NoAttr K (T.cls ec) fld2) (nf : (fld == fld2) = false)
    (hb : ∀ (cdv : Value) (A : Around) (outer : List Env) (s : Shared) (H : Hp) (E : XK), PSs (cxOf (L2.CX P w) P w K mg base [y, v, v2] qual (defScope st) f cdv A outer s H E) (defBody st) (tSeq (tXst K fld (tVar 0) (tVar 1)) (tXst K fld2 (tVar 0) (tVar 2)))) :
    FnOk P w K mg base (L2.CX P w) 1 f fd [y, v, v2] (spX T ec) := by
  refine F.ok (k := 0) S (fun vs H Q E h => ?_) (fun cdv A outer s H vs Q E hr h => ?_)
  · obtain ⟨a, ws, rfl, hl, _⟩ := h
    rw [List.length_cons, hl, hn]
    rfl
  · obtain ⟨a, ws, rfl, hl, ha, q⟩ := h
    rw [hn] at hl
    obtain ⟨y1, y2, rfl⟩ : ∃ y1 y2, ws = [y1, y2] := match ws, hl with | [y1, y2], _ => ⟨y1, y2, rfl⟩
    refine ⟨_, hb cdv A outer s H E, ⟨y1, rfl, .ref a, rfl, a, _, rfl, O, no, .inl ⟨ha, fun d hd ne => ⟨y2, rfl, .ref a, rfl, a, _, rfl, O, no2, .inr ⟨d, [(fld, y1)], upd_same, by rw [upd_ne ne, upd_same], (show 1 ≤ 900 by decide), ?_⟩⟩⟩⟩⟩
    rw [upd_swap ne]
    refine q d _ hd ne fun i n v e1 e2 => ?_
    rw [hn] at e1
    match i, e1, e2 with
    | 0, e1, e2 =>
      simp only [List.getElem?_cons_zero, Option.some.injEq] at e1 e2
      subst e1 e2
      simp [List.lookup, nf]
    | 1, e1, e2 =>
      simp only [List.getElem?_cons_succ, List.getElem?_cons_zero, Option.some.injEq] at e1 e2
      subst e1 e2
      simp [List.lookup]
    | i + 2, e1, e2 => simp at e1
end
/-! ### raise -/
section
variable {X : Cx} {e : Expr} {es : List Expr} {ta : TA} {p pos : Pos}
/-- C(e, ..) that is to be raised -/
theorem pmk_ox {CX : CXT} {x : Str} {C fI : Addr} {k : Nat} {fd : FuncData} {ps : List Str} {sp : Sp} (T : OxG X.K C) (me : Meth X.K C "__init__" fI) (F1 : FnOk X.prog X.w X.K X.mg X.base CX k fI fd ps sp) (hr : Room (k + 1) X.A) (hb : Binds X.K fd ps []) (hx : Passes CX X (fun _ _ _ => False)) (hg : Gl X x) (hm : X.mg x = some (.ref C)) (ha : PA X (e :: es) ta)
    (hdb : (x == ("__debug__" : Str)) = false := by decide) (he : starEach (e :: es) X.env = (false, eval e X.env) :: starEach es X.env := by rfl) (hpl : (backTo pos (starEach es X.env)).any (·.1) = false := by rfl) :
    PMk X (.Call (.Name x p) (e :: es) [] pos) (tMkO C sp [] ta) := by
  intro pins s σ H Q I h
  obtain ⟨B, n, i, bmB, nm, q, N, bs, bm, sn, sub, ab, col, dd, k0, k1, k2, k3, k5, ba, hC, tl⟩ := T.cls
  refine wpAny_Call_Name_kw (ld_glob I hg hm (PySem.W.callWith_K (h₀ := X.base) I.ok.mod.kin T.kp (thn (ha.run pos pins s σ H _ I h) fun us s1 ⟨vs, H1, I1, r1, hz, q1⟩ => ⟨I1.kIn, ?_⟩) he hpl) hdb)
  show wpAny _ _ (call (.ref C) us) _ _ _
  obtain ⟨hp, g, dr, tk, os⟩ := s1
  have le : hp.objs.size ≤ hp.objs.size + 1 := Nat.le_succ _
  have hq := q1 (hp.objs.size + 1) (I1.hok.fresh le)
  have up : ∀ b o, hp.get? b = some o → ((hp.push (PySem.W.kdv_tup us)).push (PySem.HandSPX.excO C hp.objs.size)).get? b = some o := fun b o z => Heap.get?_push_of_some _ (Heap.get?_push_of_some _ z)
  have at1 : ((hp.push (PySem.W.kdv_tup us)).push (PySem.HandSPX.excO C hp.objs.size)).get? (hp.objs.size + 1) = some (PySem.HandSPX.excO C hp.objs.size) := by heap_get
  have J := I1.laid (t' := tk) (a := hp.objs.size + 1) (o := exo (hp.objs.size + 1) C none) up le (exo_ok at1)
  have r2 : Vals (V.ref (hp.objs.size + 1) :: (vs ++ [])) (Value.ref (hp.objs.size + 1) :: (us ++ [])) := .cons rfl (r1.append .nil)
  have hl : (Value.ref (hp.objs.size + 1) :: us ++ []).length = ps.length := r2.length.symm.trans (F1.len _ _ _ _ hq)
  have hus : us.length ≤ sizeLine := by
    rw [← Paired.length r1, sizeLine_eq]
    omega
  have go := F1.run _ X.stack _ _ ⟨Value.ref (hp.objs.size + 1) :: us, []⟩ _ _ _ (fun _ _ _ => False) (hr.make C us []) (J.env0.make C us []) (hb _ (Value.ref (hp.objs.size + 1) :: us) J.kIn hl) r2 hq
  refine wpAny_call (PySem.HandSPX.call_own ba.F (fun Y => PySem.W.excTail_contains Y bm tl) (I1.kIn _ _ hC) (PySem.W.looks_findIn I1.kIn me.at_) (fun self => PySem.W.bind_fn I1.kIn self (beq_iff_eq.mp me.fn)) hus (codeAny_mono go fun r z hz => ?_))
  match r, hz with
  | .error er, hz => exact hx pins σ _ _ er z J hz
  | .ok (.ret u), hz =>
    obtain ⟨v, H2, os2, bare2, un2, hok2, rv, ev, d, fs, ea, ed, hd1, q2⟩ := hz
    subst ev
    obtain ⟨h2, g2, d2, t2, os1⟩ := z
    exact ⟨rv, mk_end (raises_own T.isE T.ty) I1 le up un2 hok2 os2 bare2 ea ed hd1 q2⟩
end
def raiS (ec n : Nat) (fa : Slots → M (List D)) : Slots → M Out := fun ρ => bnd (fa ρ) fun ds => if ds.length = n then fun pt => .exc ec ds pt else fail
section
variable {X : Cx} {c : Cy} {W : WX} {σ : L2.St} {H H' : Hp} {O : List (Nat × Addr)} {ρ : Slots} {pt pt' : Pot}
theorem del_upd {H : Hp} {a d : Addr} {u o1 o2 o3 : HO} (ha : H a = none) (ne : d ≠ a) : upd (L2.del (upd (upd (upd H a o1) d o2) a o3) a) d u = upd H d u := by
  funext b
  by_cases h1 : b = d
  · subst h1
    rw [upd_same, upd_same]
  · rw [upd_ne h1, upd_ne h1]
    by_cases h2 : b = a
    · subst h2
      rw [L2.del_same, ha]
    · rw [L2.del_ne h2, upd_ne h2, upd_ne h1, upd_ne h2]
theorem ds_raise {ec n k : Nat} {x : Str} {e : Expr} {es : List Expr} {p pos pos' : Pos} {fI : Addr} {fd : FuncData} {ps : List Str} {fa : Slots → M (List D)} (tk : Takes X W) (T1 : OxG X.K (c.T.cls ec)) (me : Meth X.K (c.T.cls ec) "__init__" fI)
    (F1 : FnOk X.prog X.w X.K X.mg X.base (L2.CX X.prog X.w) k fI fd ps (spX c.T ec)) (hr : Room (k + 1) X.A) (hb : Binds X.K fd ps []) (hm : X.mg x = some (.ref (c.T.cls ec))) (hn : (c.T.names ec).length = n) (ha : PA X (e :: es) (dA c W fa)) (hc : X.calm = true := by rfl) (hn1 : n ≤ 1000 := by decide) (hg : Gl X x := by rfl)
    (hdb : (x == ("__debug__" : Str)) = false := by decide) (he : starEach (e :: es) X.env = (false, eval e X.env) :: starEach es X.env := by rfl) (hpl : (backTo pos (starEach es X.env)).any (·.1) = false := by rfl) :
    PS X (.Raise (some (.Call (.Name x p) (e :: es) [] pos)) none pos') (dS c W (raiS ec n fa)) := by
  refine ps_imp (ps_raise hc tk (pmk_ox T1 me F1 hr hb passL hg hm ha hdb he hpl)) fun E σ H ⟨O, ρ, pt, r, h⟩ => ⟨O, ρ, pt, r, (WO.bnd r h).imp fun ds p1 H1 _ s1 q vs rl => ?_⟩
  by_cases hl : ds.length = n
  · rw [if_pos hl] at q
    have lv := RL.len rl
    refine ⟨by omega, fun a hfa => ⟨a, vs, by rw [List.append_nil], by rw [← lv, hl, hn], upd_same, fun d fl hd ne hfl => ⟨rfl, d, fl, upd_same, by rw [upd_ne ne, upd_same], by rw [← upd_ne (H := H1) (o := exo a (c.T.cls ec) none) ne]; exact hd, ?_⟩⟩⟩
    have hd1 : H1 d = none := by rw [← upd_ne (H := H1) (o := exo a (c.T.cls ec) none) ne]; exact hd
    rw [del_upd hfa ne]
    have r1 := r.stp s1
    have st := Stp.new (o := .xd fl) r1.pot hd1
    have r2 := r1.stp st
    refine q (.ref (c.T.cls ec)) (some d) σ _ r2.fin ⟨rfl, .inr ⟨d, fl, vs, rfl, Hd.at_new (fun z => r1.fresh hd1 (List.mem_append_left _ z)), hfl, by rw [hl, hn], ?_⟩⟩
    exact RL.gr ((Hd.sub fun z h => List.mem_append_left _ h : Gr (Hd (hid c O) H1) (Hd c.S H1)).trans (Hd.new hd1)) rl
  · rw [if_neg hl] at q
    exact q.elim
end
end DF

set_option Elab.async false
set_option linter.all false
set_option maxRecDepth 100000
set_option maxHeartbeats 4000000
namespace DF
open PySem PySem.Spec PyProof.Rows L2
/-! ### try -/
/-- a clause of data: which classes it takes, the slot of its name, what it does -/
structure Ha where
  yes : Nat → Option Bool
  i : Nat
  g : Slots → M Out
def plainV : Option SV → Bool
  | some (.exv _ _) => false
  | _ => true
def endH (i : Nat) : Res Out → Res Out
  | .ok (.rt d) pt => .ok (.rt d) pt
  | _ => .stuck
def catchS (n : Nat) : List Ha → Nat → List D → Pot → Res Out
  | [], e, fs, pt => .exc e fs pt
  | h :: hs, e, fs, pt => match h.yes e with
    | some true => if h.i < n then endH h.i (h.g ((List.replicate n none).set h.i (some (.exv e fs))) pt) else .stuck
    | some false => catchS n hs e fs pt
    | none => .stuck
def tryS (n : Nat) (g : Slots → M Out) (hs : List Ha) : Slots → M Out := fun ρ pt => match g ρ pt with
  | .exc e fs pt' => catchS n hs e fs pt'
  | r => r
inductive HaOk (X : Cx) (c : Cy) : List ExceptHandler → List Cl → List Ha → Prop
  | nil : HaOk X c [] [] []
  | cons {x n : Str} {cv : Value} {i : Nat} {st : Stmt} {sts : List Stmt} {p1 p2 : Pos} {hs : List ExceptHandler} {l : List Cl} {hd : List Ha} {yes : Nat → Option Bool} {g : Slots → M Out} (nm : Names X x cv) (hi : X.N[i]? = some n) (hl : X.env.kindOf n = some .local)
      (hy : ∀ e b, yes e = some b → PySem.W.exmOne X.K (.ref (c.T.cls e)) cv = some b)
      (su : ∀ (a : Addr) (oe : Obj) (cls : Value) (d : Option Addr) (pn : List (Addr × Obj)), Zc cls d oe → (∃ vs, oe.data = .fields vs) → PSs (X.suite a ((a, oe) :: pn)) (st :: sts) (dS { c with x := { c.x with a := a, cls := cls, d := d } } W0 g)) (more : HaOk X c hs l hd) :
      HaOk X c (.ExceptHandler (some (.Name x p1)) (some n) (st :: sts) p2 :: hs) ((cv, i, fun a cls d => dS { c with x := { c.x with a := a, cls := cls, d := d } } W0 g) :: l) (⟨yes, i, g⟩ :: hd)
theorem HaOk.hdn {X : Cx} {c : Cy} {hs : List ExceptHandler} {l : List Cl} {hd : List Ha} (h : HaOk X c hs l hd) : HdN X hs l := by
  induction h with
  | nil => exact .nil
  | cons nm hi hl hy su more ih => exact .cons nm hi hl su ih
section
variable {X : Cx} {c : Cy} {W : WX} {σ : L2.St} {H H' : Hp} {O : List (Nat × Addr)} {ρ : Slots} {pt pt' : Pot}
theorem takes_len {Y : Cx} (tk : Takes Y W) : Takes Y (fun cls d _ H => ∀ τ : L2.St, τ.length = Y.N.length → W cls d τ H) := fun u s ⟨a, B, sI, pins, σ, H, cls, d, e, I, r1, r2, r3, r4, r5, r6, w⟩ => tk u s ⟨a, B, sI, pins, σ, H, cls, d, e, I, r1, r2, r3, r4, r5, r6, w σ I.len⟩
/-- nothing is known of the slots -/
theorem Fin.bare (f : Fin c H pt) (hp : c.p ∈ c.S) : RS c [] (List.replicate σ.length none) σ H pt :=
  ⟨f.pot, fun a o n h m => f.ext a o n h m, hp, f.hS, fun _ h => (nomatch h), .nil, .nil, List.length_replicate, fun _ h => (nomatch h), fun i s h => by
    rw [List.getElem?_replicate] at h
    split at h <;> cases h⟩
theorem SlotOk.x_ {c' : Cy} {i : Nat} {y : Option (Option V)} {s : SV} (e : c' = { c with x := c'.x }) (hl : c'.x.lf = c.x.lf ∧ c'.x.lc = c.x.lc ∧ c'.x.lq = c.x.lq) (np : plainV (some s) = true) (h : SlotOk c' O H i y s) : SlotOk c O H i y s := by
  obtain ⟨K, T, p, S, H0, me, x1⟩ := c
  obtain ⟨K', T', p', S', H0', me', x2⟩ := c'
  cases e
  cases s with
  | val d => exact h
  | own ds => exact h
  | ownd ds => exact h
  | slf k fs => exact h
  | raw v => exact h
  | exv e fs => cases np
  | lam =>
    obtain ⟨h1, h2⟩ := h
    simp only at hl
    obtain ⟨q1, q2, q3⟩ := hl
    refine ⟨?_, ?_⟩
    · rw [h1]
      show some (some (V.ref x2.lf)) = some (some (V.ref x1.lf))
      rw [q1]
    · show Hd _ H x1.lc = some (LamX.CodeO x1.lc x1.lq)
      rw [← q2, ← q3]
      exact h2
theorem RS.x_ {c' : Cy} (r : RS c' O ρ σ H pt) (e : c' = { c with x := c'.x }) (hl : c'.x.lf = c.x.lf ∧ c'.x.lc = c.x.lc ∧ c'.x.lq = c.x.lq) (np : ρ.all plainV = true) : RS c O ρ σ H pt := by
  have sl : ∀ i s, ρ[i]? = some (some s) → SlotOk c O H i σ[i]? s := fun i s h => (r.sl i s h).x_ e hl (List.all_eq_true.mp np _ (List.mem_of_getElem? h))
  obtain ⟨K, T, p, S, H0, me, x1⟩ := c
  obtain ⟨K', T', p', S', H0', me', x2⟩ := c'
  cases e
  exact ⟨r.pot, fun a o n h m => r.ext a o n h m, r.hp, r.hS, r.new, r.nd, r.nf, r.len, r.ow, sl⟩
theorem catch_ok {E : Ends} {n : Nat} (hp : c.p ∈ c.S) (hX : c.K = X.K) {hs : List ExceptHandler} {l : List Cl} {hd : List Ha} (h : HaOk X c hs l hd) {e : Nat} {fs : List D} {cls : Value} {dd : Option Addr} (hl : σ.length = n) (f : Fin c H pt) (rx : RX c H e fs cls dd)
    (w : WO c W E [] H (catchS n hd e fs pt)) : wNam X.K W E l cls dd σ H := by
  induction h with
  | nil => exact w cls dd σ H f rx
  | @cons x nm1 cv i st sts p1 p2 hs2 l2 hd2 yes g nm hi hln hy su more ih =>
    unfold catchS at w
    simp only at w
    cases ey : yes e with
    | none => rw [ey] at w; exact w.elim
    | some b =>
      rw [ey] at w
      have em := hy e b ey
      refine ⟨b, by rw [rx.1]; exact em, fun hb a na => ?_, fun hb => ?_⟩
      · subst hb
        simp only at w
        by_cases hin : i < n
        · rw [if_pos hin] at w
          have r0 : RS { c with x := { c.x with a := a, cls := cls, d := dd } } [] (List.replicate σ.length none) σ H pt := Fin.bare (c := { c with x := { c.x with a := a, cls := cls, d := dd } }) ⟨f.pot, fun a o n h m => f.ext a o n h m, f.hS⟩ hp
          have r1 : RS { c with x := { c.x with a := a, cls := cls, d := dd } } [] ((List.replicate n none).set i (some (.exv e fs))) (σ.set i (some (.ref a))) H pt := by
            refine ⟨r0.pot, fun a o n h m => r0.ext a o n h m, r0.hp, r0.hS, r0.new, r0.nd, r0.nf, by rw [List.length_set, List.length_set, List.length_replicate, hl], fun _ h => (nomatch h), fun j s hj => ?_⟩
            by_cases ej : j = i
            · subst ej
              rw [List.getElem?_set_self (by rw [List.length_replicate]; exact hin)] at hj
              cases hj
              refine ⟨List.getElem?_set_self (by rw [hl]; exact hin), ?_⟩
              have hh : hid { c with x := { c.x with a := a, cls := cls, d := dd } } [] = c.S := List.append_nil _
              rw [hh]
              exact rx
            · rw [List.getElem?_set_ne (Ne.symm ej), List.getElem?_replicate] at hj
              split at hj <;> cases hj
          refine ⟨[], _, pt, r1, ?_⟩
          cases er : g ((List.replicate n none).set i (some (.exv e fs))) pt with
          | stuck => rw [er] at w; exact w.elim
          | exc _ _ _ => rw [er] at w; exact w.elim
          | ok o p1 =>
            rw [er] at w
            cases o with
            | bk _ => exact w.elim
            | ct _ => exact w.elim
            | rt d => exact fun v H1 f1 rv => w v H1 ⟨f1.pot, fun a o n h m => f1.ext a o n h m, f1.hS⟩ rv
            | nx ρ1 => exact w.elim
        · rw [if_neg hin] at w
          exact w.elim
      · subst hb
        exact ih w
theorem endH_end {E : Ends} {i : Nat} {H1 : Hp} {r : Res Out} (w : WO c W E O H (endH i r)) : WO c W E [] H1 (endH i r) := by
  cases r with
  | stuck => exact w
  | exc _ _ _ => exact w.elim
  | ok o p1 =>
    cases o with
    | rt d => exact w
    | nx _ => exact w.elim
    | bk _ => exact w.elim
    | ct _ => exact w.elim
theorem catch_end {E : Ends} {n : Nat} {e : Nat} {fs : List D} {H1 : Hp} : ∀ {hd : List Ha}, WO c W E O H (catchS n hd e fs pt) → WO c W E [] H1 (catchS n hd e fs pt)
  | [], w => w
  | h :: hd, w => by
    unfold catchS at w ⊢
    cases ey : h.yes e with
    | none => rw [ey] at w; exact w.elim
    | some b =>
      rw [ey] at w
      cases b with
      | false => exact catch_end w
      | true =>
        simp only at w ⊢
        by_cases hin : h.i < n
        · rw [if_pos hin] at w ⊢
          exact endH_end w
        · rw [if_neg hin] at w
          exact w.elim
theorem ds_try {n : Nat} {body : List Stmt} {h1 : ExceptHandler} {hs : List ExceptHandler} {l : List Cl} {hd : List Ha} {g : Slots → M Out} {pos : Pos} (hX : c.K = X.K) (nd : X.N.Nodup) (tk : Takes X W)
    (hb : ∀ (E1 : XK) (pn : List (Addr × Obj)) (xe : Value → Shared → Prop), Takes (X.tr pn xe) (fun cls d _ H => E1 cls d H) → PassesOwn (model X.prog X.w) X.A X.env xe → PSs (X.tr pn xe) body (dS c (fun cls d _ H => E1 cls d H) g)) (hk : HaOk X c (h1 :: hs) l hd)
    (hn : X.N.length = n := by rfl) (es : X.stack = X.env :: X.outer := by rfl) (ef : X.env.frame = some X.env.locals := by rfl) : PS X (.Try body (h1 :: hs) [] [] pos) (dS c W (tryS n g hd)) := by
  refine ps_imp (try_named (tb := fun W1 => dS c (fun cls d _ H => ∀ τ : L2.St, τ.length = X.N.length → W1 cls d τ H) g) es ef nd tk (fun W1 pn xe tk1 po => hb (fun cls d H => ∀ τ : L2.St, τ.length = X.N.length → W1 cls d τ H) pn xe (takes_len tk1) po) hk.hdn) fun E σ H ⟨O, ρ, pt, r, h⟩ => ⟨O, ρ, pt, r, ?_⟩
  unfold tryS at h
  cases e : g ρ pt with
  | ok o p1 =>
    rw [e] at h
    cases o with
    | nx _ => exact h
    | bk _ => exact h
    | ct _ => exact h
    | rt _ => exact h
  | stuck => rw [e] at h; exact h
  | exc k fs p1 =>
    rw [e] at h
    intro cls dd τ0 H1 f rx τ hl
    have w : WO c W E [] H1 (catchS n hd k fs p1) := catch_end h
    exact catch_ok r.hp hX hk (hl.trans hn) f rx w
end
end DF

set_option Elab.async false
set_option linter.all false
set_option maxRecDepth 100000
set_option maxHeartbeats 4000000
namespace DF
open PySem PySem.Spec PyProof.Rows L2
/-! ### a field of the exception that was caught -/
def exAt (ec j : Nat) : Option (Option SV) → Option D
  | some (some (.exv e fs)) => if e = ec then fs[j]? else none
  | _ => none
theorem exAt_some {ec j : Nat} {x : Option (Option SV)} {d : D} (h : exAt ec j x = some d) : ∃ fs, x = some (some (.exv ec fs)) ∧ fs[j]? = some d := by
  unfold exAt at h
  split at h
  · rename_i e fs
    by_cases he : e = ec
    · subst he
      rw [if_pos rfl] at h
      exact ⟨fs, rfl, h⟩
    · rw [if_neg he] at h
      cases h
  · cases h
def xfE (i ec j : Nat) : Slots → M D := fun ρ => opt (exAt ec j ρ[i]?)
section
variable {X : Cx} {c : Cy} {W : WX} {σ : L2.St} {H H' : Hp} {O : List (Nat × Addr)} {ρ : Slots} {pt pt' : Pot}
theorem de_xf {i ec j : Nat} {n f : Str} {a : Addr} {oe : Obj} {cls : Value} {d : Option Addr} {pn : List (Addr × Obj)} {p pos : Pos} (T1 : XfC X.K (c.T.cls ec)) (no : NoAttr X.K (c.T.cls ec) f) (hj : (c.T.names ec)[j]? = some f) (hz : Zc cls d oe) (hf : ∃ vs, oe.data = .fields vs)
    (hN : X.N[i]? = some n := by rfl) (hv : Vis X.env.scope n := by first | exact Or.inl rfl | exact Or.inr (Or.inl rfl) | exact Or.inr (Or.inr rfl)) (hd : (n == ("__debug__" : Str)) = false := by decide) (hcd : (n == ("__classdict__" : Str)) = false := by decide)
    (hb : attributeBase (.Name n p) f X.env (eval (.Name n p) X.env) = eval (.Name n p) X.env := by rfl) :
    PE (X.suite a ((a, oe) :: pn)) (.Attribute (.Name n p) f pos) (dE { c with x := { c.x with a := a, cls := cls, d := d } } W (xfE i ec j)) := by
  refine pe_imp (pe_xf (X := X) (C := c.T.cls ec) T1 no hz hf (pe_var (X := X.suite a ((a, oe) :: pn)) (i := i) hN hv hd hcd) hb) fun σ H Q ⟨O, ρ, pt, r, h⟩ => ?_
  obtain ⟨y, ey, hq⟩ := Wg.opt h r.pot
  obtain ⟨fs, es, ey⟩ := exAt_some ey
  obtain ⟨e1, e2, e3⟩ := r.sl i _ es
  rcases e3 with ⟨rfl, _⟩ | ⟨d0, fl, vs, q1, q2, q3, q4, q5⟩
  · simp at ey
  · obtain ⟨v, ev, rv⟩ := RL.getD q5 ey
    exact ⟨.ref a, e1, rfl, e2, d0, fl, v, q1, Hd.le _ _ q2, q3 j f v hj ev, hq v rv⟩
/-! ### a lambda without parameters, handed to a def -/
def noOwnA (ρ : Slots) : Bool := ρ.all fun s => match s with
  | some v => !isOwn v
  | none => true
theorem own_nil (r : RS c O ρ σ H pt) (h : noOwnA ρ = true) : O = [] := by
  cases O with
  | nil => rfl
  | cons q O =>
    obtain ⟨s, e, o⟩ := r.ow q List.mem_cons_self
    have := List.all_eq_true.mp h _ (List.mem_of_getElem? e)
    simp only [o] at this
    cases this
/-- what the lambda means at H -/
def Lam (K : PySem.W.Frag) (T : Tb) (p : Addr) (S : List Addr) (H : Hp) (tl : XK → Hp → VK → Prop) (m : M D) : Prop := ∀ (E : XK) (H1 : Hp) (Q1 : VK) (p1 : Pot), Stp T.tb p H H1 p1 → Wf ⟨K, T, p, S, H1, 0, x0⟩ H1 Q1 E (m p1) → tl E H1 Q1
def TTd (K : PySem.W.Frag) (T : Tb) (hm : M D → M D) : (XK → Hp → VK → Prop) → Hp → VK → Prop := fun tl H Q => ∃ p S pt m, p ∈ S ∧ (∀ a ∈ S, ∃ o, H a = some o ∧ mt o = true) ∧ Pots T.tb p H pt ∧ Lam K T p S H tl m ∧ Wf ⟨K, T, p, S, H, 0, x0⟩ H Q (fun _ _ _ => False) (hm m pt)
def lamM (n : Nat) (g : M D → Slots → M Out) : M D → M D := fun m => bnd (g m (some .lam :: List.replicate n none)) fun o => match o with
  | .rt d => ret d
  | .nx _ => ret .non
  | _ => fail
def isLam : Option (Option SV) → Bool
  | some (some .lam) => true
  | _ => false
def actE (m : M D) : Slots → M D := fun ρ => if isLam ρ[0]? && noOwnA ρ then m else fail
abbrev xl (f c' : Addr) (q : Str) : Xc := ⟨0, .none, none, f, c', q⟩
theorem Wf.wg {K : PySem.W.Frag} {T : Tb} {p : Addr} {S : List Addr} {E : XK} {Q : VK} {r : Res D} (hK : c.K = K) (hT : c.T = T) (hp : c.p = p) (hS : c.S = S) (h : Wg c (fun cls d _ H => E cls d H) σ H (fun d _ H' => ∀ v, c.R (Hd c.S H') d v → Q v H') r) : Wf ⟨K, T, p, S, H, 0, x0⟩ H Q E r := by
  subst hK hT hp hS
  cases r with
  | ok d pt => exact fun v H' st rv => h H' st v rv
  | exc e fs pt => exact fun cls dd H' st rx => h cls dd H' st rx
  | stuck => exact h
theorem Wf.to_wg {K : PySem.W.Frag} {T : Tb} {p : Addr} {S : List Addr} {E : XK} {Q : VK} {r : Res D} (hK : c.K = K) (hT : c.T = T) (hp : c.p = p) (hS : c.S = S) (h : Wf ⟨K, T, p, S, H, 0, x0⟩ H Q E r) : Wg c (fun cls d _ H => E cls d H) σ H (fun d _ H' => ∀ v, c.R (Hd c.S H') d v → Q v H') r := by
  subst hK hT hp hS
  cases r with
  | ok d pt => exact fun H' st v rv => h v H' st rv
  | exc e fs pt => exact fun cls dd H' st rx => h cls dd H' st rx
  | stuck => exact h
/-- the def that calls the lambda -/
theorem gives_of {T : Tb} {N : List Str} {x a q : Str} {sg : Scope} {g0 : Addr} {cdg : Value} {bg : List Stmt} {g : M D → Slots → M Out} {n : Nat} (hN : N.length = n + 1)
    (hb : ∀ (f c' : Addr) (s : Shared) (H : Hp) (p : Addr) (S : List Addr) (m : M D),
      (∀ (E1 : XK) (pn : List (Addr × Obj)) (xe : Value → Shared → Prop) (p1 p2 : Pos), Takes ((cxOf C8.CX0 X.prog X.w X.K X.mg X.base N x sg g0 cdg X.A X.stack s H C8.E0).tr pn xe) (fun cls d _ H => E1 cls d H) →
        PE ((cxOf C8.CX0 X.prog X.w X.K X.mg X.base N x sg g0 cdg X.A X.stack s H C8.E0).tr pn xe) (.Call (.Name a p1) [] [] p2) (dE ⟨X.K, T, p, S, H, 0, xl f c' q⟩ (fun cls d _ H => E1 cls d H) (actE m))) →
      PSs (cxOf C8.CX0 X.prog X.w X.K X.mg X.base N x sg g0 cdg X.A X.stack s H C8.E0).nox bg (dS ⟨X.K, T, p, S, H, 0, xl f c' q⟩ W0 (g m))) :
    LamX.GivesTo X N x sg g0 cdg bg a q (TTd X.K T (lamM n g)) := by
  intro f c' s H Q tl act hc h
  obtain ⟨p, S, pt, m, hp, hS, hpot, hL, hw⟩ := h
  have nS : c' ∉ S := fun z => by
    obtain ⟨o, e, mo⟩ := hS c' z
    rw [hc] at e
    have e2 : LamX.CodeO c' q = o := Option.some.inj e
    rw [← e2] at mo
    cases mo
  have hid0 : hid (⟨X.K, T, p, S, H, 0, xl f c' q⟩ : Cy) [] = S := List.append_nil _
  refine ⟨_, hb f c' s H p S m fun E1 pn xe p1 p2 tk => ?_, ⟨[], some .lam :: List.replicate n none, pt, ?_, ?_⟩⟩
  · refine pe_imp (act (fun cls d _ H => E1 cls d H) pn xe E1 p1 p2 tk fun _ _ _ _ z => z) fun σZ HZ Q1 ⟨O1, ρ1, pt1, r1, h1⟩ => ?_
    unfold actE at h1
    by_cases hz : (isLam ρ1[0]? && noOwnA ρ1) = true
    · rw [if_pos hz] at h1
      obtain ⟨z1, z2⟩ := Bool.and_eq_true_iff.mp hz
      have eO := own_nil r1 z2
      subst eO
      have es : ρ1[0]? = some (some .lam) := by
        unfold isLam at z1
        split at z1
        · assumption
        · cases z1
      obtain ⟨e1, e2⟩ := r1.sl 0 _ es
      refine ⟨e1, Hd.le _ _ e2, hL E1 HZ Q1 pt1 ⟨fun a o n e mm => r1.ext a o n e mm, r1.pot⟩ ?_⟩
      refine Wf.wg (c := ⟨X.K, T, p, S, H, 0, xl f c' q⟩) (σ := σZ) rfl rfl rfl rfl ?_
      rw [hid0] at h1
      exact h1
    · rw [if_neg hz] at h1
      exact h1.elim
  · refine ⟨hpot, fun _ _ _ e _ => e, hp, hS, fun _ z => (nomatch z), .nil, .nil, ?_, fun _ z => (nomatch z), fun i sv hi => ?_⟩
    · unfold L2.start
      simp [hN]
    · cases i with
      | zero =>
        simp only [List.getElem?_cons_zero, Option.some.injEq] at hi
        subst hi
        refine ⟨rfl, ?_⟩
        rw [hid0]
        exact Hd.out nS hc
      | succ i =>
        rw [List.getElem?_cons_succ, List.getElem?_replicate] at hi
        split at hi <;> cases hi
  · unfold lamM DF.bnd at hw
    cases e : g m (some .lam :: List.replicate n none) pt with
    | stuck => rw [e] at hw; exact hw
    | exc _ _ _ =>
      rw [e] at hw
      exact fun cls dd τ H1 fi rx => hw cls dd H1 ⟨fun a o n h m => fi.ext a o n h m, fi.pot⟩ rx
    | ok o p1 =>
      rw [e] at hw
      cases o with
      | nx ρ1 => exact fun O' σ' H' rs _ => hw .non H' ⟨fun a o n h m => rs.ext a o n h m, rs.pot⟩ (by simp [Cy.R, R])
      | rt d => exact fun v H' fi rv => hw v H' ⟨fun a o n h m => fi.ext a o n h m, fi.pot⟩ rv
      | bk ρ1 => exact hw.elim
      | ct ρ1 => exact hw.elim
/-- what a lambda sees of the slots -/
def clr1 : Option SV → Option SV
  | some v => if isOwn v then none else some v
  | none => none
def clrO (ρ : Slots) : Slots := ρ.map clr1
theorem clr_at {i : Nat} {s : SV} (h : (clrO ρ)[i]? = some (some s)) : ρ[i]? = some (some s) ∧ isOwn s = false := by
  unfold clrO at h
  rw [List.getElem?_map] at h
  cases e : ρ[i]? with
  | none => rw [e] at h; cases h
  | some x =>
    rw [e] at h
    cases x with
    | none => cases h
    | some v =>
      have h : clr1 (some v) = some s := Option.some.inj h
      have h : (if isOwn v then none else some v) = some s := h
      cases hv : isOwn v with
      | true => rw [hv] at h; cases h
      | false =>
        rw [hv] at h
        cases h
        exact ⟨rfl, hv⟩
theorem RS.clr (r : RS c O ρ σ H pt) : RS { c with S := hid c O } [] (clrO ρ) σ H pt := by
  have hid0 : hid { c with S := hid c O } [] = hid c O := List.append_nil _
  refine ⟨r.pot, fun a o n e m => r.ext a o n e m, List.mem_append_left _ r.hp, fun a h => ?_, fun _ z => (nomatch z), .nil, .nil, by unfold clrO; rw [List.length_map]; exact r.len, fun _ z => (nomatch z), fun i s h => ?_⟩
  · rcases List.mem_append.mp h with h | h
    · exact r.hS a h
    · obtain ⟨q, hq, rfl⟩ := List.mem_map.mp h
      exact (r.new q hq).2.2.2
  · obtain ⟨h1, h2⟩ := clr_at h
    have z := r.sl i s h1
    cases s with
    | val d =>
      obtain ⟨v, e, rv⟩ := z
      exact ⟨v, e, by rw [hid0]; exact rv⟩
    | exv e fs =>
      obtain ⟨e1, e2⟩ := z
      refine ⟨e1, ?_⟩
      rw [hid0]
      exact e2
    | lam =>
      obtain ⟨e1, e2⟩ := z
      refine ⟨e1, ?_⟩
      rw [hid0]
      exact e2
    | raw v => exact z
    | own _ => cases h2
    | ownd _ => cases h2
    | slf _ _ => cases h2
def lamcE (hm : M D → M D) (fb : Slots → M D) : Slots → M D := fun ρ pt => match hm (fb (clrO ρ)) pt with
  | .ok d p => .ok d p
  | _ => .stuck
theorem de_lam {x a : Str} {g0 c1 P1 : Addr} {k : Nat} {pg : Arguments} {bg : List Stmt} {sg : Scope} {dvs : List V} {kws : List (Str × V)} {fd : FuncData} {Ng : List Str} {params : Arguments} {body : Expr} {scope : Scope} {p lpos pos : Pos} {hm : M D → M D} {fb : Slots → M D}
    (hK : c.K = X.K) (gx : X.mg x = some (.ref g0)) (F : FunD X.K x x pg bg sg dvs kws g0 fd) (hb : L2.Binds X.K fd [a] []) (Sg : FnScope Ng [a] sg) (hG : ∀ cdv, LamX.GivesTo X Ng x sg g0 cdv bg a (X.env.qual ++ "<lambda>") (TTd X.K c.T hm))
    (TB : LamX.TabB X.base X.mg c1 P1) (hcode : X.env.code = .ref c1) (hmT : (P1, X.env.qual ++ "<lambda>") ∈ c.T.tb) (hu : ∀ p ∈ c.T.tb, p.1 = P1 → p.2 = X.env.qual ++ "<lambda>") (hr : Room (k + 2) X.A)
    (hbind : ∀ (q : Str) (cl : List (Str × Addr)) (pm cv ctv : Value), bindArgs (PySem.W.kla_fn "<lambda>" q params body scope cl pm cv ctv) ⟨[], []⟩ = pure [])
    (hbody : ∀ (S : List Addr) (A : Around) (outer : List Env) (s : Shared) (H : Hp) (E : XK) (f c' : Addr), Room k (A.deeper (LamX.lamEnv X scope s.heap.objs.size f c')) → PE (LamX.lamCx X A outer s H E scope f c') body (dE { c with S := S } (fun cls d _ H => E cls d H) fb))
    (L : LamX.LamS X.env.scope scope := by exact LamX.lamS_by (by kernel_rfl)) (hdef : defaultsOf params X.env = ([], []) := by rfl) (hg : Gl X x := by rfl) (hNg : Ng[0]? = some a := by rfl) (hva : Vis sg a := by first | exact Or.inl rfl | exact Or.inr (Or.inl rfl) | exact Or.inr (Or.inr rfl))
    (hdb : (x == ("__debug__" : Str)) = false := by decide) (hd : (a == ("__debug__" : Str)) = false := by decide) (hcd : (a == ("__classdict__" : Str)) = false := by decide) :
    PE X (.Call (.Name x p) [.Lambda params body scope lpos] [] pos) (dE c W (lamcE hm fb)) := by
  obtain ⟨oc, od, dV, kV, doc, pm, an, cdv, ct, osl, rfl, lk, hcg, _, _⟩ := F.ex
  refine pe_imp (LamX.pe_lamcall (T := c.T.tb) (TT := TTd X.K c.T hm) (t := fun E => fun σ H Q => ∃ S, dE { c with S := S } (fun cls d _ H => E cls d H) fb σ H Q) hg gx F.kp lk hcg hb Sg hNg hva (hG cdv) TB hcode hmT hu hr L hdef hbind (fun A outer s H E f c' hr => pe_ex fun S => hbody S A outer s H E f c' hr) hdb hd hcd) fun σ H Q ⟨O, ρ, pt, r, h⟩ => ⟨r.pot.tab, fun H1 eN T1 => ?_⟩
  unfold lamcE at h
  have st : Stp c.T.tb c.p H H1 pt := ⟨fun b o _ e m => eN b o e (fun ps z => by rw [z] at m; cases m), ⟨eN _ _ r.pot.at_ (fun ps z => by cases z), T1⟩⟩
  have r1 := (r.stp st).clr
  have hid0 : hid { c with S := hid c O } [] = hid c O := List.append_nil _
  refine ⟨c.p, hid c O, pt, fb (clrO ρ), r1.hp, r1.hS, r1.pot, fun E H2 Q2 p2 st2 w => ⟨hid c O, [], clrO ρ, p2, r1.stp st2, ?_⟩, ?_⟩
  · rw [hid0]
    exact Wf.to_wg (c := { c with S := hid c O }) hK rfl rfl rfl w
  · cases e : hm (fb (clrO ρ)) pt with
    | stuck => rw [e] at h; exact h
    | exc _ _ _ => rw [e] at h; exact h.elim
    | ok d p1 =>
      rw [e] at h
      intro v H2 st2 rv
      refine h H2 (st.trans st2) v ?_
      obtain ⟨K1, T1', p1', S1, H01, me1, x1⟩ := c
      simp only at hK
      subst hK
      exact rv
end
end DF

set_option Elab.async false
set_option linter.all false
set_option maxRecDepth 100000
set_option maxHeartbeats 4000000
namespace DF
open PySem PySem.Spec PyProof.Rows L2
/-! ### repr of lists, tuples, dicts -/
def kD : Key → PyData
  | .inl i => .int i
  | .inr x => .str x
mutual
def shD : D → Option PyData
  | .non => some .none
  | .bl b => some (.bool b)
  | .int i => some (.int i)
  | .str x => some (.str x)
  | .tup ds => (shL ds).map .tuple
  | .lst ds => (shL ds).map .list
  | .dct kvs => (shK kvs).map .dict
  | _ => none
def shL : List D → Option (List PyData)
  | [] => some []
  | d :: ds => (shD d).bind fun x => (shL ds).map fun xs => x :: xs
def shK : List (Key × D) → Option (List (PyData × PyData))
  | [] => some []
  | (k, d) :: ds => (shD d).bind fun x => (shK ds).map fun xs => (kD k, x) :: xs
end
/-- sys.modules is no list -/
def SysK (K : PySem.W.Frag) : Prop := ∃ o, K.lookup sysModules = some o ∧ o.cls ≠ .type "list"
section
variable {X : Cx} {c : Cy} {W : WX} {pins : List (Addr × Obj)} {σ : L2.St} {H H1 : Hp} {s : Shared}
theorem sys_ne (sy : SysK X.K) (I : Inv X pins σ H s) {a : Addr} {o : Obj} (h : s.heap.get? a = some o) (hc : o.cls = .type "list") : sysModules ≠ a := fun z => by
  obtain ⟨o1, l1, n1⟩ := sy
  have e := I.kIn _ _ l1
  rw [z, h] at e
  cases e
  exact n1 hc
mutual
theorem rd_D (sy : SysK X.K) (I : Inv X pins σ H s) (g : Gr H1 H) {T : Tb} {p : Addr} : ∀ {d : D} {v : V} {u : Value} {x : PyData}, R X.K T p H1 d v → RelV v u → shD d = some x → ∃ as, Reads s.heap u x as ∧ sysModules ∉ as
  | .non, _, _, _, h, r, e => by
    simp only [R] at h; simp only [shD] at e; cases e; subst h; cases r; exact ⟨_, .none, by simp⟩
  | .bl b, _, _, _, h, r, e => by
    simp only [R] at h; simp only [shD] at e; cases e; subst h; cases r; exact ⟨_, .bool b, by simp⟩
  | .int b, _, _, _, h, r, e => by
    simp only [R] at h; simp only [shD] at e; cases e; subst h; obtain ⟨t, rfl⟩ := r; exact ⟨_, .int b t, by simp⟩
  | .str b, _, _, _, h, r, e => by
    simp only [R] at h; simp only [shD] at e; cases e; subst h; obtain ⟨t, rfl⟩ := r; exact ⟨_, .str b t, by simp⟩
  | .tup ds, _, _, _, h, r, e => by
    simp only [R] at h
    simp only [shD] at e
    obtain ⟨a, vs, rfl, sq, rl⟩ := h
    cases q : shL ds with
    | none => rw [q] at e; cases e
    | some xs =>
      rw [q] at e
      cases e
      cases r
      obtain ⟨its, rv, ⟨o, ho, hc, n, hd⟩, _⟩ := I.tuple (g.sqt sq)
      obtain ⟨as, hr, hn⟩ := rd_L sy I g rl rv q
      exact ⟨as, .tuple ho hc hd (by simpa using hr), hn⟩
  | .lst ds, _, _, _, h, r, e => by
    simp only [R] at h
    simp only [shD] at e
    obtain ⟨a, vs, rfl, sq, rl⟩ := h
    cases q : shL ds with
    | none => rw [q] at e; cases e
    | some xs =>
      rw [q] at e
      cases e
      cases r
      obtain ⟨its, rv, ⟨o, n, ho, hc, _, hd⟩, _⟩ := I.list (.inl (.inl (g _ _ sq)))
      obtain ⟨as, hr, hn⟩ := rd_L sy I g rl rv q
      exact ⟨_, .list ho hc hd (by simpa using hr), fun z => (List.mem_cons.mp z).elim (sys_ne sy I ho hc) hn⟩
  | .dct ds, _, _, _, h, r, e => by
    simp only [R] at h
    simp only [shD] at e
    obtain ⟨a, es, rfl, he, rk⟩ := h
    cases q : shK ds with
    | none => rw [q] at e; cases e
    | some xs =>
      rw [q] at e
      cases e
      cases r
      obtain ⟨_, ns, vs, kv, o, en, ep, ho, ⟨hx, _, _⟩, hd, _, hp, _⟩ := I.hok a _ (g _ _ he)
      obtain ⟨as, bs, h1, h2, n1, n2⟩ := rd_K sy I g rk kv hp q
      refine ⟨_, .dict (kvs := xs) ho hx hd h1 h2, fun z => ?_⟩
      rw [List.cons_append, List.mem_cons, List.mem_append] at z
      rcases z with z | z | z
      · rw [← z] at ns
        simp at ns
      · exact n1 z
      · exact n2 z
  | .dcf _, _, _, _, _, _, e | .obj _ _, _, _, _, _, _, e | .ex _ _, _, _, _, _, _, e | .pot, _, _, _, _, _, e | .fn _, _, _, _, _, _, e | .cls _, _, _, _, _, _, e | .ty _, _, _, _, _, _, e => by simp only [shD] at e; cases e
theorem rd_L (sy : SysK X.K) (I : Inv X pins σ H s) (g : Gr H1 H) {T : Tb} {p : Addr} : ∀ {ds : List D} {vs : List V} {us : List Value} {xs : List PyData}, RL X.K T p H1 ds vs → Vals vs us → shL ds = some xs → ∃ as, ReadsAll s.heap us xs as ∧ sysModules ∉ as
  | [], _, _, _, h, r, e => by
    simp only [RL] at h
    simp only [shL] at e
    cases e
    subst h
    cases r
    exact ⟨_, .nil, by simp⟩
  | d :: ds, _, _, _, h, r, e => by
    simp only [RL] at h
    simp only [shL] at e
    obtain ⟨v, ws, rfl, rv, rl⟩ := h
    cases r with
    | cons ru rus =>
      cases q : shD d with
      | none => rw [q] at e; cases e
      | some x =>
        rw [q] at e
        cases q2 : shL ds with
        | none => rw [q2] at e; cases e
        | some xs =>
          rw [q2] at e
          cases e
          obtain ⟨as, h1, n1⟩ := rd_D sy I g rv ru q
          obtain ⟨bs, h2, n2⟩ := rd_L sy I g rl rus q2
          exact ⟨_, .cons h1 h2, fun m => (List.mem_append.mp m).elim n1 n2⟩
theorem rd_K (sy : SysK X.K) (I : Inv X pins σ H s) (g : Gr H1 H) {T : Tb} {p : Addr} : ∀ {ds : List (Key × D)} {vs : List (Key × V)} {us : List (Key × Value)} {en : List DictEntry} {xs : List (PyData × PyData)}, RK X.K T p H1 ds vs → KV vs us → Pairs (mixKind X.prog X.w) en us → shK ds = some xs →
      ∃ as bs, ReadsAll s.heap (en.map (·.key)) (xs.map (·.1)) as ∧ ReadsAll s.heap (en.map (·.val)) (xs.map (·.2)) bs ∧ sysModules ∉ as ∧ sysModules ∉ bs
  | [], _, _, _, _, h, r, pr, e => by
    simp only [RK] at h
    simp only [shK] at e
    cases e
    subst h
    cases r
    cases pr
    exact ⟨_, _, .nil, .nil, by simp, by simp⟩
  | (k, d) :: ds, _, _, _, _, h, r, pr, e => by
    simp only [RK] at h
    simp only [shK] at e
    obtain ⟨v, ws, rfl, rv, rl⟩ := h
    cases r with
    | @cons _ kv _ us ru rus =>
      obtain ⟨k1, u⟩ := kv
      obtain ⟨rfl, ru⟩ := ru
      cases pr with
      | @cons en0 _ ens _ pk pv ps =>
        cases q : shD d with
        | none => rw [q] at e; cases e
        | some x =>
          rw [q] at e
          cases q2 : shK ds with
          | none => rw [q2] at e; cases e
          | some xs =>
            rw [q2] at e
            cases e
            have pv' : en0.val = u := pv
            obtain ⟨as, h1, n1⟩ := rd_D sy I g rv ru q
            obtain ⟨as2, bs2, h2, h3, n2, n3⟩ := rd_K sy I g rl rus ps q2
            have hk : Reads s.heap en0.key (kD k) [] := by
              rcases keyIs_shape (show keyIs k en0.key = true from pk) with ⟨i, t, e1, e2⟩ | ⟨y, t, e1, e2⟩
              · rw [e1, e2]; exact .int i t
              · rw [e1, e2]; exact .str y t
            refine ⟨_, _, .cons hk h2, .cons (show Reads s.heap en0.val x as by rw [pv']; exact h1) h3, by simpa using n2, fun m => (List.mem_append.mp m).elim n1 n3⟩
end
/-- a container, to be looked at -/
theorem rd_B (sy : SysK X.K) (I : Inv X pins σ H s) (hK : c.K = X.K) {O : List (Nat × Addr)} {d : D} {v : V} {u : Value} {x : PyData} (h : RB c O H d v) (r : RelV v u) (e : shD d = some x) : ∃ as, Reads s.heap u x as ∧ sysModules ∉ as := by
  rcases h with h | ⟨i, a, ds, vs, e1, ev, m, ha, rl⟩ | ⟨i, a, ds, vs, e1, ev, m, ha, rl⟩
  · have h : R X.K c.T c.p (Hd (hid c O) H) d v := hK ▸ h
    exact rd_D sy I Hd.le h r e
  · subst e1
    subst ev
    have rl : RL X.K c.T c.p (Hd (hid c O) H) ds vs := hK ▸ rl
    have hR : R X.K c.T c.p H (.lst ds) (.ref a) := by
      simp only [R]
      exact ⟨a, vs, rfl, ha, RL.gr Hd.le rl⟩
    exact rd_D sy I (Gr.refl H) hR r e
  · subst e1
    subst ev
    have rk : RK X.K c.T c.p (Hd (hid c O) H) ds vs := hK ▸ rl
    have hR : R X.K c.T c.p H (.dct ds) (.ref a) := by
      simp only [R]
      exact ⟨a, vs, rfl, ha, RK.gr Hd.le rk⟩
    exact rd_D sy I (Gr.refl H) hR r e
def shOk (x : PyData) : Bool := x.showable && (decide (x.shown.length ≤ 1000000) && decide (x.depth ≤ 20))
def reprC (d : D) : Option D := (shD d).bind fun x => if shOk x then some (.str x.shown) else none
def reprG : List D → Option D
  | [.tup ds] => reprC (.tup ds)
  | [.lst ds] => reprC (.lst ds)
  | [.dct ds] => reprC (.dct ds)
  | xs => reprF xs
def rRc (X : Cx) : List V → Hp → VK → Prop := fun vs H Q => ∃ a x, vs = [.ref a] ∧ (∀ (pins : List (Addr × Obj)) (σ : L2.St) (s : Shared), Inv X pins σ H s → ∃ as, Reads s.heap (.ref a) x as ∧ sysModules ∉ as) ∧ shOk x = true ∧ Q (.str x.shown) H
theorem cr_reprC (hg : X.A.guards = some []) {k : Nat} (hr : Room k X.A) : CallR X (.builtin "repr") (rRc X) := by
  intro pins s σ H xs us Q I r h
  obtain ⟨a, x, rfl, hrd, hok, q⟩ := h
  cases r with
  | cons ra rn =>
    cases rn
    cases ra
    obtain ⟨as, hR, hn⟩ := hrd pins σ s I
    unfold shOk at hok
    simp only [Bool.and_eq_true, decide_eq_true_eq] at hok
    obtain ⟨h1, h3, h4⟩ := hok
    have hu := hr.un
    refine repr_of_reads' hR h1 (fun _ => hn) hg (by omega) (fun b o e => e) (fun h' u tk hk => ?_) (Nat.le_trans h3 (by decide))
    exact ⟨.str x.shown, H, I.kept hk, ⟨u, rfl⟩, q⟩
theorem repr_ok {O : List (Nat × Addr)} {xs : List D} {z : D} {vs : List V} {Q : VK} (rx : RBL c O H xs vs) (e : reprF xs = some z) (q : ∀ v, c.R (Hd (hid c O) H) z v → Q v H) : rRepr vs H Q := by
  unfold reprF at e
  split at e
  · split at e
    · rename_i hz
      cases e
      obtain ⟨v, rfl, h⟩ := rx.one
      rw [h.str]
      exact .inl ⟨_, rfl, hz, q _ (by simp [Cy.R, R])⟩
    · cases e
  · split at e
    · rename_i hz
      cases e
      obtain ⟨v, rfl, h⟩ := rx.one
      rw [h.int]
      exact .inr (.inl ⟨_, rfl, hz, q _ (by simp [Cy.R, R])⟩)
    · cases e
  · cases e
    obtain ⟨v, rfl, h⟩ := rx.one
    rw [h.bl]
    exact .inr (.inr (.inl ⟨_, rfl, q _ (by simp [Cy.R, R])⟩))
  · cases e
    obtain ⟨v, rfl, h⟩ := rx.one
    rw [h.non]
    exact .inr (.inr (.inr ⟨rfl, q _ (by simp [Cy.R, R])⟩))
  · cases e
theorem reprC_ok (sy : SysK X.K) (hK : c.K = X.K) {O : List (Nat × Addr)} {d z : D} {a : Addr} {Q : VK} (rv : RB c O H d (.ref a)) (e : reprC d = some z) (q : ∀ v, c.R (Hd (hid c O) H) z v → Q v H) : rRc X [.ref a] H Q := by
  unfold reprC at e
  cases q1 : shD d with
  | none => rw [q1] at e; cases e
  | some x =>
    rw [q1] at e
    simp only [Option.bind_some] at e
    by_cases ho : shOk x = true
    · rw [if_pos ho] at e
      cases e
      exact ⟨a, x, rfl, fun pins σ s I => rd_B sy I hK rv rfl q1, ho, q _ (by simp [Cy.R, R])⟩
    · rw [if_neg ho] at e
      cases e
theorem cd_reprG {k : Nat} (sy : SysK X.K) (hr : Rm True k X.A) (hK : c.K = X.K := by rfl) : CallD X c W (.builtin "repr") (pu1 reprG) := by
  refine cd_pu (cr_repr.or (cr_reprC (hr.gd trivial) hr.room)) fun O H xs z vs Q rx e q => ?_
  unfold reprG at e
  split at e
  · obtain ⟨v, rfl, h⟩ := rx.one
    obtain ⟨a, ws, rfl, _⟩ := h.tup
    exact .inr (reprC_ok sy hK h e q)
  · obtain ⟨v, rfl, h⟩ := rx.one
    obtain ⟨a, ws, rfl, _⟩ := h.lst
    exact .inr (reprC_ok sy hK h e q)
  · obtain ⟨v, rfl, h⟩ := rx.one
    obtain ⟨a, ws, rfl, _⟩ := h.dct
    exact .inr (reprC_ok sy hK h e q)
  · exact .inl (repr_ok rx e q)
end
end DF

set_option Elab.async false
set_option linter.all false
set_option maxRecDepth 100000
set_option maxHeartbeats 4000000
namespace DF
open PySem PySem.Spec PyProof.Rows L2
section
variable {gu : Prop} {X : Cx} {c : Cy} {W : WX} {σ : L2.St} {H H1 H' : Hp} {O : List (Nat × Addr)} {ρ : Slots} {pt pt' : Pot} {e a b o : Expr} {p p2 p3 pos apos cpos : Pos}
/-! ### constants of the module -/
theorem de_gint {x : Str} {i : Int} (h : ∃ t, X.mg x = some (.int i t)) (hg : Gl X x := by rfl) (hd : (x == ("__debug__" : Str)) = false := by decide) : PE X (.Name x pos) (dE c W (cE (.int i))) :=
  pe_imp (C8.pe_gc (v := .int i) hg (let ⟨t, e⟩ := h; ⟨_, e, t, rfl⟩) hd) fun σ H Q ⟨O, ρ, pt, r, q⟩ => Wg.here q r.pot _ (by simp [Cy.R, R])
theorem de_gstr {x : Str} {i : Str} (h : ∃ t, X.mg x = some (.str i t)) (hg : Gl X x := by rfl) (hd : (x == ("__debug__" : Str)) = false := by decide) : PE X (.Name x pos) (dE c W (cE (.str i))) :=
  pe_imp (C8.pe_gc (v := .str i) hg (let ⟨t, e⟩ := h; ⟨_, e, t, rfl⟩) hd) fun σ H Q ⟨O, ρ, pt, r, q⟩ => Wg.here q r.pot _ (by simp [Cy.R, R])
/-! ### {} -/
theorem de_dct0 : PE X (.Dict [] [] pos) (dE c W (cE (.dct []))) := pe_imp pe_dnewK fun σ H Q ⟨O, ρ, pt, r, q⟩ l hl => q _ (Stp.new r.pot hl) _ (by
  simp only [Cy.R, R]
  exact ⟨l, [], rfl, Hd.at_new (r.fresh hl), by simp [RK]⟩)
/-! ### a <= b <= c -/
def chI (f1 f2 : Int → Int → Bool) (fa fb fc : Slots → M D) : Slots → M D := fun ρ => bnd (fa ρ) fun x => bnd (fb ρ) fun y => bnd (opt (intOf x)) fun i => bnd (opt (intOf y)) fun j =>
  if f1 i j then bnd (fc ρ) fun z => bnd (opt (intOf z)) fun k => ret (.bl (f2 j k)) else ret (.bl false)
theorem ch_ok {f1 f2 : Int → Int → Bool} {fa fb fc : Slots → M D} {Q : VK} (h : dE c W (chI f1 f2 fa fb fc) σ H Q) : tChain (rI0 fun i j => .bl (f1 i j)) (rI0 fun i j => .bl (f2 i j)) (dE c W fa) (dE c W fb) (dE c W fc) σ H Q := by
  obtain ⟨O, ρ, pt, r, q⟩ := h
  refine ⟨O, ρ, pt, r, (Wg.bnd q).imp fun x p1 H1 _ s1 q v rv => ?_⟩
  have r1 := r.stp s1
  refine ⟨O, ρ, p1, r1, (Wg.bnd q).imp fun y p2 H2 _ s2 q w rw => ?_⟩
  have r2 := r1.stp s2
  obtain ⟨i, ei, q⟩ := Wg.opt (Wg.bnd q) r2.pot
  obtain ⟨j, ej, q⟩ := Wg.opt (Wg.bnd q) r2.pot
  rw [intOf_eq ei] at rv
  rw [intOf_eq ej] at rw
  simp only [Cy.R, R] at rv rw
  subst rv rw
  refine ⟨i, j, rfl, rfl, f1 i j, rfl, ?_⟩
  by_cases hf : f1 i j = true
  · rw [if_pos hf] at q
    rw [if_pos hf]
    refine ⟨O, ρ, p2, r2, (Wg.bnd q).imp fun z p3 H3 _ s3 q u ru => ?_⟩
    have r3 := r2.stp s3
    obtain ⟨k, ek, q⟩ := Wg.opt (Wg.bnd q) r3.pot
    rw [intOf_eq ek] at ru
    simp only [Cy.R, R] at ru
    subst ru
    exact ⟨j, k, rfl, rfl, Wg.here q r3.pot _ (by simp [Cy.R, R])⟩
  · rw [if_neg hf] at q
    rw [if_neg hf]
    exact Wg.here q r2.pot _ (by simp [Cy.R, R])
theorem de_ch {op op' : CmpOp} {f1 f2 : Int → Int → Bool} {fa fb fc : Slots → M D} {c3 : Expr} (o1 : OpR X (compareOp op) (rI0 fun i j => .bl (f1 i j))) (o2 : OpR X (compareOp op') (rI0 fun i j => .bl (f2 i j))) (ha : PE X a (dE c W fa)) (hb : PE X b (dE c W fb)) (hc : PE X c3 (dE c W fc))
    (hm : lastMarks [op, op'] [b, c3] = false := by with_unfolding_all rfl) : PE X (.Compare a [op, op'] [b, c3] pos) (dE c W (chI f1 f2 fa fb fc)) := pe_imp (pe_chain o1 o2 ha hb hc hm) fun σ H Q h => ch_ok h
theorem dt_ch {op op' : CmpOp} {f1 f2 : Int → Int → Bool} {fa fb fc : Slots → M D} {c3 : Expr} (o1 : OpR X (compareOp op) (rI0 fun i j => .bl (f1 i j))) (o2 : OpR X (compareOp op') (rI0 fun i j => .bl (f2 i j))) (ha : PE X a (dE c W fa)) (hb : PE X b (dE c W fb)) (hc : PE X c3 (dE c W fc))
    (hm : lastMarks [op, op'] [b, c3] = false := by with_unfolding_all rfl) : PT X (.Compare a [op, op'] [b, c3] pos) (dT c W (testE (chI f1 f2 fa fb fc))) := pt_imp (pt_chain o1 o2 ha hb hc hm) fun σ H Q h => by
  refine ch_ok (c := c) (W := W) ?_
  obtain ⟨O, ρ, pt, r, q⟩ := h
  refine ⟨O, ρ, pt, r, (Wg.bnd q).imp fun d p1 H1 _ s1 q v rv => ?_⟩
  obtain ⟨b, ed, q2⟩ := asB_ok q s1.pot
  subst ed
  exact ⟨b, by simpa [Cy.R, R] using rv, q2⟩
/-! ### in -/
def flatD : D → Bool
  | .non | .bl _ | .int _ | .str _ => true
  | _ => false
def eqF : D → D → Bool
  | .non, .non => true
  | .bl a, .bl b => a == b
  | .bl a, .int b => (if a then 1 else 0) == b
  | .int a, .bl b => a == (if b then 1 else 0)
  | .int a, .int b => a == b
  | .str a, .str b => a == b
  | _, _ => false
def inL (x : D) (ds : List D) : Option Bool := if flatD x && ds.all flatD then some (ds.any fun y => eqF y x) else none
def inB : D → D → Option Bool
  | x, .lst ds => inL x ds
  | x, .tup ds => inL x ds
  | .str x, .str z => match x.cps.toList with
    | [n] => some (decide (n ∈ z.cps.toList))
    | _ => none
  | _, _ => none
def inD (x y : D) : Option D := (inB x y).map .bl
def ninD (x y : D) : Option D := (inB x y).map fun b => .bl (!b)
theorem flat_v {d : D} {v : V} (h : RB c O H d v) (f : flatD d = true) : flatV v = true ∧ ∀ d' v', flatD d' = true → RB c O H d' v' → eqV v v' = eqF d d' := by
  have key : ∀ {d' : D} {v' : V}, flatD d' = true → RB c O H d' v' → (d' = .non ∧ v' = .non) ∨ (∃ b, d' = .bl b ∧ v' = .bl b) ∨ (∃ b, d' = .int b ∧ v' = .int b) ∨ (∃ b, d' = .str b ∧ v' = .str b) := fun {d' v'} f h => by
    cases d' <;> first | (simp [flatD] at f; done) | skip
    · exact .inl ⟨rfl, h.non⟩
    · exact .inr (.inl ⟨_, rfl, h.bl⟩)
    · exact .inr (.inr (.inl ⟨_, rfl, h.int⟩))
    · exact .inr (.inr (.inr ⟨_, rfl, h.str⟩))
  refine ⟨?_, fun d' v' f' h' => ?_⟩
  · rcases key f h with ⟨rfl, rfl⟩ | ⟨b, rfl, rfl⟩ | ⟨b, rfl, rfl⟩ | ⟨b, rfl, rfl⟩ <;> rfl
  · rcases key f h with ⟨rfl, rfl⟩ | ⟨b, rfl, rfl⟩ | ⟨b, rfl, rfl⟩ | ⟨b, rfl, rfl⟩ <;> rcases key f' h' with ⟨rfl, rfl⟩ | ⟨b', rfl, rfl⟩ | ⟨b', rfl, rfl⟩ | ⟨b', rfl, rfl⟩ <;> rfl
theorem flat_vs {x : D} {v : V} (hx : RB c O H x v) (fx : flatD x = true) : ∀ {ds : List D} {vs : List V}, c.RL (Hd (hid c O) H) ds vs → ds.all flatD = true → vs.all flatV = true ∧ inV v vs = ds.any fun y => eqF y x
  | [], _, h, _ => by simp only [Cy.RL, RL] at h; subst h; exact ⟨rfl, rfl⟩
  | d :: ds, _, h, f => by
    simp only [Cy.RL, RL] at h
    obtain ⟨w, ws, rfl, rw1, rl⟩ := h
    rw [List.all_cons, Bool.and_eq_true] at f
    obtain ⟨h1, h2⟩ := flat_vs hx fx rl f.2
    obtain ⟨k1, k2⟩ := flat_v (RB.of rw1) f.1
    refine ⟨by rw [List.all_cons, k1, h1]; rfl, ?_⟩
    unfold inV at h2 ⊢
    rw [List.any_cons, List.any_cons, k2 x v fx hx, h2]
theorem inB_ok {neg : Bool} {x y : D} {v w : V} {z : Bool} {Q : VK} (hK : c.K = X.K) (rx : RB c O H x v) (ry : RB c O H y w) (e : inB x y = some z) (q : Q (.bl (if neg then !z else z)) H) :
    rIn X.K neg v w H Q ∨ ∃ (n : Nat) (s : Str), v = .str ⟨#[n]⟩ ∧ w = .str s ∧ Q (.bl (if neg then !decide (n ∈ s.cps.toList) else decide (n ∈ s.cps.toList))) H := by
  have seq : ∀ {ds : List D} {a : Addr} {vs : List V}, w = .ref a → (SqL X.K H a vs ∨ SqT X.K H a vs) → c.RL (Hd (hid c O) H) ds vs → inL x ds = some z → rIn X.K neg v w H Q := fun {ds a vs} ew sq rl e => by
    unfold inL at e
    split at e
    · rename_i hf
      rw [Bool.and_eq_true] at hf
      cases e
      obtain ⟨h1, h2⟩ := flat_vs rx hf.1 rl hf.2
      exact ⟨a, vs, ew, sq, (flat_v rx hf.1).1, h1, by rw [h2]; exact q⟩
    · cases e
  unfold inB at e
  split at e
  · obtain ⟨a, vs, ew, ha, rl⟩ := ry.lst
    exact .inl (seq ew (.inl (.inl (.inl ha))) rl e)
  · obtain ⟨a, vs, ew, ha, rl⟩ := ry.tup
    exact .inl (seq ew (.inr (hK ▸ ha)) rl e)
  · rename_i x1 s1
    split at e
    · rename_i n hn
      cases e
      refine .inr ⟨n, s1, ?_, ry.str, q⟩
      rw [rx.str]
      obtain ⟨⟨l⟩⟩ := x1
      simp only at hn
      rw [hn]
    · cases e
  · cases e
theorem od_in (hK : c.K = X.K := by rfl) : OpD X c W (compareOp .In) (pu inD) := opd_pu (op_in_seq.or op_in_sign) fun O H x y z v w Q rx ry e q => by
  unfold inD at e
  cases e1 : inB x y with
  | none => rw [e1] at e; cases e
  | some b =>
    rw [e1] at e
    cases e
    exact inB_ok (neg := false) hK rx ry e1 (q _ (by simp [Cy.R, R]))
theorem od_nin (hK : c.K = X.K := by rfl) : OpD X c W (compareOp .NotIn) (pu ninD) := opd_pu (op_notIn_seq.or op_notIn_sign) fun O H x y z v w Q rx ry e q => by
  unfold ninD at e
  cases e1 : inB x y with
  | none => rw [e1] at e; cases e
  | some b =>
    rw [e1] at e
    cases e
    exact inB_ok (neg := true) hK rx ry e1 (q _ (by simp [Cy.R, R]))
/-! ### x[i] = v, of a list of one's own -/
def setL (ds : List D) (k : Int) (d : D) : Option (List D) := (ixN ds.length k).map fun n => ds.set n d
def setS (i : Nat) (fi f : Slots → M D) : Slots → M Out := fun ρ => bnd (f ρ) fun d => bnd (opt (ownOf ρ[i]?)) fun ds => bnd (fi ρ) fun k => bnd (opt (intOf k)) fun k => bnd (opt (setL ds k d)) fun ds' => ret (.nx (ρ.set i (some (.own ds'))))
theorem own_set {i : Nat} {ds ds' : List D} {a : Addr} {vs : List V} {d : D} {v : V} {k : Int} (r : RS c O ρ σ H pt) (m : (i, a) ∈ O) (ev : σ[i]? = some (some (.ref a))) (hl : i < ρ.length) (ha : H a = some (.lst vs)) (rl : c.RL (Hd (hid c O) H) ds vs) (rv : c.R (Hd (hid c O) H) d v) (e : setL ds k d = some ds') :
    ∃ n, ixN vs.length k = some n ∧ RS c O (ρ.set i (some (.own ds'))) σ (upd H a (.lst (vs.set n v))) pt ∧ Mv c O H O (upd H a (.lst (vs.set n v))) := by
  unfold setL at e
  rw [RL.len rl] at e
  cases en : ixN vs.length k with
  | none => rw [en] at e; cases e
  | some n =>
    rw [en] at e
    cases e
    obtain ⟨rs, mv⟩ := r.mut (s' := .own (ds.set n d)) m (o := .lst (vs.set n v)) (fun gr => ⟨a, vs.set n v, m, ev, upd_same, RL.set n (RL.gr gr rl) (R.gr gr rv)⟩) hl
    exact ⟨n, rfl, rs, mv⟩
theorem ds_set {i : Nat} {x : Str} {fi f : Slots → M D} (h : PE X e (dE c W f)) (hx : PE X a (dE c W fi)) (hN : X.N[i]? = some x := by rfl) (hv : Vis X.env.scope x := by first | exact Or.inl rfl | exact Or.inr (Or.inl rfl)) (hd : (x == ("__debug__" : Str)) = false := by decide) (hcd : (x == ("__classdict__" : Str)) = false := by decide)
    (ha : ∀ v, assign (.Subscript (.Name x p) a p3) X.env v = (do
      let ov ← holding [v] (eval (.Name x p) X.env)
      let iv ← holding [v, ov] (eval a X.env)
      standAt p3
      holding [v, ov, iv] (setItem ov iv v)
      release [v, ov, iv] []) := by intro _; rfl)
    (hs : swapsWithSole [.Subscript (.Name x p) a p3] e pos.line X.env = pure false := by rfl) (hw : swappedStores [.Subscript (.Name x p) a p3] e X.env = pure none := by rfl)
    (h1 : (assignEach [.Subscript (.Name x p) a p3] X.env).map (·.2) = [assign (.Subscript (.Name x p) a p3) X.env] := by rfl) :
    PS X (.Assign [.Subscript (.Name x p) a p3] e pos) (dS c W (setS i fi f)) := by
  refine ps_imp (ps_asg h (pg_sub (pe_var (i := i) hN hv hd hcd) hx set_list ha) hs hw h1) fun E σ H ⟨O, ρ, pt, r, h⟩ => ⟨O, ρ, pt, r, (WO.bnd r h).imp fun d p1 H1 _ s1 q v rv => ?_⟩
  have r1 := r.stp s1
  obtain ⟨ds, eo, q⟩ := Wg.opt (WO.bnd r1 q) r1.pot
  have es := ownOf_eq eo
  obtain ⟨ad, vs, m, ev, hal, rl⟩ := r1.sl i _ es
  refine ⟨_, ev, ⟨O, ρ, p1, r1, (WO.bnd r1 q).imp fun kd p2 H2 _ s2 q kv rk => ?_⟩⟩
  have r2 := r1.stp s2
  obtain ⟨k, ek, q⟩ := Wg.opt (WO.bnd r2 q) r2.pot
  rw [intOf_eq ek] at rk
  simp only [Cy.R, R] at rk
  subst rk
  obtain ⟨ds', es', q⟩ := Wg.opt (WO.bnd r2 q) r2.pot
  have g2 : Gr (Hd (hid c O) H1) (Hd (hid c O) H2) := s2.gr r1.pm
  obtain ⟨n, hn, rs, mv⟩ := own_set r2 m ev (List.getElem?_eq_some_iff.mp es).1 (s2.keep _ _ (r1.new _ m).2.1 hal) (RL.gr g2 rl) (R.gr g2 rv) es'
  exact ⟨ad, vs, k, n, rfl, rfl, s2.keep _ _ (r1.new _ m).2.1 hal, hn, q _ _ _ rs mv⟩
def set2S (i : Nat) (k1 k2 : Int) (fa : Slots → M (List D)) : Slots → M Out := fun ρ => bnd (tupE fa ρ) fun t => match t with
  | .tup [d1, d2] => bnd (opt (ownOf ρ[i]?)) fun ds => bnd (opt (setL ds k1 d1)) fun ds1 => bnd (opt (setL ds1 k2 d2)) fun ds2 => ret (.nx (ρ.set i (some (.own ds2))))
  | _ => fail
theorem ds_set2 {i j1 j2 kk kt : Nat} {k1 k2 : Int} {x : Str} {fa : Slots → M (List D)} {q1 q2 q3 pt0 pt2 : Pos} (hc : X.calm = true) (h : PA X [a, b] (dA c W fa)) (hN : X.N[i]? = some x := by rfl) (hv : Vis X.env.scope x := by first | exact Or.inl rfl | exact Or.inr (Or.inl rfl)) (hd : (x == ("__debug__" : Str)) = false := by decide) (hcd : (x == ("__classdict__" : Str)) = false := by decide)
    (ha : ∀ v, assign (.Subscript (.Name x p) (.Constant (.int k1) j1 p2) p3) X.env v = (do
      let ov ← holding [v] (eval (.Name x p) X.env)
      let iv ← holding [v, ov] (eval (.Constant (.int k1) j1 p2) X.env)
      standAt p3
      holding [v, ov, iv] (setItem ov iv v)
      release [v, ov, iv] []) := by intro _; rfl)
    (hb : ∀ v, assign (.Subscript (.Name x q1) (.Constant (.int k2) j2 q2) q3) X.env v = (do
      let ov ← holding [v] (eval (.Name x q1) X.env)
      let iv ← holding [v, ov] (eval (.Constant (.int k2) j2 q2) X.env)
      standAt q3
      holding [v, ov, iv] (setItem ov iv v)
      release [v, ov, iv] []) := by intro _; rfl)
    (hs : swapsWithSole [.Tuple [.Subscript (.Name x p) (.Constant (.int k1) j1 p2) p3, .Subscript (.Name x q1) (.Constant (.int k2) j2 q2) q3] kt pt0] (.Tuple [a, b] kk pt2) pos.line X.env = pure false := by rfl)
    (hw : swappedStores [.Tuple [.Subscript (.Name x p) (.Constant (.int k1) j1 p2) p3, .Subscript (.Name x q1) (.Constant (.int k2) j2 q2) q3] kt pt0] (.Tuple [a, b] kk pt2) X.env = pure none := by rfl)
    (h1 : (assignEach [.Tuple [.Subscript (.Name x p) (.Constant (.int k1) j1 p2) p3, .Subscript (.Name x q1) (.Constant (.int k2) j2 q2) q3] kt pt0] X.env).map (·.2) = [assign (.Tuple [.Subscript (.Name x p) (.Constant (.int k1) j1 p2) p3, .Subscript (.Name x q1) (.Constant (.int k2) j2 q2) q3] kt pt0) X.env] := by rfl)
    (h2 : (assignEach [.Subscript (.Name x p) (.Constant (.int k1) j1 p2) p3, .Subscript (.Name x q1) (.Constant (.int k2) j2 q2) q3] X.env).map (·.2) = assign (.Subscript (.Name x p) (.Constant (.int k1) j1 p2) p3) X.env :: (assignEach [.Subscript (.Name x q1) (.Constant (.int k2) j2 q2) q3] X.env).map (·.2) := by rfl)
    (h3 : (assignEach [.Subscript (.Name x q1) (.Constant (.int k2) j2 q2) q3] X.env).map (·.2) = assign (.Subscript (.Name x q1) (.Constant (.int k2) j2 q2) q3) X.env :: (assignEach [] X.env).map (·.2) := by rfl)
    (h4 : (assignEach [.Subscript (.Name x p) (.Constant (.int k1) j1 p2) p3, .Subscript (.Name x q1) (.Constant (.int k2) j2 q2) q3] X.env).length = 2 := by rfl) (h5 : (assignEach [.Subscript (.Name x p) (.Constant (.int k1) j1 p2) p3, .Subscript (.Name x q1) (.Constant (.int k2) j2 q2) q3] X.env).findIdx? (·.1) = none := by rfl) (hK : c.K = X.K := by rfl) :
    PS X (.Assign [.Tuple [.Subscript (.Name x p) (.Constant (.int k1) j1 p2) p3, .Subscript (.Name x q1) (.Constant (.int k2) j2 q2) q3] kt pt0] (.Tuple [a, b] kk pt2) pos) (dS c W (set2S i k1 k2 fa)) := by
  refine ps_imp (ps_asg (de_tup h) (pg_tup hc (pgs_cons (pg_sub (pe_var (i := i) hN hv hd hcd) pe_int set_list ha) (pgs_cons (pg_sub (pe_var (i := i) hN hv hd hcd) pe_int set_list hb) pgs_nil h3) h2) h4 h5) hs hw h1) fun E σ H ⟨O, ρ, pt, r, h⟩ => ⟨O, ρ, pt, r, (WO.bnd r h).imp fun d p1 H1 _ s1 q v rv => ?_⟩
  have r1 := r.stp s1
  split at q
  · rename_i d1 d2
    simp only [Cy.R, R, RL] at rv
    obtain ⟨at_, vs0, rfl, sq, w1, _, rfl, rw1, w2, _, rfl, rw2, rfl⟩ := rv
    obtain ⟨ds, eo, q⟩ := Wg.opt (WO.bnd r1 q) r1.pot
    obtain ⟨ds1, e1, q⟩ := Wg.opt (WO.bnd r1 q) r1.pot
    obtain ⟨ds2, e2, q⟩ := Wg.opt (WO.bnd r1 q) r1.pot
    have es := ownOf_eq eo
    have hl := (List.getElem?_eq_some_iff.mp es).1
    obtain ⟨ad, vs, m, ev, hal, rl⟩ := r1.sl i _ es
    obtain ⟨n, hn, rs, mv⟩ := own_set r1 m ev hl hal rl rw1 e1
    have es1 : (ρ.set i (some (.own ds1)))[i]? = some (some (.own ds1)) := List.getElem?_set_self hl
    obtain ⟨ad1, vs1, m1, ev1, hal1, rl1⟩ := rs.sl i _ es1
    obtain ⟨n1, hn1, rs1, mv1⟩ := own_set rs m1 ev1 (by rw [List.length_set]; exact hl) hal1 rl1 (R.gr mv.gr rw2) e2
    rw [List.set_set] at rs1
    exact ⟨at_, _, rfl, by rw [← hK]; exact Hd.le.sqt sq, rfl, w1, [w2], rfl, _, ev, ad, vs, k1, n, rfl, rfl, hal, hn, w2, [], rfl, _, ev1, ad1, vs1, k2, n1, rfl, rfl, hal1, hn1, rfl, q _ _ _ rs1 (mv.trans mv1)⟩
  · exact q.elim
end
end DF

set_option Elab.async false
set_option linter.all false
set_option maxRecDepth 100000
set_option maxHeartbeats 4000000
namespace DF
open PySem PySem.Spec PyProof.Rows L2
/-! ### calls by keywords -/
def pick {α : Type} (sel : List (Bool × Nat)) (mv ws : List α) : List α := sel.filterMap fun q => if q.1 then ws[q.2]? else mv[q.2]?
theorem vals_at {vs : List V} {us : List Value} (h : Vals vs us) (i : Nat) : (vs[i]? = none ∧ us[i]? = none) ∨ ∃ v u, vs[i]? = some v ∧ us[i]? = some u ∧ RelV v u := by
  induction h generalizing i with
  | nil => exact .inl ⟨by simp, by simp⟩
  | cons r _ ih =>
    cases i with
    | zero => exact .inr ⟨_, _, rfl, rfl, r⟩
    | succ i => simpa using ih i
theorem vals_pick {mz zs : List V} {mv ws : List Value} (h1 : Vals mz mv) (h2 : Vals zs ws) : ∀ sel : List (Bool × Nat), Vals (pick sel mz zs) (pick sel mv ws)
  | [] => .nil
  | q :: sel => by
    have ih := vals_pick h1 h2 sel
    unfold pick at ih ⊢
    rw [List.filterMap_cons, List.filterMap_cons]
    cases hq : q.1 with
    | true =>
      simp only [if_true]
      rcases vals_at h2 q.2 with ⟨e1, e2⟩ | ⟨v, u, e1, e2, r⟩
      · rw [e1, e2]; exact ih
      · rw [e1, e2]; exact .cons r ih
    | false =>
      simp only [Bool.false_eq_true, if_false]
      rcases vals_at h1 q.2 with ⟨e1, e2⟩ | ⟨v, u, e1, e2, r⟩
      · rw [e1, e2]; exact ih
      · rw [e1, e2]; exact .cons r ih
theorem rl_at {K : PySem.W.Frag} {T : Tb} {p : Addr} {H : Hp} {ds : List D} {vs : List V} (h : RL K T p H ds vs) (i : Nat) : (ds[i]? = none ∧ vs[i]? = none) ∨ ∃ d v, ds[i]? = some d ∧ vs[i]? = some v ∧ R K T p H d v := by
  cases e : ds[i]? with
  | none =>
    left
    refine ⟨rfl, ?_⟩
    have := List.getElem?_eq_none_iff.mp e
    exact List.getElem?_eq_none (by rw [← RL.len h]; exact this)
  | some d =>
    obtain ⟨v, ev, r⟩ := RL.getD h e
    exact .inr ⟨d, v, rfl, ev, r⟩
theorem rl_pick {K : PySem.W.Frag} {T : Tb} {p : Addr} {H : Hp} {md ds : List D} {mz zs : List V} (h1 : RL K T p H md mz) (h2 : RL K T p H ds zs) : ∀ sel : List (Bool × Nat), RL K T p H (pick sel md ds) (pick sel mz zs)
  | [] => RL.nil
  | q :: sel => by
    have ih := rl_pick h1 h2 sel
    unfold pick at ih ⊢
    rw [List.filterMap_cons, List.filterMap_cons]
    cases hq : q.1 with
    | true =>
      simp only [if_true]
      rcases rl_at h2 q.2 with ⟨e1, e2⟩ | ⟨v, u, e1, e2, r⟩
      · rw [e1, e2]; exact ih
      · rw [e1, e2]; exact RL.cons r ih
    | false =>
      simp only [Bool.false_eq_true, if_false]
      rcases rl_at h1 q.2 with ⟨e1, e2⟩ | ⟨v, u, e1, e2, r⟩
      · rw [e1, e2]; exact ih
      · rw [e1, e2]; exact RL.cons r ih
section
variable {gu : Prop} {X : Cx} {c : Cy} {W : WX} {CX : CXT} {k n n0 kc : Nat} {f C : Addr} {fd : FuncData} {ps ks : List Str} {sp : Sp} {E : L2.St → XK} {x : Str} {p pos kpos : Pos} {e o : Expr} {es : List Expr} {kws : List Keyword} {t tk : TA} {g : List Value → List Value → List Value} {gV : List V → List V → List V} {nm : Option Str}
theorem pk_imp {kws : List Keyword} {t t' : TA} (h : PK X kws t) (i : ∀ σ H Q, t' σ H Q → t σ H Q) : PK X kws t' := ⟨fun pos pins s σ H Q I q => h.run pos pins s σ H Q I (i σ H Q q)⟩
theorem dk_nil : PK X [] (dA c W nilA) := pk_imp pk_nil fun σ H Q ⟨O, ρ, pt, r, q⟩ => Wg.here q r.pot _ RL.nil
theorem dk_cons {f : Slots → M D} {g : Slots → M (List D)} (h : PE X e (dE c W f)) (hs : PK X kws (dA c W g)) : PK X (⟨nm, e, kpos⟩ :: kws) (dA c W (consA f g)) := by
  refine pk_imp (pk_cons h hs) fun σ H Q ⟨O, ρ, pt, r, q⟩ => ?_
  refine ⟨O, ρ, pt, r, (Wg.bnd q).imp fun d p1 H1 _ s1 q v rv => ?_⟩
  refine ⟨O, ρ, p1, r.stp s1, (Wg.bnd q).imp fun ds p2 H2 _ s2 q vs rvs => ?_⟩
  have r2 := (r.stp s1).stp s2
  exact Wg.here q r2.pot _ (RL.cons (R.gr (s2.gr r.pm) rv) rvs)
theorem makeKAt {pins : List (Addr × Obj)} {σ : L2.St} {H : Hp} {s : Shared} {Q : VK} {us ws : List Value} {vs zs : List V} (M : Mk X.K C f) (F : FnG gu X.prog X.w X.K X.mg X.base CX k f fd ps sp) (hr : Rm gu (k + 1) X.A) (hb : KBn X.K fd ps (n + 1) ks g gV) (hx : PassesAt CX X σ (E σ))
    (I : Inv X pins σ H s) (r : Vals vs us) (rz : Vals zs ws) (l1 : vs.length = n) (l2 : zs.length = ks.length)
    (h : ∀ y dx, H y = none → H dx = none → dx ≠ y → sp (gV (.ref y :: vs) zs) (upd (upd H dx (.own y)) y (.ins C dx [])) (fun v H2 => v = .non ∧ Q (.ref y) H2) (E σ)) :
    wpAny (model X.prog X.w) X.A (call (.ref C) us (ks.zip ws)) (EP X pins σ Q) X.xe s := by
  have hq := h (s.heap.objs.size + 1) s.heap.objs.size (I.hok.fresh (Nat.le_succ _)) (I.hok.fresh (Nat.le_refl _)) (Nat.ne_of_lt (Nat.lt_succ_self _))
  have J := Inv.made (C := C) I
  have r1 : Vals (V.ref (s.heap.objs.size + 1) :: vs) (Value.ref (s.heap.objs.size + 1) :: us) := .cons rfl r
  have lu : (Value.ref (s.heap.objs.size + 1) :: us).length = n + 1 := r1.length.symm.trans (congrArg (· + 1) l1)
  have go := F.run _ X.stack _ _ ⟨Value.ref (s.heap.objs.size + 1) :: us, ks.zip ws⟩ _ _ _ (E σ) (hr.make C us (ks.zip ws)) (J.env0.make C us (ks.zip ws)) (hb.to _ (Value.ref (s.heap.objs.size + 1) :: us) ws J.kIn lu (rz.length.symm.trans l2)) (hb.rel r1 rz) hq
  refine wpAny_call (make_map (f := f) I.kIn M.makes M.init (beq_iff_eq.mp M.fn) (codeAny_mono go fun res s' hq' => ?_))
  match res, hq' with
  | .error e, hq' => exact hx pins _ _ e s' J hq'
  | .ok (.ret u), hq' =>
    obtain ⟨v, H', I3, rv, ev, q3⟩ := J.after hq'
    subst ev
    exact ⟨rv, ⟨V.ref (s.heap.objs.size + 1), H', I3, rfl, q3⟩⟩
def makeKE (kc n n0 m : Nat) (fm : List D → M (List D)) (sel : List (Bool × Nat)) (dd : List D) (fa fk : Slots → M (List D)) : Slots → M D := fun ρ => bnd (fa ρ) fun ds => bnd (fk ρ) fun es =>
  if ds.length = n0 ∧ es.length = m ∧ (ds ++ pick sel dd es).length + 1 = n then bnd (fm (ds ++ pick sel dd es)) fun fs => ret (.obj kc fs) else fail
theorem makeK_use {fm : List D → M (List D)} {fa fk : Slots → M (List D)} {sel : List (Bool × Nat)} {dd : List D} {dvs : List V} {m : Nat} {σ : L2.St} {H : Hp} {Q : VK} (hC : c.T.cls kc = C) (hc : Cst c dd dvs) (h : dE c W (makeKE kc n n0 m fm sel dd fa fk) σ H Q) :
    dA c W fa σ H fun vs H1 => dA c W fk σ H1 fun zs H2 => vs.length = n0 ∧ zs.length = m ∧ ∀ y dx, H2 y = none → H2 dx = none → dx ≠ y → spI c.K c.T kc n fm (.ref y :: (vs ++ pick sel dvs zs)) (upd (upd H2 dx (.own y)) y (.ins C dx [])) (fun v H3 => v = .non ∧ Q (.ref y) H3) (WE W σ) := by
  obtain ⟨O, ρ, pt, r, q⟩ := h
  refine ⟨O, ρ, pt, r, (Wg.bnd q).imp fun ds p1 H1 _ s1 q vs rl => ?_⟩
  have r1 := r.stp s1
  refine ⟨O, ρ, p1, r1, (Wg.bnd q).imp fun es p2 H2 _ s2 q zs rz => ?_⟩
  have r2 := r1.stp s2
  by_cases hl : ds.length = n0 ∧ es.length = m ∧ (ds ++ pick sel dd es).length + 1 = n
  · rw [if_pos hl] at q
    refine ⟨(RL.len rl).symm.trans hl.1, (RL.len rz).symm.trans hl.2.1, fun y dx hy hdx ne => ?_⟩
    exact spI_of r2 (RL.app (RL.gr (s2.gr r.pm) rl) (rl_pick (hc _) rz sel)) hl.2.2 hC hy hdx ne q
  · rw [if_neg hl] at q
    exact q.elim
theorem de_makeK {m : Nat} {fm : List D → M (List D)} {fa fk : Slots → M (List D)} {sel : List (Bool × Nat)} {dd : List D} {dvs : List V} (M : Mk X.K C f) (F : FnG gu X.prog X.w X.K X.mg X.base (L2.CX X.prog X.w) k f fd ps (spI c.K c.T kc n fm)) (hr : Rm gu (k + 1) X.A) (tk : Takes X W) (hm : X.mg x = some (.ref C)) (hC : c.T.cls kc = C)
    (hb : KBn X.K fd ps (n0 + 1) ks g (fun vs zs => vs ++ pick sel dvs zs)) (hc : Cst c dd dvs) (ha : PA X (e :: es) (dA c W fa)) (hkw : PK X kws (dA c W fk)) (hg : Gl X x := by rfl)
    (hall : (backToKw pos (keywordEach kws X.env)).all (·.1.isSome) = true := by rfl) (hks : (backToKw pos (keywordEach kws X.env)).filterMap (·.1) = ks := by rfl) (hl : ks.length = m := by rfl) (hdb : (x == ("__debug__" : Str)) = false := by decide)
    (he : starEach (e :: es) X.env = (false, eval e X.env) :: starEach es X.env := by rfl) (hpl : ((backTo pos (starEach (e :: es) X.env)).any (·.1) || (backToKw pos (keywordEach kws X.env)).any (·.1.isNone)) = false := by rfl) :
    PE X (.Call (.Name x p) (e :: es) kws pos) (dE c W (makeKE kc n n0 m fm sel dd fa fk)) := by
  subst hl
  refine ⟨fun pins s σ H Q I h => wpAny_Call_Name_kw (ld_glob I hg hm ?_ hdb)⟩
  refine PySem.W.callWith_KW (h₀ := X.base) I.ok.mod.kin M.kp hall (thn (ha.run pos pins s σ H _ I (makeK_use hC hc h)) fun us s1 ⟨vs, H1, I1, r, q⟩ => ?_) hpl he
  refine thn (hkw.run pos pins s1 σ H1 _ I1 q) fun ws s2 ⟨zs, H2, I2, rz, l1, l2, q2⟩ => ⟨I2.kIn, ?_⟩
  rw [hks]
  exact makeKAt (E := WE W) M F hr hb (passAt tk σ) I2 r rz l1 l2 q2
theorem de_makeK0 {m : Nat} {fm : List D → M (List D)} {fk : Slots → M (List D)} {sel : List (Bool × Nat)} {dd : List D} {dvs : List V} (M : Mk X.K C f) (F : FnG gu X.prog X.w X.K X.mg X.base (L2.CX X.prog X.w) k f fd ps (spI c.K c.T kc n fm)) (hr : Rm gu (k + 1) X.A) (tk : Takes X W) (hm : X.mg x = some (.ref C)) (hC : c.T.cls kc = C)
    (hb : KBn X.K fd ps 1 ks g (fun vs zs => vs ++ pick sel dvs zs)) (hc : Cst c dd dvs) (hkw : PK X kws (dA c W fk)) (hg : Gl X x := by rfl)
    (hall : (backToKw pos (keywordEach kws X.env)).all (·.1.isSome) = true := by rfl) (hks : (backToKw pos (keywordEach kws X.env)).filterMap (·.1) = ks := by rfl) (hl : ks.length = m := by rfl) (hdb : (x == ("__debug__" : Str)) = false := by decide)
    (hpl : ((backTo pos (starEach [] X.env)).any (·.1) || (backToKw pos (keywordEach kws X.env)).any (·.1.isNone)) = false := by rfl) :
    PE X (.Call (.Name x p) [] kws pos) (dE c W (makeKE kc n 0 m fm sel dd nilA fk)) := by
  subst hl
  refine ⟨fun pins s σ H Q I h => wpAny_Call_Name_kw (ld_glob I hg hm ?_ hdb)⟩
  have h2 : dA c W fk σ H fun zs H2 => zs.length = ks.length ∧ ∀ y dx, H2 y = none → H2 dx = none → dx ≠ y → spI c.K c.T kc n fm (.ref y :: ([] ++ pick sel dvs zs)) (upd (upd H2 dx (.own y)) y (.ins C dx [])) (fun v H3 => v = .non ∧ Q (.ref y) H3) (WE W σ) := by
    obtain ⟨O, ρ, pt, r, q⟩ := makeK_use hC hc h
    obtain ⟨O1, ρ1, pt1, r1, q1⟩ := Wg.here q r.pot [] RL.nil
    exact ⟨O1, ρ1, pt1, r1, q1.imp fun a q H' _ _ z v rv => ⟨(z v rv).2.1, (z v rv).2.2⟩⟩
  refine PySem.W.callWith_KW0 (h₀ := X.base) I.ok.mod.kin M.kp hall ?_ hpl
  refine thn (hkw.run pos pins s σ H _ I h2) fun ws s2 ⟨zs, H2, I2, rz, l2, q2⟩ => ⟨I2.kIn, ?_⟩
  rw [hks]
  exact makeKAt (us := []) (vs := []) (E := WE W) M F hr hb (passAt tk σ) I2 .nil rz rfl l2 q2
end
end DF

set_option Elab.async false
set_option linter.all false
set_option maxRecDepth 100000
set_option maxHeartbeats 4000000
namespace DF
open PySem PySem.Spec PyProof.Rows L2
/-! ### the end of a law, called with no repr under way -/
section
variable {P : Program} {w : World} {K : PySem.W.Frag} {mg mb : Str → Option Value} {CX : CXT} {k : Nat} {fa a : Addr} {cs : List (Addr × Addr)} {fd : FuncData} {x : Str} {sp : Sp} {s1 : Shared} {vs : List Value} {ns : List Int}
abbrev emT : Obj := { cls := .none, data := .fields #[] }
abbrev lsO (vs : List Value) : Obj := { cls := .type "list", data := .seq vs.toArray }
theorem law_core (KX : K.In s1.heap) (hns : s1.heap.Ns mainGlobals mg) (hb : s1.heap.Ns builtinsNs mb) (hbb : ∀ y : Str, y ≠ "__name__" → mb y = bootBuiltins y) (hlim : s1.heap.NoLimit) (hg : s1.gens = #[])
    (hT : ∀ q ∈ cs, s1.heap.get? q.2 = some emT) (nT : ∀ q ∈ cs, K.lookup q.2 = none) (hC : ∀ q ∈ cs, PySem.W.CodeHd s1.heap q.1 q.2)
    (hbm : ∃ (bm : Addr) (ob : Obj), mg "__builtins__" = some (.ref bm) ∧ bm ≠ builtinsNs ∧ s1.heap.get? bm = some ob ∧ ob.cls = .type "module" ∧ ob.dict = some builtinsNs ∧ ob.data = .plain)
    (ha : s1.heap.get? a = some (lsO vs)) (hr : Rm True k callerA)
    (F : ∀ base : Heap, K.In base → base.Ns mainGlobals mg → (∀ q ∈ cs, LamX.TabB base mg q.1 q.2) → FnG True P w K mg base CX k fa fd [x] sp) (hbind : ∀ (s : Shared) (u : Value), BindsTo s fd ⟨[u], []⟩ [(x, u)])
    (hCX : ∀ H e s', CX [] H s1 (fun _ _ _ => False) e s' → False) {H : Hp} (want : sp [.ref a] H (fun v _ => v = .bl true) fun _ _ _ => False)
    (tabs : ∀ q ∈ cs, H q.2 = some (.tbl #[])) (kinds : ∀ b, H b = none ∨ b ∈ cs.map (·.2) ∨ ∃ o xs, H b = some (.frz o (.lst xs))) (hok : HOk P w H s1.heap) (only : ∀ b, H b ≠ none → b = a ∨ b ∈ cs.map (·.2)) (hK : H a ≠ none → K.lookup a = none) :
    codeAny (model P w) callerA (.call (.ref fa) ⟨[.ref a], []⟩) (fun r s' => r = .ok (.ret (.bool true)) ∧ OldK s1.heap s'.heap ∧ s'.os = s1.os ∧ AllBare s'.gens) s1 := by
  have atT : ∀ b : Addr, b ∈ cs.map (·.2) → s1.heap.get? b = some emT := fun b m => by
    obtain ⟨q, hq, e⟩ := List.mem_map.mp m
    exact e ▸ hT q hq
  have seen : ∀ {b : Addr} {o : Obj}, s1.heap.get? b = some o → H b = none → (hidT s1.heap H).get? b = some o := fun e n => hidT_get e n
  have off : ∀ {b : Addr} {o : Obj}, s1.heap.get? b = some o → (∀ us m, o.data ≠ .seq us m) → o.data ≠ .fields #[] → H b = none := fun {b o} e n1 n2 => by
    by_cases z : H b = none
    · exact z
    · rcases only b z with y | y
      · rw [y, ha] at e
        cases e
        exact absurd rfl (n1 _ _)
      · rw [atT b y] at e
        cases e
        exact absurd rfl n2
  have offD : ∀ {b : Addr} {o : Obj} {es : Array DictEntry} {ep : Nat}, s1.heap.get? b = some o → o.data = .dict es ep → H b = none := fun {b o es ep} e d => off e (fun us m y => by rw [d] at y; cases y) fun y => by rw [d] at y; cases y
  have nsB : ∀ {b : Addr} {m : Str → Option Value}, s1.heap.Ns b m → (hidT s1.heap H).Ns b m := fun {b m} ⟨o, es, ep, e, d, r⟩ => ⟨o, es, ep, seen e (offD e d), d, r⟩
  have inB : K.In (hidT s1.heap H) := fun b o e => seen (KX b o e) (by
    by_cases z : H b = none
    · exact z
    · rcases only b z with y | y
      · subst y
        rw [hK z] at e
        cases e
      · obtain ⟨q, hq, eq⟩ := List.mem_map.mp y
        rw [← eq, nT q hq] at e
        cases e)
  have modB : L2.Mod K mg (hidT s1.heap H) := ⟨inB, nsB hns, ⟨mb, nsB hb, hbb⟩, let ⟨mc, z1, z2⟩ := hlim; ⟨mc, nsB z1, z2⟩⟩
  have tabB : ∀ q ∈ cs, LamX.TabB (hidT s1.heap H) mg q.1 q.2 := fun q hq => by
    refine ⟨?_, ?_, fun z => ?_⟩
    · obtain ⟨o, us, file, tf, flags, tg, inF, text, tt, e1, y1, y2, y3, y4, y5, y6, y7, y8, yn⟩ := hC q hq
      refine ⟨o, us, file, tf, flags, tg, inF, text, tt, seen e1 (off e1 (fun u2 m y => by rw [y2] at y; cases y) fun y => ?_), y1, y2, y3, y4, y5, y6, y7, y8, yn⟩
      rw [y2] at y
      cases y
      simp at y3
    · obtain ⟨bm, ob, b1, b2, b3, b4, b5, b6⟩ := hbm
      refine ⟨bm, ob, b1, b2, fun z => ?_, fun z => ?_, seen b3 (off b3 (fun us m y => by rw [b6] at y; cases y) fun y => by rw [b6] at y; cases y), b4, b5, b6⟩
      · obtain ⟨o, es, ep, e, hd, _⟩ := hns
        rw [z, e] at b3
        cases b3
        rw [hd] at b6
        cases b6
      · rw [z, hT q hq] at b3
        cases b3
        cases b6
    · obtain ⟨o, es, ep, e, hd, _⟩ := hns
      rw [z, hT q hq] at e
      cases e
      cases hd
  have env : Env0 P w K mg (hidT s1.heap H) callerA [] s1 H := ⟨rfl, modB, fun b o e => of_hidT e, Nat.le_of_eq (hidT_size _ _), trivial, fun b m => (nomatch (show b ∈ ([] : List Addr) from m)), hok, .of_eq hg⟩
  refine codeAny_mono ((F _ inB (nsB hns) tabB).run callerA [] s1 H ⟨[.ref a], []⟩ [.ref a] [.ref a] _ _ hr env (hbind s1 (.ref a)) (.cons rfl .nil) want) fun res s' got => ?_
  match res, got with
  | .error e, got => exact (hCX H e s' got).elim
  | .ok (.ret u), got =>
    obtain ⟨v, H', eos, bare, un, hok', rv, q⟩ := got
    have ev : v = .bl true := q
    subst ev
    obtain rfl : u = Value.bool true := rv
    have stays : ∀ b o, b ∉ cs.map (·.2) → s1.heap.get? b = some o → s'.heap.get? b = some o := fun b o nb e => by
      cases q : H b with
      | none => exact un.keep b o e q (fun z => (nomatch (show b ∈ ([] : List Addr) from z))) (by simp)
      | some u =>
        rcases kinds b with z | z | ⟨ob, xs, z⟩
        · rw [q] at z; cases z
        · exact absurd z nb
        · obtain ⟨e1, _⟩ := hok b _ z
          obtain ⟨e2, _⟩ := hok' b _ (un.frzs b ob _ z)
          rw [e] at e1
          cases e1
          exact e2
    have grew : ∀ q ∈ cs, ∃ more : Array Value, s'.heap.get? q.2 = some { cls := .none, data := .fields more } := fun q hq => by
      obtain ⟨more, z⟩ := un.tbls q.2 #[] (tabs q hq)
      exact ⟨_, hok' q.2 _ z⟩
    refine ⟨rfl, ⟨fun b o e => ?_, fun b o e => ?_⟩, eos, bare⟩
    · by_cases m : b ∈ cs.map (·.2)
      · obtain ⟨q, hq, eq⟩ := List.mem_map.mp m
        obtain ⟨more, z⟩ := grew q hq
        rw [← eq, hT q hq] at e
        cases e
        rw [← eq]
        exact .inr (.inl ⟨((hC q hq).tab (hT q hq)).isCodeTable, rfl, #[], more, rfl, by rw [Array.empty_append]; exact z⟩)
      · exact .inl (stays b o m e)
    · by_cases m : b ∈ cs.map (·.2)
      · obtain ⟨q, hq, eq⟩ := List.mem_map.mp m
        obtain ⟨more, z⟩ := grew q hq
        exact ⟨_, eq ▸ z⟩
      · exact ⟨o, stays b o m e⟩
theorem law_run (KX : K.In s1.heap) (hns : s1.heap.Ns mainGlobals mg) (hb : s1.heap.Ns builtinsNs mb) (hbb : ∀ y : Str, y ≠ "__name__" → mb y = bootBuiltins y) (hlim : s1.heap.NoLimit) (hg : s1.gens = #[])
    (hT : ∀ q ∈ cs, s1.heap.get? q.2 = some emT) (nT : ∀ q ∈ cs, K.lookup q.2 = none) (hC : ∀ q ∈ cs, PySem.W.CodeHd s1.heap q.1 q.2)
    (hbm : ∃ (bm : Addr) (ob : Obj), mg "__builtins__" = some (.ref bm) ∧ bm ≠ builtinsNs ∧ s1.heap.get? bm = some ob ∧ ob.cls = .type "module" ∧ ob.dict = some builtinsNs ∧ ob.data = .plain)
    (ha : s1.heap.get? a = some (lsO vs)) (hi : IntsAre vs ns) (hl : ns.length ≤ sizeLine) (hr : Rm True k callerA)
    (F : ∀ base : Heap, K.In base → base.Ns mainGlobals mg → (∀ q ∈ cs, LamX.TabB base mg q.1 q.2) → FnG True P w K mg base CX k fa fd [x] sp) (hbind : ∀ (s : Shared) (u : Value), BindsTo s fd ⟨[u], []⟩ [(x, u)])
    (want : ∀ H : Hp, (∀ q ∈ cs, H q.2 = some (.tbl #[])) → SqL K H a (ns.map V.int) → sp [.ref a] H (fun v _ => v = .bl true) fun _ _ _ => False)
    (hCX : ∀ H e s', CX [] H s1 (fun _ _ _ => False) e s' → False) :
    codeAny (model P w) callerA (.call (.ref fa) ⟨[.ref a], []⟩) (fun r s' => r = .ok (.ret (.bool true)) ∧ OldK s1.heap s'.heap ∧ s'.os = s1.os ∧ AllBare s'.gens) s1 := by
  have rv := vals_ints hi
  have lv := hi.length
  have atT : ∀ b : Addr, b ∈ cs.map (·.2) → s1.heap.get? b = some emT := fun b m => by
    obtain ⟨q, hq, e⟩ := List.mem_map.mp m
    exact e ▸ hT q hq
  have aT : a ∉ cs.map (·.2) := fun m => by
    have z := (atT a m).symm.trans ha
    cases z
  have inT : ∀ q ∈ cs, q.2 ∈ cs.map (·.2) := fun q hq => List.mem_map.mpr ⟨q, hq, rfl⟩
  cases hk : K.lookup a with
  | some o =>
    have eo := (KX a o hk).symm.trans ha
    cases eo
    let G : Hp := fun b => if b ∈ cs.map (·.2) then some (.tbl #[]) else none
    have gT : ∀ {b}, b ∈ cs.map (·.2) → G b = some (.tbl #[]) := fun m => if_pos m
    have gN : ∀ {b}, b ∉ cs.map (·.2) → G b = none := fun m => if_neg m
    refine law_core (H := G) KX hns hb hbb hlim hg hT nT hC hbm ha hr F hbind hCX (want G (fun q hq => gT (inT q hq)) (.inr ⟨_, vs.toArray, _, hk, rfl, rfl, rfl, by rw [List.size_toArray, lv]; exact hl, by simpa using rv⟩)) (fun q hq => gT (inT q hq)) (fun b => ?_) (fun b u z => ?_) (fun b z => ?_) fun z => absurd (gN aT) z
    · by_cases m : b ∈ cs.map (·.2)
      · exact .inr (.inl m)
      · exact .inl (gN m)
    · by_cases m : b ∈ cs.map (·.2)
      · rw [gT m] at z
        cases z
        exact atT b m
      · rw [gN m] at z
        cases z
    · by_cases m : b ∈ cs.map (·.2)
      · exact .inr m
      · exact absurd (gN m) z
  | none =>
    let G : Hp := fun b => if b = a then some (.frz (lsO vs) (.lst (ns.map V.int))) else if b ∈ cs.map (·.2) then some (.tbl #[]) else none
    have gA : G a = some (.frz (lsO vs) (.lst (ns.map V.int))) := if_pos rfl
    have gT : ∀ {b}, b ∈ cs.map (·.2) → G b = some (.tbl #[]) := fun {b} m => (if_neg (fun z : b = a => aT (z ▸ m))).trans (if_pos m)
    have gN : ∀ {b}, b ≠ a → b ∉ cs.map (·.2) → G b = none := fun n m => (if_neg n).trans (if_neg m)
    refine law_core (H := G) KX hns hb hbb hlim hg hT nT hC hbm ha hr F hbind hCX (want G (fun q hq => gT (inT q hq)) (.inl (.inr ⟨lsO vs, gA⟩))) (fun q hq => gT (inT q hq)) (fun b => ?_) (fun b u z => ?_) (fun b z => ?_) fun _ => hk
    · by_cases n : b = a
      · exact .inr (.inr ⟨_, _, n ▸ gA⟩)
      · by_cases m : b ∈ cs.map (·.2)
        · exact .inr (.inl m)
        · exact .inl (gN n m)
    · by_cases n : b = a
      · subst n
        rw [gA] at z
        cases z
        exact ⟨ha, by rw [List.length_map]; exact hl, vs, _, rv, ha⟩
      · by_cases m : b ∈ cs.map (·.2)
        · rw [gT m] at z
          cases z
          exact atT b m
        · rw [gN n m] at z
          cases z
    · by_cases n : b = a
      · exact .inl n
      · by_cases m : b ∈ cs.map (·.2)
        · exact .inr m
        · exact absurd (gN n m) z
end
/-- the end of a law -/
theorem walkG {lw : PySem.W.OpenLaw} {k : Nat} {qq : Program} {loose : List Str} {XP : (Str → Option Value) → Heap → Prop} {YP : World → Heap → Prop} {dd : DefRec} {x : Str} (h63 : lw.most = some 63) (hdf : dd.params.defaults = []) (hrm : Room k callerA)
    (F : ∀ (w : World) (mg : Str → Option Value) (fa : Addr) (hh : Heap), YP w hh → hh.Ns mainGlobals mg → mg dd.name = some (.ref fa) → ∃ (K : PySem.W.Frag) (fd : FuncData) (cs : List (Addr × Addr)) (T : Tb), K.In hh ∧ (∀ p ∈ cs, hh.get? p.2 = some emT) ∧ (∀ p ∈ cs, K.lookup p.2 = none) ∧ (∀ p ∈ cs, PySem.W.CodeHd hh p.1 p.2) ∧
        (∀ q ∈ T.tb, ∃ p ∈ cs, p.2 = q.1) ∧ (∀ (s : Shared) (u : Value), BindsTo s fd ⟨[u], []⟩ [(x, u)]) ∧
        ∀ bb : Heap, K.In bb → bb.Ns mainGlobals mg → (∀ p ∈ cs, LamX.TabB bb mg p.1 p.2) → FnG True lw.prog w K mg bb (L2.CX lw.prog w) k fa fd [x] (spLaw K T)) : PySem.W.WalkO qq loose XP YP lw.row.toRowW dd [] (fun f vs => PySem.call f vs) := by
  refine Att.attach_callB h63 hdf fun w s0 s1 mg mb fa o pm cd doc a vs ns G Y ho hd hcd hmg hobj hints hlen hbits hg => ?_
  obtain ⟨K, fd, cs, T, KX, h1, h2, h3, h4, hb, hF⟩ := F w mg fa _ Y G.T.g hmg
  refine law_run KX G.T.g G.T.b G.T.builtins G.T.nolimit hg h1 h2 h3 G.T.bmain hobj hints (Nat.le_trans hlen (by decide)) ⟨hrm, fun _ => rfl⟩ hF hb (fun H hH hS => ⟨a, ns, rfl, hS, hlen, fun q hq => ?_, fun _ => rfl⟩) fun H e s' => cx_no H s1 e s'
  obtain ⟨p, hp, e⟩ := h4 q hq
  exact LamX.TabS.nil (e ▸ hH p hp)
/-! ### more kinds of facts -/
section
variable {oks : List Fct} {fn : List He5.DefA} {K : PySem.W.Frag} {h : Heap} {mg : Str → Option Value} {x y z : Str}
def fInt (x : Str) (i : Int) : Fct := fun K => (He.Fa.int x i).ok K
def fStr (x z : Str) : Fct := fun K => (He.Fa.str x z).ok K
theorem Tx.gint {i : Int} (t : Tx oks fn K mg) (j : Nat) (h : oks[j]? = some (fInt x i) := by rfl) : ∃ u, mg x = some (.int i u) := let ⟨_, X, G⟩ := t.g; He.int_ok X G (t.c.fact j h)
theorem Tx.gstr (t : Tx oks fn K mg) (j : Nat) (h : oks[j]? = some (fStr x z) := by rfl) : ∃ u, mg x = some (.str z u) := let ⟨_, X, G⟩ := t.g; He.str_ok X G (t.c.fact j h)
/-- an exception class of the text, with its own __init__ or without -/
def oexB (K : PySem.W.Frag) (C : Addr) : Bool := (match K.lookup C with
  | some ⟨.type "type", _, .cls cd, sl⟩ => (match cd.mro, sl.toList with
    | .ref C' :: bm, [_, _, _, _, some (.builtin n), _] => (C' == C) && (!(baOf n).isEmpty && (PySem.W.excTail (baOf n) bm && (cd.hasDict && !cd.hasDel)))
    | _, _ => false)
  | _ => false)
def fOex (x : Str) : Fct := fun K => oexB K (He.ga K x) && (He.eqO (PySem.W.findIn K (.ref (He.ga K x)) "__setattr__") (some (some (.builtin "object.__setattr__"))) && (decide (PySem.W.subIn K (.ref (He.ga K x)) (.type "BaseException") = some true) &&
  (decide (PySem.W.typeIn K (.ref (He.ga K x)) = some (.type "type")) && PySem.W.keepIn K (.ref (He.ga K x)))))
theorem oexB_ok {C : Addr} (q : oexB K C = true) : ∃ (B newId initId : String) (bmB : List Value) (nm q : Str) (N : Addr) (bs bm : List Value) (sn : List Str) (sub : List Value) (ab : Bool) (col : Option Bool) (dd : Option Addr) (k0 k1 k2 k3 k5 : Option Value), BaB B newId initId bmB ∧
    K.lookup C = some (excClassObj nm q C N bs bm true sn sub ab col dd k0 k1 k2 k3 k5 newId) ∧ PySem.W.excTail bmB bm = true := by
  unfold oexB at q
  split at q
  · rename_i dd cd sl ho
    split at q
    · rename_i C' bm k0 k1 k2 k3 n k5 hm hs
      simp only [Bool.and_eq_true, beq_iff_eq, Bool.not_eq_true'] at q
      obtain ⟨rfl, hn, hv, hdi, hdel⟩ := q
      obtain ⟨nm, bs, mro, nsp, qn, hdd, sn, sub, ab, col, del⟩ := cd
      dsimp only at hm hdel hdi
      subst hm hdel hdi
      obtain ⟨l⟩ := sl
      simp only at hs
      subst hs
      obtain ⟨B, ba⟩ := baOf_ok hn
      exact ⟨B, n, _, _, nm, qn, nsp, bs, bm, sn, sub, ab, col, dd, k0, k1, k2, k3, k5, ba, ho, hv⟩
    · cases q
  · cases q
theorem Tx.oex (t : Tx oks fn K mg) (j : Nat) (h : oks[j]? = some (fOex x) := by rfl) : OxG K (He.ga K x) := by
  have q := t.c.fact j h
  obtain ⟨q1, q⟩ := He.ba q
  obtain ⟨q2, q⟩ := He.ba q
  obtain ⟨q3, q⟩ := He.ba q
  obtain ⟨q4, q5⟩ := He.ba q
  exact ⟨oexB_ok q1, He.eqO_ok q2, of_decide_eq_true q3, of_decide_eq_true q4, q5⟩
def fXf (x : Str) : Fct := fun K => xfB K (He.ga K x)
theorem Tx.xf (t : Tx oks fn K mg) (j : Nat) (h : oks[j]? = some (fXf x) := by rfl) : XfC K (He.ga K x) := xfB_ok (t.c.fact j h)
/-- which of the classes cs an except clause that names x takes -/
def fExm (x : Str) (cs : List Str) (bs : List (Option Bool)) : Fct := fun K => (List.zip cs bs).all fun q => match q.2 with
  | some b => decide (PySem.W.exmOne K (.ref (He.ga K q.1)) (.ref (He.ga K x)) = some b)
  | none => true
theorem Tx.exm {cs : List (Str × List Str)} {tf : Tf_} {bs : List (Option Bool)} (t : Tx oks fn K mg) (j : Nat) (hl : bs.length = cs.length) (h : oks[j]? = some (fExm x (cs.map (·.1)) bs) := by rfl) : ∀ e b, (bs[e]?).join = some b → PySem.W.exmOne K (.ref ((tbOf cs tf K).cls e)) (.ref (He.ga K x)) = some b := fun e b hb => by
  have q := t.c.fact j h
  cases hq : bs[e]? with
  | none => rw [hq] at hb; cases hb
  | some o =>
    rw [hq] at hb
    cases o with
    | none => cases hb
    | some b1 =>
      cases hb
      by_cases hk : e < cs.length
      · have he : (cs.getD e ("", [])) = cs[e] := by rw [List.getD_eq_getElem?_getD, List.getElem?_eq_getElem hk]; rfl
        have hz : (List.zip (cs.map (·.1)) bs)[e]? = some (cs[e].1, some b) := by
          rw [List.getElem?_zip_eq_some]
          exact ⟨by rw [List.getElem?_map, List.getElem?_eq_getElem hk]; rfl, hq⟩
        have := List.all_eq_true.mp q _ (List.mem_of_getElem? hz)
        show PySem.W.exmOne K (.ref (He.ga K (cs.getD e ("", [])).1)) _ = _
        rw [he]
        exact of_decide_eq_true this
      · have := (List.getElem?_eq_some_iff.mp hq).1
        omega
end
end DF

set_option Elab.async false
set_option linter.all false
set_option maxRecDepth 100000
set_option maxHeartbeats 4000000
namespace DF
open PySem PySem.Spec PyProof.Rows L2
/-! ### the Hook, the tables of the defs tf left out -/
/-- the addresses that are read: those behind the globals, and sys.modules -/
def asS (g : Addr → Option Obj) (n : Nat) : List Addr := sysModules :: He5.asA g n
abbrev AlY : Type := He.AlD × Bool
def obsYG (n : Nat) (oks : List Fct) (fn : List He5.DefA) (tf : List He.Defn) (g : Addr → Option Obj) : AlY := (obsZ oks fn (He.frT g (asS g n)), He.tabsB g tf (He.frT g (asS g n)))
structure SaysY (oks : List Fct) (fn : List He5.DefA) (tf : List He.Defn) (h : Heap) (K : PySem.W.Frag) : Prop where
  z : SaysZ oks fn K
  hd : ∀ q ∈ tf, PySem.W.codeHdIn K (He.cT K q).1 (He.cT K q).2 = true
  out : ∀ q ∈ tf, K.lookup (He.cT K q).2 = none
  em : ∀ q ∈ tf, h.get? (He.cT K q).2 = some emT
theorem saysY_of {n : Nat} {oks : List Fct} {fn : List He5.DefA} {tf : List He.Defn} {h : Heap} (e : obsYG n oks fn tf h.get? = (He5.valA fn, true)) : SaysY oks fn tf h (He.frT h.get? (asS h.get? n)) := by
  have t : He.tabsB h.get? tf (He.frT h.get? (asS h.get? n)) = true := congrArg (fun z : AlY => z.2) e
  have each : ∀ q ∈ tf, PySem.W.codeHdIn (He.frT h.get? (asS h.get? n)) (He.cT (He.frT h.get? (asS h.get? n)) q).1 (He.cT (He.frT h.get? (asS h.get? n)) q).2 = true ∧ ∃ o, h.get? (He.cT (He.frT h.get? (asS h.get? n)) q).2 = some o ∧ He.emptyTab o = true := fun q hq => by
    obtain ⟨t1, t2⟩ := He.ba (List.all_eq_true.mp t q hq)
    refine ⟨t1, ?_⟩
    cases z : h.get? (He.cT (He.frT h.get? (asS h.get? n)) q).2 with
    | none => rw [z] at t2; cases t2
    | some o => rw [z] at t2; exact ⟨o, rfl, t2⟩
  refine ⟨congrArg (fun z : AlY => z.1) e, fun q hq => (each q hq).1, fun q hq => ?_, fun q hq => ?_⟩
  · obtain ⟨_, o, z1, z2⟩ := each q hq
    exact He.frT_none z1 z2
  · obtain ⟨_, o, z1, z2⟩ := each q hq
    rw [z1, He.emptyTab_eq z2]
def hookY (n : Nat) (oks : List Fct) (fn : List He5.DefA) (tf : List He.Defn) : PySem.W.Hook where
  α := AlY
  obs := fun s => obsYG n oks fn tf s.heap.get?
  val := fun _ => (He5.valA fn, true)
  says := fun _ h => ∃ K : PySem.W.Frag, K.In h ∧ SaysY oks fn tf h K
  of := fun _ _ e => ⟨_, He.frT_in, saysY_of e⟩
  keeps := fun _ _ _ ⟨K, hK, c⟩ k => ⟨K, PySem.W.Frag.In.keeps hK k, ⟨c.z, c.hd, c.out, fun q hq => k _ _ (c.em q hq)⟩⟩
theorem obsYG_eq {n : Nat} {oks : List Fct} {fn : List He5.DefA} {tf : List He.Defn} {g : Addr → Option Obj} {s : Shared} (h : ∀ a, g a = s.heap.get? a) : obsYG n oks fn tf g = (hookY n oks fn tf).obs s := by
  have e : g = s.heap.get? := funext h
  rw [e] <;> rfl
/-- a table by its def -/
def tabQ (p : He.Defn) (q : Str) : Tab_ := fun K => ((He.cT K p).2, q)
theorem code_at {K : PySem.W.Frag} {x qual : Str} {pa : Arguments} {bd : List Stmt} {sc : Scope} {dvs : List V} {kws : List (Str × V)} {p : He.Defn} {fd : FuncData} (F : FunD K x qual pa bd sc dvs kws (He.fAd K p) fd) {cdv : Value} (h : fd.code = cdv) : cdv = .ref (He.cT K p).1 := by
  obtain ⟨oc, od, dV, kV, doc, pm, an, cd1, ct, osl, rfl, lk, hcd, _, _⟩ := F.ex
  obtain ⟨c1, e1⟩ := He.codeIn_ref hcd
  have h1 : cd1 = cdv := h
  have e2 := He.codeOf_eq (p := p) lk (c := c1) e1
  show cdv = .ref (He.codeOf K p)
  rw [e2, ← h1, e1]
def fSys : Fct := fun K => (match K.lookup sysModules with
  | some o => !(o.cls == .type "list")
  | none => false)
theorem Tx.sys {oks : List Fct} {fn : List He5.DefA} {K : PySem.W.Frag} {mg : Str → Option Value} (t : Tx oks fn K mg) (j : Nat) (h : oks[j]? = some fSys := by rfl) : SysK K := by
  have q := t.c.fact j h
  unfold fSys at q
  split at q
  · rename_i o ho
    exact ⟨o, ho, fun z => by rw [z] at q; simp at q⟩
  · cases q
end DF

set_option Elab.async false
set_option linter.all false
set_option maxRecDepth 100000
set_option maxHeartbeats 4000000
namespace DF
open PySem PySem.Spec PyProof.Rows L2
abbrev frzS (i : Nat) (g : Slots → M Out) : Slots → M Out := fun ρ => g (frz1 i ρ)
theorem Rm.deeper {gu : Prop} {k : Nat} {A : Around} (r : Rm gu (k + 1) A) (env : Env) : Rm gu k (A.deeper env) := ⟨r.room.deeper env, r.gd⟩
theorem CmpI.less {X : Cx} {T : Tb} {n m : Nat} {C : Addr} (h : CmpI X T m C) (hl : n ≤ m) : CmpI X T n C := ⟨h.1, fun k hk => h.2 k (Nat.lt_of_lt_of_le hk hl)⟩
end DF

set_option Elab.async false
set_option linter.all false
set_option maxRecDepth 100000
set_option maxHeartbeats 4000000
/-! DFS: the further parts worked out by simp. -/
namespace DF
open PySem L2
section
variable {α β : Type} {ρ : Slots} {pt : Pot}
@[simp] theorem e_intOf (i : Int) : intOf (.int i) = some i := rfl
@[simp] theorem e_chI (f1 f2 : Int → Int → Bool) (fa fb fc : Slots → M D) : chI f1 f2 fa fb fc ρ pt = bndR (fa ρ pt) fun x => bnd (fb ρ) fun y => bnd (opt (intOf x)) fun i => bnd (opt (intOf y)) fun j =>
  if f1 i j then bnd (fc ρ) fun z => bnd (opt (intOf z)) fun k => ret (.bl (f2 j k)) else ret (.bl false) := e_bnd _ _
@[simp] theorem e_raiS (ec n : Nat) (fa : Slots → M (List D)) : raiS ec n fa ρ pt = bndR (fa ρ pt) fun ds => if ds.length = n then fun pt => .exc ec ds pt else fail := e_bnd _ _
@[simp] theorem e_setS (i : Nat) (fi f : Slots → M D) : setS i fi f ρ pt = bndR (f ρ pt) fun d => bnd (opt (ownOf ρ[i]?)) fun ds => bnd (fi ρ) fun k => bnd (opt (intOf k)) fun k => bnd (opt (setL ds k d)) fun ds' => ret (.nx (ρ.set i (some (.own ds')))) := e_bnd _ _
@[simp] theorem e_frzS (i : Nat) (g : Slots → M Out) : frzS i g ρ pt = g (frz1 i ρ) pt := rfl
def tryK (n : Nat) (hs : List Ha) : Res Out → Res Out
  | .exc e fs p => catchS n hs e fs p
  | r => r
@[simp] theorem e_tryS (n : Nat) (g : Slots → M Out) (hs : List Ha) : tryS n g hs ρ pt = tryK n hs (g ρ pt) := by
  unfold tryS tryK
  cases g ρ pt <;> rfl
@[simp] theorem e_tryok (n : Nat) (hs : List Ha) (o : Out) : tryK n hs (.ok o pt) = .ok o pt := rfl
@[simp] theorem e_tryex (n : Nat) (hs : List Ha) (e : Nat) (fs : List D) : tryK n hs (.exc e fs pt) = catchS n hs e fs pt := rfl
@[simp] theorem e_xfE (i ec j : Nat) : xfE i ec j ρ pt = opt (exAt ec j ρ[i]?) pt := rfl
@[simp] theorem e_exAt (ec j : Nat) (fs : List D) : exAt ec j (some (some (.exv ec fs))) = fs[j]? := by simp [exAt]
@[simp] theorem e_endr (i : Nat) (d : D) : endH i (.ok (.rt d) pt) = .ok (.rt d) pt := rfl
def okR : Res D → Res D
  | .ok d p => .ok d p
  | _ => .stuck
@[simp] theorem e_okR (d : D) : okR (.ok d pt) = .ok d pt := rfl
@[simp] theorem e_lamc (hm : M D → M D) (fb : Slots → M D) : lamcE hm fb ρ pt = okR (hm (fb (clrO ρ)) pt) := by
  unfold lamcE
  cases hm (fb (clrO ρ)) pt <;> rfl
theorem e_lamM (n : Nat) (g : M D → Slots → M Out) (m : M D) : lamM n g m pt = bndR (g m (some .lam :: List.replicate n none) pt) finK := by
  unfold lamM bnd bndR
  cases g m (some .lam :: List.replicate n none) pt with
  | ok o q => cases o <;> rfl
  | _ => rfl
@[simp] theorem e_act (m : M D) : actE m ρ pt = if isLam ρ[0]? && noOwnA ρ then m pt else .stuck := by
  unfold actE
  split <;> rfl
@[simp] theorem e_isLam : isLam (some (some .lam)) = true := rfl
@[simp] theorem e_makeK (kc n n0 m : Nat) (fm : List D → M (List D)) (sel : List (Bool × Nat)) (dd : List D) (fa fk : Slots → M (List D)) : makeKE kc n n0 m fm sel dd fa fk ρ pt = bndR (fa ρ pt) fun ds => bnd (fk ρ) fun es =>
  if ds.length = n0 ∧ es.length = m ∧ (ds ++ pick sel dd es).length + 1 = n then bnd (fm (ds ++ pick sel dd es)) fun fs => ret (.obj kc fs) else fail := e_bnd _ _
@[simp] theorem e_binL (g : D → D → M (List D)) (fa fb : Slots → M D) : binL g fa fb ρ pt = bndR (fa ρ pt) fun x => bnd (fb ρ) fun y => g x y := e_bnd _ _
@[simp] theorem e_kD (nC : Nat) (i : List (Key × D)) : knd nC (.dct i) = some (.inl "dict") := rfl
@[simp] theorem e_ixS (x : Str) (i : Int) : ixM (.str x) (.int i) pt = opt (if x.length ≤ 1000000 then (atI x.cps.toList i).map fun n => .str ⟨#[n]⟩ else none) pt := rfl
@[simp] theorem e_itS (x : Str) : itemsOf (.str x) = some (chars x) := rfl
@[simp] theorem e_nonI (i : Int) : isN (.int i) .non = some (.bl false) := rfl
theorem e_lCat (a b : List D) (h : a.length + b.length ≤ 100000) : lCat (.lst a) (.lst b) pt = .ok (a ++ b) pt := by
  show (if a.length + b.length ≤ 100000 then ret (a ++ b) else fail) pt = _
  rw [if_pos h]
  rfl
/-- a comprehension without effects -/
theorem comp_pure {i : Nat} {t : Slots → M Bool} {f : Slots → M D} {p : D → Bool} {F : D → D} (hi : i < ρ.length) : ∀ (items acc : List D), (∀ d ∈ items, t (ρ.set i (some (.val d))) pt = .ok (p d) pt ∧ f (ρ.set i (some (.val d))) pt = .ok (F d) pt) → acc.length + items.length ≤ 100000 →
    compL (tgN i) t f ρ items acc pt = .ok (acc ++ (items.filter p).map F) pt
  | [], acc, _, _ => by simp
  | d :: items, acc, h, hl => by
    obtain ⟨h1, h2⟩ := h d List.mem_cons_self
    have ih := comp_pure (t := t) (f := f) (p := p) (F := F) hi items
    simp only [List.length_cons] at hl
    rw [e_compL]
    simp only [e_tgN, hi, if_true, e_some, e_bndok, e_bnd, e_noX, h1, e_noXok]
    cases hp : p d with
    | true =>
      rw [if_pos rfl]
      simp only [e_bnd, e_noX, h2, e_noXok, e_bndok]
      rw [if_pos (by omega), ih (acc ++ [F d]) (fun e he => h e (List.mem_cons_of_mem _ he)) (by simp; omega)]
      simp [hp]
    | false =>
      rw [if_neg (by simp), ih acc (fun e he => h e (List.mem_cons_of_mem _ he)) (by omega)]
      simp [hp]
end
end DF

set_option Elab.async false
set_option linter.all false
set_option maxRecDepth 100000
set_option maxHeartbeats 4000000
namespace DF
open PySem PySem.Spec PyProof.Rows L2
/-! ### exceptions as values: isinstance -/
section
open PySem.W PySem.Calls
variable {prog : Program} {w : World} {A : Around} {E : Value → Shared → Prop} {s : Shared} {K : Frag} {x D : Addr} {ox : Obj} {od : Option Obj}
theorem ex_class {Q : Option Value → Shared → Prop} (T : ExcC K D) (X : K.In s.heap) (I : InstAt s.heap x ox D od) (h : Q (some (.ref D)) { s with toks := s.toks + 1 }) : wpAny (model prog w) A (getAttr? (.ref x) "__class__") Q E s := by
  have isD : (clsIn K D).isSome = true := by obtain ⟨cd, hc, _⟩ := any_some T.hd; rw [hc]; rfl
  have fo : findObj K D od "__class__" = some (.bind (.builtin "getset_descriptor.__get__") (.builtin "object.__class__")) := by
    cases od with
    | none => exact findObj_dataN isD T.ha T.hn T.ht
    | some o => exact findObj_data isD T.ha T.hn T.ht
  obtain ⟨hp, g, d, t, os⟩ := s
  have K0 := I.type (M := model prog w)
  have K1 := looks_findIn (M := model prog w) X T.hg
  have K2 := looks_findIn (M := model prog w) X T.hk
  have K3 := looks_find (M := model prog w) X I fo
  have isE : Looks (model prog w) hp (isInstance (.ref x) (.type "BaseException")) true := K0.andThen (looks_subIn X T.hs)
  have b2 : (Value.builtin "BaseException.__getattribute__" == Value.builtin "object.__getattribute__") = false := by decide +kernel
  have b1 : (onTheHeap (Value.ref D) && Value.builtin "BaseException.__getattribute__" == Value.builtin "object.__getattribute__") = false := by rw [b2]; rfl
  have b0 : (false && onTheHeap (Value.builtin "BaseException.__getattribute__")) = false := rfl
  unfold getAttr? getAttrBy? getAttrBy
  refine wpAny_bind (wpAny_mkText (wpAny_bind (wpAny_attempt (wpAny_holding (wpAny_bind (K0.at (wpAny_bind (K1.at ?_))))))))
  show wpAny _ _ (if (onTheHeap (Value.ref D) && Value.builtin "BaseException.__getattribute__" == Value.builtin "object.__getattribute__") = true then _ else _) _ _ _
  rw [b1, if_neg Bool.false_ne_true]
  unfold getAttrByItsOwn hookBefore
  refine wpAny_bind ?_
  rw [if_pos (show onTheHeap (Value.ref D) = true from rfl)]
  refine K2.at (wpAny_bind (wpAny_attempt (wpAny_holding ?_)))
  unfold callGetattribute
  rw [b0, if_neg Bool.false_ne_true]
  unfold boundAndCalled
  rw [PySem.F.excAttr_ValueError.ga.bind (.ref x)]
  refine wpAny_bind (wpAny_pure ?_)
  show wpAny _ _ (call (.builtin "BaseException.__getattribute__") [.ref x, .str "__class__" t]) _ _ _
  refine wpAny_call (codeAny_call_builtin PySem.F.excAttr_ValueError.ga.plain PySem.F.entry_bexc_ga (@check_slot (model prog w) _ _ ⟨hp, g, d, t + 1, os⟩ "BaseException.__getattribute__" "BaseException" "__getattribute__" (.ref x) [.str "__class__" t] [] _ (by decide +kernel) (by decide +kernel) isE (PySem.F.args_bexc_ga (.ref x) (.str "__class__" t)) ?_))
  unfold Builtin.«object.__getattribute__»
  refine wpAny_bind (wpAny_of_eq (a := ((Value.ref x : Value), [Value.str "__class__" t])) (by first | rfl | (simp only [slotArgs]; rfl)) ?_)
  refine wpAny_bind (wpAny_pure (wpAny_bind (K0.at (wpAny_bind (K3.at ?_)))))
  show wpAny _ _ (holding [Value.builtin "object.__class__"] (call (.builtin "getset_descriptor.__get__") [.builtin "object.__class__", .ref x, .ref D]) >>= PySem.ret) _ _ _
  refine wpAny_bind (wpAny_holding (wpAny_call (class_get (s := ⟨hp, g, d, t + 1, os⟩) (ox := ox) (od := od) X I T.hm ?_)))
  refine wpAny_pure ?_
  show wpAny _ _ (handedOut (.ref D)) _ _ _
  rw [handedOut_of (v := .ref D) rfl]
  first
    | exact wpAny_pure (wpAny_pure h)
    | exact wpAny_pure h
    | exact wpAny_pure (wpAny_bind (wpAny_pure (wpAny_pure h)))
theorem ex_kit (T : ExcC K D) : KitX K (.ref x) (.ref D) (fun h => ∃ ox od, InstAt h x ox D od) where
  ty := fun _ _ _ ⟨_, _, I⟩ => I.type
  it := fun _ _ X _ => by
    obtain ⟨cd, hc, _⟩ := any_some T.hd
    unfold clsIn at hc
    split at hc
    · rename_i o1 o2 o3 o4 ho
      intro A1 Q1 E1 s1 k q
      unfold isType loadHead
      exact wpAny_bind (wpAny_loadPart (k _ _ (X _ _ ho)) (wpAny_pure q))
    · cases hc
  ne := fun h tp dd its n sl X at1 => by
    obtain ⟨cd, hc, _⟩ := any_some T.hd
    refine Bool.eq_false_iff.mpr fun q => ?_
    have e : D = tp := Value.ref.inj (beq_iff_eq.mp q)
    subst e
    unfold clsIn at hc
    split at hc
    · rename_i o1 o2 o3 o4 ho
      cases (X _ _ ho).symm.trans at1
    · cases hc
  ca := fun X ⟨_, _, I⟩ k => ex_class T X I k
end
def exAt0 (H : Hp) (a D : Addr) : Prop := ∃ dd, H a = some (exo a D dd) ∧ (dd = none ∨ ∃ d fl, dd = some d ∧ H d = some (exd d fl))
theorem ex_inst {P : Program} {w : World} {H : Hp} {h : Heap} {a D : Addr} (hok : HOk P w H h) (e : exAt0 H a D) : ∃ ox od, PySem.W.InstAt h a ox D od := by
  obtain ⟨dd, e1, e2⟩ := e
  obtain ⟨t1, ho⟩ := exo_at hok e1
  rcases e2 with rfl | ⟨d, fl, rfl, e2⟩
  · exact ⟨_, none, ho, rfl, rfl, trivial⟩
  · obtain ⟨mA, hns, _⟩ := exd_at hok e2
    obtain ⟨o, _, _, q, _⟩ := hns
    exact ⟨_, some o, ho, rfl, rfl, q⟩
def rIsx (K : PySem.W.Frag) : List V → Hp → VK → Prop := fun xs H Q => ∃ (a D : Addr) (c : V) (cv : Value) (b : Bool), xs = [.ref a, c] ∧ exAt0 H a D ∧ ExcC K D ∧ ClsV c cv ∧ PySem.W.kitOne K (.ref D) cv = some b ∧ Q (.bl b) H
theorem call_isx {X : Cx} : CallR X (.builtin "isinstance") (rIsx X.K) := by
  intro pins s σ H xs us Q I r h
  obtain ⟨a, D, c, cv, b, rfl, ea, T, hc, e, q⟩ := h
  obtain ⟨u1, u2, rfl, r1, r2⟩ := vals2 r
  cases hc.eq r2
  cases (show u1 = Value.ref a from r1)
  exact PySem.W.kia_one (ex_kit T) I.kIn (ex_inst I.hok ea) e (fun z => nomatch z) fun tk => ⟨.bl b, H, I.tok tk, rfl, q⟩
/-- the exception that was caught -/
def rIsv (K : PySem.W.Frag) (a : Addr) (cls : Value) (dd : Option Addr) : List V → Hp → VK → Prop := fun xs H Q => ∃ (D : Addr) (c : V) (cv : Value) (b : Bool), xs = [.ref a, c] ∧ cls = .ref D ∧ (dd = none ∨ ∃ d fl, dd = some d ∧ H d = some (.xd fl)) ∧ ExcC K D ∧ ClsV c cv ∧ PySem.W.kitOne K (.ref D) cv = some b ∧ Q (.bl b) H
theorem call_isv {X : Cx} {a : Addr} {oe : Obj} {cls : Value} {dd : Option Addr} {pn : List (Addr × Obj)} (hz : Zc cls dd oe) (hf : ∃ vs, oe.data = .fields vs) : CallR (X.suite a ((a, oe) :: pn)) (.builtin "isinstance") (rIsv X.K a cls dd) := by
  intro pins s σ H xs us Q I r h
  obtain ⟨D, c, cv, b, rfl, rfl, ed, T, hc, e, q⟩ := h
  obtain ⟨u1, u2, rfl, r1, r2⟩ := vals2 r
  cases hc.eq r2
  cases (show u1 = Value.ref a from r1)
  obtain ⟨ha, _⟩ := I.pin (a, oe) (List.mem_append_left _ List.mem_cons_self)
  obtain ⟨vs, hd⟩ := hf
  have J : ∃ ox od, PySem.W.InstAt s.heap a ox D od := by
    rcases ed with rfl | ⟨d, fl, rfl, ed⟩
    · exact ⟨oe, none, ha, hz.1, by unfold PySem.W.notCls; rw [hd] <;> rfl, by rw [hz.2]; trivial⟩
    · have hx : ObjOk X.prog X.w H s.heap d (.xd fl) := I.hok d _ ed
      obtain ⟨mA, hns, hr⟩ := hx
      obtain ⟨o, _, _, q2, _⟩ := hns
      exact ⟨oe, some o, ha, hz.1, by unfold PySem.W.notCls; rw [hd] <;> rfl, by rw [hz.2]; exact q2⟩
  exact PySem.W.kia_one (ex_kit T) I.kIn J e (fun z => nomatch z) fun tk => ⟨.bl b, H, I.tok tk, rfl, q⟩
section
variable {X : Cx} {c : Cy} {W : WX} {e o : Expr} {p pos : Pos} {fo : Slots → M D}
theorem ex_at {O : List (Nat × Addr)} {H : Hp} {k : Nat} {fs : List D} {v : V} (h : c.R (Hd (hid c O) H) (.ex k fs) v) : ∃ a, v = .ref a ∧ exAt0 H a (c.T.cls k) := by
  simp only [Cy.R, R] at h
  obtain ⟨a, dd, vs, rfl, e, _, _, q⟩ := h
  exact ⟨a, rfl, dd, Hd.le _ _ e, q.imp (·.1) fun ⟨d, fl, e1, e2, _⟩ => ⟨d, fl, e1, Hd.le _ _ e2⟩⟩
def exAns (ans : Nat → Option Bool) : D → Option D
  | .ex k _ => (ans k).map .bl
  | _ => none
def isxE (ans : Nat → Option Bool) (fo : Slots → M D) : Slots → M D := fun ρ => bnd (fo ρ) fun x => opt (exAns ans x)
theorem de_isx {y : Str} {ce : Expr} {cv : V} {u : Value} {ans : Nat → Option Bool} (ho : PE X e (dE c W fo)) (hce : PE X ce (tC cv)) (hu : ClsV cv u) (ha : ∀ k b, ans k = some b → ExcC X.K (c.T.cls k) ∧ PySem.W.kitOne X.K (.ref (c.T.cls k)) u = some b)
    (hm : X.mg y = none) (hv : bootBuiltins y = some (.builtin "isinstance")) (hg : Gl X y := by rfl) (hn : y ≠ "__name__" := by decide) (hdb : (y == ("__debug__" : Str)) = false := by decide)
    (he : starEach [e, ce] X.env = (false, eval e X.env) :: starEach [ce] X.env := by rfl) (he2 : starEach [ce] X.env = (false, eval ce X.env) :: starEach [] X.env := by rfl) (hpl : (backTo pos (starEach [ce] X.env)).any (·.1) = false := by rfl) :
    PE X (.Call (.Name y p) [e, ce] [] pos) (dE c W (isxE ans fo)) := by
  refine pe_imp (pe_callB call_isx hg hm hv (pa_cons ho (pa_cons hce pa_nil he2) he) hn hdb he hpl) fun σ H Q ⟨O, ρ, pt, r, q⟩ => ⟨O, ρ, pt, r, (Wg.bnd q).imp fun z p1 H1 _ s1 q v rv => ?_⟩
  obtain ⟨d, ed, q⟩ := Wg.opt q s1.pot
  unfold exAns at ed
  split at ed
  · rename_i k fs _
    cases eb : ans k with
    | none => rw [eb] at ed; cases ed
    | some b =>
      rw [eb] at ed
      cases ed
      obtain ⟨a, rfl, ea⟩ := ex_at rv
      exact ⟨a, _, cv, u, b, rfl, ea, (ha k b eb).1, hu, (ha k b eb).2, q _ (by simp [Cy.R, R])⟩
  · cases ed
def exvAns (ans : Nat → Option Bool) : Option (Option SV) → Option D
  | some (some (.exv k _)) => (ans k).map .bl
  | _ => none
def isvE (i : Nat) (ans : Nat → Option Bool) : Slots → M D := fun ρ => opt (exvAns ans ρ[i]?)
theorem de_isv {i : Nat} {n y : Str} {a : Addr} {oe : Obj} {cls : Value} {d : Option Addr} {pn : List (Addr × Obj)} {ce : Expr} {cv : V} {u : Value} {ans : Nat → Option Bool} {p2 : Pos} (hce : PE (X.suite a ((a, oe) :: pn)) ce (tC cv)) (hu : ClsV cv u)
    (ha : ∀ k b, ans k = some b → ExcC X.K (c.T.cls k) ∧ PySem.W.kitOne X.K (.ref (c.T.cls k)) u = some b) (hz : Zc cls d oe) (hf : ∃ vs, oe.data = .fields vs) (hm : X.mg y = none) (hv : bootBuiltins y = some (.builtin "isinstance"))
    (hN : X.N[i]? = some n := by rfl) (hvi : Vis X.env.scope n := by first | exact Or.inl rfl | exact Or.inr (Or.inl rfl) | exact Or.inr (Or.inr rfl)) (hd : (n == ("__debug__" : Str)) = false := by decide) (hcd : (n == ("__classdict__" : Str)) = false := by decide)
    (hg : Gl X y := by rfl) (hn : y ≠ "__name__" := by decide) (hdb : (y == ("__debug__" : Str)) = false := by decide)
    (he : starEach [.Name n p2, ce] X.env = (false, eval (.Name n p2) X.env) :: starEach [ce] X.env := by rfl) (he2 : starEach [ce] X.env = (false, eval ce X.env) :: starEach [] X.env := by rfl) (hpl : (backTo pos (starEach [ce] X.env)).any (·.1) = false := by rfl) :
    PE (X.suite a ((a, oe) :: pn)) (.Call (.Name y p) [.Name n p2, ce] [] pos) (dE { c with x := { c.x with a := a, cls := cls, d := d } } W (isvE i ans)) := by
  refine pe_imp (pe_callB (X := X.suite a ((a, oe) :: pn)) (call_isv hz hf) hg hm hv (pa_cons (pe_var (X := X.suite a ((a, oe) :: pn)) (i := i) hN hvi hd hcd) (pa_cons hce pa_nil he2) he) hn hdb he hpl) fun σ H Q ⟨O, ρ, pt, r, h⟩ => ?_
  obtain ⟨z, ez, q⟩ := Wg.opt h r.pot
  unfold exvAns at ez
  split at ez
  · rename_i k fs es
    cases eb : ans k with
    | none => rw [eb] at ez; cases ez
    | some b =>
      rw [eb] at ez
      cases ez
      obtain ⟨e1, e2, e3⟩ := r.sl i _ es
      refine ⟨.ref a, e1, ?_⟩
      refine ⟨_, cv, u, b, rfl, e2, ?_, (ha k b eb).1, hu, (ha k b eb).2, q _ (by simp [Cy.R, R])⟩
      exact e3.imp (·.2) fun ⟨d0, fl, vs, q1, q2, _⟩ => ⟨d0, fl, q1, Hd.le _ _ q2⟩
  · cases ez
/-! ### their fields -/
def tXv (K : PySem.W.Frag) (f : Str) (te : TE) : TE := fun σ H Q => te σ H fun x H1 => ∃ (a D d : Addr) (fl : List (Str × V)) (v : V), x = .ref a ∧ H1 a = some (exo a D (some d)) ∧ H1 d = some (exd d fl) ∧ ExcC K D ∧ NoAttr K D f ∧ fl.lookup f = some v ∧ Q v H1
theorem pe_xv {n : Str} {te : TE} (he : PE X e te) (hb : attributeBase e n X.env (eval e X.env) = eval e X.env := by rfl) : PE X (.Attribute e n pos) (tXv X.K n te) := by
  refine ⟨fun pins s σ H Q I h => attr_of hb (thn (he.run pins s σ H _ I h) fun u s1 ⟨x, H1, I1, rx, a, D, d, fl, v, ex, ea, ed, T, no, l, q⟩ => ?_)⟩
  subst ex
  obtain rfl : u = Value.ref a := rx
  obtain ⟨t1, ho⟩ := exo_at I1.hok ea
  obtain ⟨mA, hns, hr⟩ := exd_at I1.hok ed
  obtain ⟨od, hod, hl⟩ := lookIn_ns hns
  obtain ⟨u, hu, ru⟩ := RelO.some_of (v := v) (o := mA n) (by rw [← l]; exact hr n)
  have J : PySem.W.InstAt s1.heap a _ D (some od) := ⟨ho, rfl, rfl, hod⟩
  exact HandSPX.exc_get I1.kIn J T.hg T.hk T.hs (PySem.W.findObj_own T.hd no rfl (by rw [hl, hu])) (handed_of ru) ⟨v, H1, I1.tok _, ru, q⟩
def exFld (ix : Nat → Option Nat) : D → Option D
  | .ex k fs => (ix k).bind fun j => fs[j]?
  | _ => none
def xatE (ix : Nat → Option Nat) (fo : Slots → M D) : Slots → M D := fun ρ => bnd (fo ρ) fun x => opt (exFld ix x)
theorem de_xat {f : Str} {ix : Nat → Option Nat} (ho : PE X e (dE c W fo)) (ha : ∀ k j, ix k = some j → ExcC X.K (c.T.cls k) ∧ NoAttr X.K (c.T.cls k) f ∧ (c.T.names k)[j]? = some f) (hb : attributeBase e f X.env (eval e X.env) = eval e X.env := by rfl) :
    PE X (.Attribute e f pos) (dE c W (xatE ix fo)) := by
  refine pe_imp (pe_xv ho hb) fun σ H Q ⟨O, ρ, pt, r, q⟩ => ⟨O, ρ, pt, r, (Wg.bnd q).imp fun z p1 H1 _ s1 q v rv => ?_⟩
  obtain ⟨d, ed, hq⟩ := Wg.opt q s1.pot
  clear q
  unfold exFld at ed
  split at ed
  · rename_i k fs _
    cases ej : ix k with
    | none => rw [ej] at ed; cases ed
    | some j =>
      rw [ej] at ed
      simp only [Option.bind_some] at ed
      obtain ⟨T, no, hj⟩ := ha k j ej
      simp only [Cy.R, R] at rv
      obtain ⟨a, dd, vs, rfl, e1, _, rl, h⟩ := rv
      rcases h with ⟨_, rfl⟩ | ⟨d0, fl, rfl, e2, e3⟩
      · simp at ed
      · obtain ⟨v, ev, rv⟩ := RL.getD rl ed
        exact ⟨a, _, d0, fl, v, rfl, Hd.le _ _ e1, Hd.le _ _ e2, T, no, e3 j f v hj ev, hq v rv⟩
  · cases ed
end
end DF

set_option Elab.async false
set_option linter.all false
set_option maxRecDepth 100000
set_option maxHeartbeats 4000000
namespace DF
open PySem PySem.Spec PyProof.Rows L2
/-! ### exceptions as values: made -/
theorem kbn_of {K : PySem.W.Frag} {fd : FuncData} {ps : List Str} {n : Nat} (h : Binds K fd ps []) (hn : ps.length = n) : KBn K fd ps n [] (fun us _ => us ++ []) (fun vs _ => vs ++ []) :=
  ⟨fun s us ws X l1 _ => by
    have := h s us X (by rw [List.append_nil, l1, hn])
    simpa using this, fun r1 _ => r1.append .nil⟩
section
variable {gu : Prop} {X : Cx} {c : Cy} {W : WX} {CX : CXT} {k n : Nat} {fI C : Addr} {fd : FuncData} {ps ks : List Str} {sp : Sp} {g : List Value → List Value → List Value} {gV : List V → List V → List V}
theorem run_ox {pins : List (Addr × Obj)} {σ : L2.St} {H : Hp} {s : Shared} {Q : VK} {us ws : List Value} {vs zs : List V} (T : OxG X.K C) (me : Meth X.K C "__init__" fI) (F : FnG gu X.prog X.w X.K X.mg X.base CX k fI fd ps sp) (hr : Rm gu (k + 1) X.A) (hb : KBn X.K fd ps (n + 1) ks g gV) (hx : Passes CX X (fun _ _ _ => False))
    (I : Inv X pins σ H s) (r : Vals vs us) (rz : Vals zs ws) (l1 : vs.length = n) (l2 : zs.length = ks.length) (hn : n ≤ 1000)
    (h : ∀ a, H a = none → sp (gV (.ref a :: vs) zs) (upd H a (exo a C none)) (fun v H2 => v = .non ∧ Q (.ref a) H2) (fun _ _ _ => False)) :
    wpAny (model X.prog X.w) X.A (call (.ref C) us (ks.zip ws)) (EP X pins σ Q) X.xe s := by
  obtain ⟨B, nw, i, bmB, nm, q, N, bs, bm, sn, sub, ab, col, dd, k0, k1, k2, k3, k5, ba, hC, tl⟩ := T.cls
  obtain ⟨hp, g0, dr, tk, os⟩ := s
  have le : hp.objs.size ≤ hp.objs.size + 1 := Nat.le_succ _
  have hq := h (hp.objs.size + 1) (I.hok.fresh le)
  have up : ∀ b o, hp.get? b = some o → ((hp.push (PySem.W.kdv_tup us)).push (PySem.HandSPX.excO C hp.objs.size)).get? b = some o := fun b o z => Heap.get?_push_of_some _ (Heap.get?_push_of_some _ z)
  have at1 : ((hp.push (PySem.W.kdv_tup us)).push (PySem.HandSPX.excO C hp.objs.size)).get? (hp.objs.size + 1) = some (PySem.HandSPX.excO C hp.objs.size) := by heap_get
  have J := I.laid (t' := tk) (a := hp.objs.size + 1) (o := exo (hp.objs.size + 1) C none) up le (exo_ok at1)
  have r1 : Vals (V.ref (hp.objs.size + 1) :: vs) (Value.ref (hp.objs.size + 1) :: us) := .cons rfl r
  have lu : (Value.ref (hp.objs.size + 1) :: us).length = n + 1 := r1.length.symm.trans (congrArg (· + 1) l1)
  have hus : us.length ≤ sizeLine := by
    rw [← Paired.length r, sizeLine_eq, l1]
    omega
  have go := F.run _ X.stack _ _ ⟨Value.ref (hp.objs.size + 1) :: us, ks.zip ws⟩ _ _ _ (fun _ _ _ => False) (hr.make C us (ks.zip ws)) (J.env0.make C us (ks.zip ws)) (hb.to _ (Value.ref (hp.objs.size + 1) :: us) ws J.kIn lu (rz.length.symm.trans l2)) (hb.rel r1 rz) hq
  refine wpAny_call (xk_call ba.F (fun Y => PySem.W.excTail_contains Y bm tl) (I.kIn _ _ hC) (PySem.W.looks_findIn I.kIn me.at_) (fun self => PySem.W.bind_fn I.kIn self (beq_iff_eq.mp me.fn)) hus (codeAny_mono go fun r z hz => ?_))
  match r, hz with
  | .error er, hz => exact hx pins σ _ _ er z J hz
  | .ok (.ret u), hz =>
    obtain ⟨v, H', I3, rv, ev, q3⟩ := J.after hz
    subst ev
    exact ⟨rv, ⟨V.ref (hp.objs.size + 1), H', I3, rfl, q3⟩⟩
theorem upd_aba {H : Hp} {a d : Addr} {o1 o2 o3 : HO} (ne : d ≠ a) : upd (upd (upd H a o1) d o2) a o3 = upd (upd H d o2) a o3 := by
  funext b
  by_cases h1 : b = a
  · subst h1
    rw [upd_same, upd_same]
  · rw [upd_ne h1, upd_ne h1]
    by_cases h2 : b = d
    · subst h2
      rw [upd_same, upd_same]
    · rw [upd_ne h2, upd_ne h2, upd_ne h1]
theorem spX_of {σ : L2.St} {H : Hp} {O : List (Nat × Addr)} {ρ : Slots} {pt : Pot} {ec : Nat} {ds : List D} {ws : List V} {a : Addr} {Q : VK} {E : XK} (r : RS c O ρ σ H pt) (rl : c.RL (Hd (hid c O) H) ds ws) (hl : ds.length = (c.T.names ec).length) (ha : H a = none)
    (q : ∀ H', Stp c.T.tb c.p H H' pt → ∀ v, c.R (Hd (hid c O) H') (.ex ec ds) v → Q v H') : spX c.T ec (.ref a :: ws) (upd H a (exo a (c.T.cls ec) none)) (fun v H2 => v = .non ∧ Q (.ref a) H2) E := by
  refine ⟨a, ws, rfl, by rw [← RL.len rl, hl], upd_same, fun d fl hd ne hfl => ⟨rfl, ?_⟩⟩
  rw [upd_aba ne]
  have hd0 : H d = none := by rw [← upd_ne (H := H) (o := exo a (c.T.cls ec) none) ne]; exact hd
  have s1 : Stp c.T.tb c.p H (upd H d (exd d fl)) pt := Stp.new r.pot hd0
  have ha1 : upd H d (exd d fl) a = none := by rw [upd_ne (Ne.symm ne)]; exact ha
  have s2 := s1.newK (o := exo a (c.T.cls ec) (some d)) ha1
  have g : Gr (Hd (hid c O) H) (Hd (hid c O) (upd (upd H d (exd d fl)) a (exo a (c.T.cls ec) (some d)))) := (Hd.new hd0).trans (Hd.new ha1)
  refine q _ s2 _ ?_
  simp only [Cy.R, R]
  refine ⟨a, some d, ws, rfl, Hd.at_new (fun z => r.fresh ha z) rfl, hl, RL.gr g rl, .inr ⟨d, fl, rfl, Hd.out (fun z => r.fresh hd0 z) (by rw [upd_ne ne, upd_same]) rfl, hfl⟩⟩
def exKE (ec n n0 m : Nat) (sel : List (Bool × Nat)) (fa fk : Slots → M (List D)) : Slots → M D := fun ρ => bnd (fa ρ) fun ds => bnd (fk ρ) fun es =>
  if ds.length = n0 ∧ es.length = m ∧ (ds ++ pick sel [] es).length = n then ret (.ex ec (ds ++ pick sel [] es)) else fail
def exPE (ec n : Nat) (fa : Slots → M (List D)) : Slots → M D := fun ρ => bnd (fa ρ) fun ds => if ds.length = n then ret (.ex ec ds) else fail
variable {x : Str} {p pos : Pos} {e : Expr} {es : List Expr} {kws : List Keyword} {fa fk : Slots → M (List D)} {ec m : Nat} {sel : List (Bool × Nat)}
/-- C(e, ..) -/
theorem de_exP (tk : Takes X W) (T : OxG X.K (c.T.cls ec)) (me : Meth X.K (c.T.cls ec) "__init__" fI) (F : FnG gu X.prog X.w X.K X.mg X.base (L2.CX X.prog X.w) k fI fd ps (spX c.T ec)) (hr : Rm gu (k + 1) X.A) (hb : Binds X.K fd ps []) (hm : X.mg x = some (.ref (c.T.cls ec))) (hn : (c.T.names ec).length = n) (ha : PA X (e :: es) (dA c W fa))
    (hps : ps.length = n + 1 := by rfl) (hn1 : n ≤ 1000 := by decide) (hg : Gl X x := by rfl) (hdb : (x == ("__debug__" : Str)) = false := by decide) (he : starEach (e :: es) X.env = (false, eval e X.env) :: starEach es X.env := by rfl) (hpl : (backTo pos (starEach es X.env)).any (·.1) = false := by rfl) :
    PE X (.Call (.Name x p) (e :: es) [] pos) (dE c W (exPE ec n fa)) := by
  refine ⟨fun pins s σ H Q I h => wpAny_Call_Name_kw (ld_glob I hg hm ?_ hdb)⟩
  have h2 : dA c W fa σ H fun vs H1 => vs.length = n ∧ ∀ a, H1 a = none → spX c.T ec (.ref a :: (vs ++ [])) (upd H1 a (exo a (c.T.cls ec) none)) (fun v H2 => v = .non ∧ Q (.ref a) H2) (fun _ _ _ => False) := by
    obtain ⟨O, ρ, pt, r, q⟩ := h
    refine ⟨O, ρ, pt, r, (Wg.bnd q).imp fun ds p1 H1 _ s1 q vs rl => ?_⟩
    by_cases hl : ds.length = n
    · rw [if_pos hl] at q
      refine ⟨(RL.len rl).symm.trans hl, fun a hfa => ?_⟩
      rw [List.append_nil]
      exact spX_of (r.stp s1) rl (hl.trans hn.symm) hfa q
    · rw [if_neg hl] at q
      exact q.elim
  refine PySem.W.callWith_K (h₀ := X.base) I.ok.mod.kin T.kp (thn (ha.run pos pins s σ H _ I h2) fun us s1 ⟨vs, H1, I1, r1, l1, q1⟩ => ⟨I1.kIn, ?_⟩) he hpl
  exact run_ox (ks := []) (ws := []) (zs := []) T me F hr (kbn_of hb hps) passL I1 r1 .nil l1 rfl hn1 q1
/-- C(k = e, ..) -/
theorem de_exK0 (tk : Takes X W) (T : OxG X.K (c.T.cls ec)) (me : Meth X.K (c.T.cls ec) "__init__" fI) (F : FnG gu X.prog X.w X.K X.mg X.base (L2.CX X.prog X.w) k fI fd ps (spX c.T ec)) (hr : Rm gu (k + 1) X.A) (hm : X.mg x = some (.ref (c.T.cls ec))) (hn : (c.T.names ec).length = n)
    (hb : KBn X.K fd ps 1 ks g (fun vs zs => vs ++ pick sel [] zs)) (hkw : PK X kws (dA c W fk)) (hg : Gl X x := by rfl)
    (hall : (backToKw pos (keywordEach kws X.env)).all (·.1.isSome) = true := by rfl) (hks : (backToKw pos (keywordEach kws X.env)).filterMap (·.1) = ks := by rfl) (hl : ks.length = m := by rfl) (hdb : (x == ("__debug__" : Str)) = false := by decide)
    (hpl : ((backTo pos (starEach [] X.env)).any (·.1) || (backToKw pos (keywordEach kws X.env)).any (·.1.isNone)) = false := by rfl) :
    PE X (.Call (.Name x p) [] kws pos) (dE c W (exKE ec n 0 m sel nilA fk)) := by
  subst hl
  refine ⟨fun pins s σ H Q I h => wpAny_Call_Name_kw (ld_glob I hg hm ?_ hdb)⟩
  have h2 : dA c W fk σ H fun zs H2 => zs.length = ks.length ∧ ∀ a, H2 a = none → spX c.T ec (.ref a :: ([] ++ pick sel [] zs)) (upd H2 a (exo a (c.T.cls ec) none)) (fun v H3 => v = .non ∧ Q (.ref a) H3) (fun _ _ _ => False) := by
    obtain ⟨O, ρ, pt, r, q⟩ := h
    refine ⟨O, ρ, pt, r, ?_⟩
    have q1 : Wg c W σ H (fun d _ H' => ∀ v, c.R (Hd (hid c O) H') d v → Q v H') (bnd (fk ρ) (fun es => if ([] : List D).length = 0 ∧ es.length = ks.length ∧ ([] ++ pick sel [] es).length = n then ret (.ex ec ([] ++ pick sel [] es)) else fail) pt) := q
    refine (Wg.bnd q1).imp fun es p1 H1 _ s1 q zs rz => ?_
    by_cases hc : ([] : List D).length = 0 ∧ es.length = ks.length ∧ ([] ++ pick sel [] es).length = n
    · rw [if_pos hc] at q
      refine ⟨(RL.len rz).symm.trans hc.2.1, fun a hfa => ?_⟩
      exact spX_of (r.stp s1) (RL.app RL.nil (rl_pick RL.nil rz sel)) (hc.2.2.trans hn.symm) hfa q
    · rw [if_neg hc] at q
      exact q.elim
  refine PySem.W.callWith_KW0 (h₀ := X.base) I.ok.mod.kin T.kp hall ?_ hpl
  refine thn (hkw.run pos pins s σ H _ I h2) fun ws s2 ⟨zs, H2, I2, rz, l2, q2⟩ => ⟨I2.kIn, ?_⟩
  rw [hks]
  exact run_ox (n := 0) (us := []) (vs := []) T me F hr hb passL I2 .nil rz rfl l2 (by decide) q2
end
/-! ### classes without an __init__ of their own -/
structure OxN (K : PySem.W.Frag) (C : Addr) : Prop where
  cls : ∃ (B newId initId : String) (bmB : List Value) (nm q : Str) (N : Addr) (bs bm : List Value) (sn : List Str) (sub : List Value) (ab : Bool) (col : Option Bool) (dd : Option Addr) (k0 k1 k2 k3 k5 : Option Value), BaB B newId initId bmB ∧
    K.lookup C = some (excClassObj nm q C N bs bm true sn sub ab col dd k0 k1 k2 k3 k5 newId) ∧ PySem.W.excTail bmB bm = true ∧ PySem.W.findIn K (.ref C) "__init__" = some (some (.builtin initId))
  kp : PySem.W.keepIn K (.ref C) = true
section
variable {X : Cx} {c : Cy} {W : WX} {x : Str} {p pos : Pos} {ec : Nat}
/-- C() -/
theorem de_ex0 (T : OxN X.K (c.T.cls ec)) (hm : X.mg x = some (.ref (c.T.cls ec))) (hn : c.T.names ec = []) (hg : Gl X x := by rfl) (hdb : (x == ("__debug__" : Str)) = false := by decide) : PE X (.Call (.Name x p) [] [] pos) (dE c W (fun _ => ret (.ex ec []))) := by
  refine ⟨fun pins s σ H Q I h => wpAny_Call_Name_kw (ld_glob I hg hm (PySem.W.callWith_K0 I.kIn T.kp ?_) hdb)⟩
  obtain ⟨B, nw, i, bmB, nm, q, N, bs, bm, sn, sub, ab, col, dd, k0, k1, k2, k3, k5, ba, hC, tl, hi⟩ := T.cls
  obtain ⟨O, ρ, pt, r, hw⟩ := h
  obtain ⟨hp, g0, dr, tk, os⟩ := s
  refine PySem.W.call_B ba.F (fun Y => PySem.W.excTail_contains Y bm tl) (I.kIn _ _ hC) (PySem.W.looks_findIn I.kIn hi) (Nat.zero_le _) fun h1 up e1 _ => ?_
  have le : hp.objs.size ≤ hp.objs.size + 1 := Nat.le_succ _
  have fr : H (hp.objs.size + 1) = none := I.hok.fresh le
  have J := I.laid (t' := tk) (a := hp.objs.size + 1) (o := exo (hp.objs.size + 1) (c.T.cls ec) none) up le (exo_ok e1)
  refine ⟨.ref (hp.objs.size + 1), _, J, rfl, hw _ (Stp.new r.pot fr) _ ?_⟩
  simp only [Cy.R, R]
  exact ⟨_, none, [], rfl, Hd.at_new (fun z => r.fresh fr z) rfl, by rw [hn]; rfl, RL.nil, .inl ⟨rfl, trivial⟩⟩
end
/-! ### the facts -/
section
variable {oks : List Fct} {fn : List He5.DefA} {K : PySem.W.Frag} {h : Heap} {mg : Str → Option Value} {x y z : Str}
def newOf (K : PySem.W.Frag) (C : Addr) : String := (match K.lookup C with
  | some ⟨_, _, _, sl⟩ => (match sl.toList with
    | [_, _, _, _, some (.builtin n), _] => n
    | _ => "")
  | _ => "")
def fOxn (x : Str) : Fct := fun K => oexB K (He.ga K x) && (He.eqO (PySem.W.findIn K (.ref (He.ga K x)) "__init__") (some (some (.builtin (inOf (newOf K (He.ga K x)))))) && PySem.W.keepIn K (.ref (He.ga K x)))
theorem oxnB_ok {C : Addr} (q : oexB K C = true) (q2 : PySem.W.findIn K (.ref C) "__init__" = some (some (.builtin (inOf (newOf K C))))) : ∃ (B newId initId : String) (bmB : List Value) (nm q : Str) (N : Addr) (bs bm : List Value) (sn : List Str) (sub : List Value) (ab : Bool) (col : Option Bool) (dd : Option Addr) (k0 k1 k2 k3 k5 : Option Value), BaB B newId initId bmB ∧
    K.lookup C = some (excClassObj nm q C N bs bm true sn sub ab col dd k0 k1 k2 k3 k5 newId) ∧ PySem.W.excTail bmB bm = true ∧ PySem.W.findIn K (.ref C) "__init__" = some (some (.builtin initId)) := by
  unfold oexB at q
  split at q
  · rename_i dd cd sl ho
    split at q
    · rename_i C' bm k0 k1 k2 k3 n k5 hm hs
      simp only [Bool.and_eq_true, beq_iff_eq, Bool.not_eq_true'] at q
      obtain ⟨rfl, hn, hv, hdi, hdel⟩ := q
      obtain ⟨nm, bs, mro, nsp, qn, hdd, sn, sub, ab, col, del⟩ := cd
      dsimp only at hm hdel hdi
      subst hm hdel hdi
      obtain ⟨l⟩ := sl
      simp only at hs
      subst hs
      obtain ⟨B, ba⟩ := baOf_ok hn
      have en : newOf K C' = n := by unfold newOf; rw [ho]
      rw [en] at q2
      exact ⟨B, n, _, _, nm, qn, nsp, bs, bm, sn, sub, ab, col, dd, k0, k1, k2, k3, k5, ba, ho, hv, q2⟩
    · cases q
  · cases q
theorem Tx.oxn (t : Tx oks fn K mg) (j : Nat) (h : oks[j]? = some (fOxn x) := by rfl) : OxN K (He.ga K x) := by
  have q := t.c.fact j h
  obtain ⟨q1, q⟩ := He.ba q
  obtain ⟨q2, q3⟩ := He.ba q
  exact ⟨oxnB_ok q1 (He.eqO_ok q2), q3⟩
/-- its instances can be asked -/
def fExc (x : Str) : Fct := fun K => xfB K (He.ga K x) && (He.eqO (PySem.W.findIn K (.ref (He.ga K x)) "__class__") (some (some (.builtin "object.__class__"))) && (He.eqO (PySem.W.specialIn K (.builtin "object.__class__") "__get__") (some (some (.builtin "getset_descriptor.__get__"))) &&
  (decide (PySem.W.takesIn K (.builtin "object.__class__") = some true) && decide (PySem.W.mroIn K (He.ga K x) (.type "object") = some true))))
theorem Tx.exc (t : Tx oks fn K mg) (j : Nat) (h : oks[j]? = some (fExc x) := by rfl) : ExcC K (He.ga K x) := by
  have q := t.c.fact j h
  obtain ⟨q1, q⟩ := He.ba q
  obtain ⟨q2, q⟩ := He.ba q
  obtain ⟨q3, q⟩ := He.ba q
  obtain ⟨q4, q5⟩ := He.ba q
  have X := xfB_ok q1
  exact ⟨X.ga, X.gg, X.exC, X.hdC, He.eqO_ok q2, He.eqO_ok q3, of_decide_eq_true q4, of_decide_eq_true q5⟩
end
end DF

set_option Elab.async false
set_option linter.all false
set_option maxRecDepth 100000
set_option maxHeartbeats 4000000
namespace DF
open PySem PySem.Spec PyProof.Rows L2
/-! ### try: raise C(..) except B as e: a suite that goes on -/
def freeAt (i : Nat) (ρ : Slots) : Bool := match ρ[i]? with
  | some (some s) => !isOwn s
  | some none => true
  | none => false
def offS (i : Nat) : Out → M Out
  | .nx ρ => if freeAt i ρ = true ∧ (ρ.set i none).all plainV = true then ret (.nx (ρ.set i none)) else fail
  | .rt d => ret (.rt d)
  | _ => fail
def noR {α : Type} (m : M α) : M α := fun pt => match m pt with
  | .ok a p => .ok a p
  | _ => .stuck
def tryrS (ec n i : Nat) (fa : Slots → M (List D)) (g : Slots → M Out) : Slots → M Out := fun ρ => bnd (noR (fa ρ)) fun ds =>
  if ds.length = n ∧ freeAt i ρ = true ∧ ρ.all plainV = true then bnd (noR (g (ρ.set i (some (.exv ec ds))))) (offS i) else fail
section
variable {X : Cx} {c : Cy} {W : WX} {σ : L2.St} {H H' : Hp} {O : List (Nat × Addr)} {ρ : Slots} {pt pt' : Pot}
theorem freeAt_ne {i : Nat} (h : freeAt i ρ = true) (r : RS c O ρ σ H pt) : ∀ q ∈ O, q.1 ≠ i := fun q hq z => by
  obtain ⟨s, e, o⟩ := r.ow q hq
  unfold freeAt at h
  rw [← z, e] at h
  simp [o] at h
theorem freeAt_lt {i : Nat} (h : freeAt i ρ = true) : i < ρ.length := by
  unfold freeAt at h
  by_cases z : i < ρ.length
  · exact z
  · rw [List.getElem?_eq_none (by omega)] at h
    cases h
/-- a slot that is not own is set anew -/
theorem RS.setF {i : Nat} {s : Option SV} {x : Option V} (r : RS c O ρ σ H pt) (h : freeAt i ρ = true) (hs : ∀ s1, s = some s1 → SlotOk c O H i (some x) s1) : RS c O (ρ.set i s) (σ.set i x) H pt := by
  have hi := freeAt_lt h
  refine ⟨r.pot, fun a o n h m => r.ext a o n h m, r.hp, r.hS, r.new, r.nd, r.nf, by rw [List.length_set, List.length_set, r.len], fun q hq => ?_, fun j s1 hj => ?_⟩
  · rw [List.getElem?_set_ne (Ne.symm (freeAt_ne h r q hq))]
    exact r.ow q hq
  · by_cases ej : j = i
    · subst ej
      rw [List.getElem?_set_self hi] at hj
      rw [List.getElem?_set_self (by rw [← r.len]; exact hi)]
      exact hs s1 (Option.some.inj hj)
    · rw [List.getElem?_set_ne (Ne.symm ej)] at hj ⊢
      exact r.sl j s1 hj
theorem ds_tryr {ec n i k : Nat} {x y nm : Str} {cv : Value} {e : Expr} {es : List Expr} {p pos1 pos2 p3 p4 pos : Pos} {fI : Addr} {fd : FuncData} {ps : List Str} {fa : Slots → M (List D)} {g : Slots → M Out} {st : Stmt} {sts : List Stmt} (nd : X.N.Nodup) (tk : Takes X W) (T1 : OxG X.K (c.T.cls ec)) (me : Meth X.K (c.T.cls ec) "__init__" fI)
    (F1 : FnOk X.prog X.w X.K X.mg X.base (L2.CX X.prog X.w) k fI fd ps (spX c.T ec)) (hr : Room (k + 1) X.A) (hb : Binds X.K fd ps []) (hm : X.mg x = some (.ref (c.T.cls ec))) (hn : (c.T.names ec).length = n)
    (ha : ∀ (pn : List (Addr × Obj)) (xe : Value → Shared → Prop), PA (X.tr pn xe) (e :: es) (dA c W0 fa)) (hcn : Names X y cv) (hy : PySem.W.exmOne X.K (.ref (c.T.cls ec)) cv = some true) (hi : X.N[i]? = some nm) (hl : X.env.kindOf nm = some .local)
    (su : ∀ (a : Addr) (oe : Obj) (cls : Value) (d : Option Addr) (pn : List (Addr × Obj)), Zc cls d oe → (∃ vs, oe.data = .fields vs) → PSs (X.suite a ((a, oe) :: pn)) (st :: sts) (dS { c with x := { c.x with a := a, cls := cls, d := d } } W0 g))
    (hc : X.calm = true := by rfl) (hn1 : n ≤ 1000 := by decide) (hg : Gl X x := by rfl) (hst : X.stack = X.env :: X.outer := by rfl) (hef : X.env.frame = some X.env.locals := by rfl)
    (hdb : (x == ("__debug__" : Str)) = false := by decide) (he : starEach (e :: es) X.env = (false, eval e X.env) :: starEach es X.env := by rfl) (hpl : (backTo pos1 (starEach es X.env)).any (·.1) = false := by rfl) :
    PS X (.Try [.Raise (some (.Call (.Name x p) (e :: es) [] pos1)) none pos2] [.ExceptHandler (some (.Name y p3)) (some nm) (st :: sts) p4] [] [] pos) (dS c W (tryrS ec n i fa g)) := by
  refine ps_imp (try_named (tb := fun W1 => fun _ σ H => tMkO (c.T.cls ec) (spX c.T ec) [] (dA c W0 fa) σ H fun cls d H' => W1 cls d σ H') hst hef nd tk (fun W1 pn xe tk1 po => pss_one (ps_raise (X := X.tr pn xe) hc tk1 (pmk_ox (X := X.tr pn xe) T1 me F1 hr hb passL hg hm (ha pn xe) hdb he hpl))) (.cons hcn hi hl su .nil)) fun E σ H ⟨O, ρ, pt, r, h⟩ => ⟨O, ρ, pt, r, ?_⟩
  unfold tryrS DF.bnd noR at h
  cases ea : fa ρ pt with
  | stuck => rw [ea] at h; exact h.elim
  | exc e1 fs1 p1 => rw [ea] at h; exact h.elim
  | ok ds p1 =>
    rw [ea] at h
    intro H1 s1 vs rl
    simp only at h
    by_cases hz : ds.length = n ∧ freeAt i ρ = true ∧ ρ.all plainV = true
    · rw [if_pos hz] at h
      obtain ⟨hlen, hfr, hpv⟩ := hz
      have lv := RL.len rl
      have r1 := r.stp s1
      refine ⟨by omega, fun a hfa => ⟨a, vs, by rw [List.append_nil], by rw [← lv, hlen, hn], upd_same, fun d fl hd ne hfl => ⟨rfl, d, fl, upd_same, by rw [upd_ne ne, upd_same], by rw [← upd_ne (H := H1) (o := exo a (c.T.cls ec) none) ne]; exact hd, ?_⟩⟩⟩
      have hd1 : H1 d = none := by rw [← upd_ne (H := H1) (o := exo a (c.T.cls ec) none) ne]; exact hd
      rw [del_upd hfa ne]
      have s2 := Stp.new (o := .xd fl) r1.pot hd1
      have r2 := r1.stp s2
      refine ⟨true, hy, fun _ b hb => ?_, fun z => by cases z⟩
      have rc : RS { c with x := { c.x with a := b, cls := .ref (c.T.cls ec), d := some d } } O ρ σ (upd H1 d (.xd fl)) p1 := r2.x_ (c := { c with x := { c.x with a := b, cls := .ref (c.T.cls ec), d := some d } }) rfl ⟨rfl, rfl, rfl⟩ hpv
      have g1 : Gr (Hd (hid c O) H1) (Hd (hid c O) (upd H1 d (.xd fl))) := Hd.new hd1
      have r3 : RS { c with x := { c.x with a := b, cls := .ref (c.T.cls ec), d := some d } } O (ρ.set i (some (.exv ec ds))) (σ.set i (some (.ref b))) (upd H1 d (.xd fl)) p1 := rc.setF hfr fun sv hsv => by
        cases hsv
        exact ⟨rfl, rfl, .inr ⟨d, fl, vs, rfl, Hd.at_new (fun z => r1.fresh hd1 z), hfl, by rw [hlen, hn], RL.gr g1 rl⟩⟩
      refine ⟨O, _, p1, r3, ?_⟩
      have mv : Mv c O H O (upd H1 d (.xd fl)) := (s1.mv r.hp).trans (s2.mv r.hp)
      cases eg : g (ρ.set i (some (.exv ec ds))) p1 with
      | stuck => rw [eg] at h; exact h.elim
      | exc e1 fs1 p2 => rw [eg] at h; exact h.elim
      | ok o p2 =>
        rw [eg] at h
        cases o with
        | bk _ => exact h.elim
        | ct _ => exact h.elim
        | rt d1 => exact fun v H2 f2 rv => h v H2 ⟨f2.pot, fun a o n h m => f2.ext a o n h m, f2.hS⟩ rv
        | nx ρ1 =>
          intro O2 σ2 H2 rs mv2
          unfold offS at h
          simp only at h
          by_cases hq : freeAt i ρ1 = true ∧ (ρ1.set i none).all plainV = true
          · rw [if_pos hq] at h
            have r4 := rs.setF (s := none) (x := none) hq.1 (fun s1 z => nomatch z)
            have r5 : RS c O2 (ρ1.set i none) (σ2.set i none) H2 p2 := RS.x_ r4 rfl ⟨rfl, rfl, rfl⟩ hq.2
            exact h O2 _ H2 r5 (mv.trans mv2)
          · rw [if_neg hq] at h
            exact h.elim
    · rw [if_neg hz] at h
      exact h.elim
end
end DF

set_option Elab.async false
set_option linter.all false
set_option maxRecDepth 100000
set_option maxHeartbeats 4000000
namespace DF
open PySem PySem.Spec PyProof.Rows L2
section
variable {X : Cx} {c : Cy} {W : WX} {pos p1 p2 : Pos}
/-! ### a list times an int -/
theorem RL.rep {K : PySem.W.Frag} {T : Tb} {p : Addr} {H : Hp} {ds : List D} {vs : List V} (h : RL K T p H ds vs) : ∀ n : Nat, RL K T p H (List.replicate n ds).flatten (List.replicate n vs).flatten
  | 0 => RL.nil
  | n + 1 => by
    rw [List.replicate_succ, List.replicate_succ, List.flatten_cons, List.flatten_cons]
    exact RL.app h (RL.rep h n)
def lRep : D → D → M (List D)
  | .lst xs, .int k => if 0 ≤ k ∧ k ≤ 1000 ∧ xs.length ≤ 100 then ret (List.replicate k.toNat xs).flatten else fail
  | _, _ => fail
theorem od_lRep : OpL X c W (binaryOp .Mult) lRep := ⟨_, op_rep, fun σ O ρ pt p1 H H1 Q x y v w rs s1 rx ry q => by
  cases x with
  | lst xs =>
    cases y with
    | int k =>
      simp only [lRep] at q
      by_cases hz : 0 ≤ k ∧ k ≤ 1000 ∧ xs.length ≤ 100
      · rw [if_pos hz] at q
        obtain ⟨a, vs, rfl, ha, ra⟩ := rx.lst
        rw [ry.int]
        refine ⟨a, k, vs, rfl, rfl, ha, by omega, by omega, ?_, fun l hl => new_lst rs s1 (RL.rep ra k.toNat) hl q⟩
        rw [← RL.len ra, sizeLine_eq]
        have h1 : xs.length * k.toNat ≤ 100 * 1000 := Nat.mul_le_mul hz.2.2 (by omega)
        omega
      · rw [if_neg hz] at q
        exact q.elim
    | _ => exact q.elim
  | _ => exact q.elim⟩
def mulU : D → D → M D := orM (pu iMul) (boxM lRep)
theorem od_mulU : OpD X c W (binaryOp .Mult) mulU := od_iMul.or od_lRep.d
/-! ### {k: i} -/
theorem de_dct1 {k : Str} {i : Int} {j1 j2 : Nat} : PE X (.Dict [some (.Constant (.str k) j1 p1)] [.Constant (.int i) j2 p2] pos) (dE c W (cE (.dct [(.inr k, .int i)]))) := by
  refine pe_imp (pe_disp (pps_cons (pe_str (x := k)) (pe_int (i := i)) pps_nil) rfl rfl (by intro z; cases z) (show 1 ≤ 15 by decide)) fun σ H Q ⟨O, ρ, pt, r, q⟩ l hl => ?_
  refine ⟨upd_same, [(.inr k, .int i)], rfl, (show 1 ≤ 15 by decide), ?_⟩
  have e : upd (upd H l (.dK [])) l (.dK (mergeK [] [(.inr k, .int i)])) = upd H l (.dK [(.inr k, .int i)]) := by
    funext b
    by_cases hb : b = l
    · subst hb
      rw [upd_same, upd_same]
      rfl
    · rw [upd_ne hb, upd_ne hb, upd_ne hb]
  rw [e]
  refine q _ (Stp.new r.pot hl) _ ?_
  simp only [Cy.R, R]
  exact ⟨l, _, rfl, Hd.at_new (r.fresh hl), by simp [RK, R]⟩
end
/-! ### which class an exception stands under -/
section
variable {oks : List Fct} {fn : List He5.DefA} {K : PySem.W.Frag} {h : Heap} {mg : Str → Option Value} {x y z : Str}
/-- of the classes cs: which stand under u -/
def fKit (u : PySem.W.Frag → Value) (cs : List Str) (bs : List (Option Bool)) : Fct := fun K => (List.zip cs bs).all fun q => match q.2 with
  | some b => decide (PySem.W.kitOne K (.ref (He.ga K q.1)) (u K) = some b)
  | none => true
theorem Tx.kit {cs : List (Str × List Str)} {tf : Tf_} {bs : List (Option Bool)} {u : PySem.W.Frag → Value} (t : Tx oks fn K mg) (j : Nat) (hl : bs.length = cs.length) (h : oks[j]? = some (fKit u (cs.map (·.1)) bs) := by rfl) : ∀ e b, (bs[e]?).join = some b → PySem.W.kitOne K (.ref ((tbOf cs tf K).cls e)) (u K) = some b := fun e b hb => by
  have q := t.c.fact j h
  cases hq : bs[e]? with
  | none => rw [hq] at hb; cases hb
  | some o =>
    rw [hq] at hb
    cases o with
    | none => cases hb
    | some b1 =>
      cases hb
      have hk : e < cs.length := by
        have := (List.getElem?_eq_some_iff.mp hq).1
        omega
      have he : (cs.getD e ("", [])) = cs[e] := by rw [List.getD_eq_getElem?_getD, List.getElem?_eq_getElem hk]; rfl
      have hz : (List.zip (cs.map (·.1)) bs)[e]? = some (cs[e].1, some b) := by
        rw [List.getElem?_zip_eq_some]
        exact ⟨by rw [List.getElem?_map, List.getElem?_eq_getElem hk]; rfl, hq⟩
      have := List.all_eq_true.mp q _ (List.mem_of_getElem? hz)
      show PySem.W.kitOne K (.ref (He.ga K (cs.getD e ("", [])).1)) _ = _
      rw [he]
      exact of_decide_eq_true this
/-- all of these classes' instances can be asked -/
def fExcs (cs : List Str) (bs : List Bool) : Fct := fun K => (List.zip cs bs).all fun q => !q.2 || fExc q.1 K
theorem Tx.excs {cs : List (Str × List Str)} {tf : Tf_} {bs : List Bool} (t : Tx oks fn K mg) (j : Nat) (hl : bs.length = cs.length) (h : oks[j]? = some (fExcs (cs.map (·.1)) bs) := by rfl) : ∀ e, bs[e]? = some true → ExcC K ((tbOf cs tf K).cls e) := fun e hq => by
  have q := t.c.fact j h
  have hk : e < cs.length := by
    have := (List.getElem?_eq_some_iff.mp hq).1
    omega
  have he : (cs.getD e ("", [])) = cs[e] := by rw [List.getD_eq_getElem?_getD, List.getElem?_eq_getElem hk]; rfl
  have hz : (List.zip (cs.map (·.1)) bs)[e]? = some (cs[e].1, true) := by
    rw [List.getElem?_zip_eq_some]
    exact ⟨by rw [List.getElem?_map, List.getElem?_eq_getElem hk]; rfl, hq⟩
  have q1 : fExc cs[e].1 K = true := by simpa using List.all_eq_true.mp q _ (List.mem_of_getElem? hz)
  show ExcC K (He.ga K (cs.getD e ("", [])).1)
  rw [he]
  unfold fExc at q1
  obtain ⟨q1, q⟩ := He.ba q1
  obtain ⟨q2, q⟩ := He.ba q
  obtain ⟨q3, q⟩ := He.ba q
  obtain ⟨q4, q5⟩ := He.ba q
  have X := xfB_ok q1
  exact ⟨X.ga, X.gg, X.exC, X.hdC, He.eqO_ok q2, He.eqO_ok q3, of_decide_eq_true q4, of_decide_eq_true q5⟩
def fNoats (f : Str) (cs : List Str) (bs : List (Option Nat)) : Fct := fun K => (List.zip cs bs).all fun q => q.2.isNone || fNoat q.1 f K
theorem Tx.xats {cs : List (Str × List Str)} {tf : Tf_} {f : Str} {bs : List Bool} {ixs : List (Option Nat)} (t : Tx oks fn K mg) (j1 j2 : Nat) (hb : bs.length = cs.length) (ht : bs.all id = true) (hl : ixs.length = cs.length) (hn : ((cs.zip ixs).all fun q => match q.2 with | some j => decide (q.1.2[j]? = some f) | none => true) = true)
    (h1 : oks[j1]? = some (fExcs (cs.map (·.1)) bs) := by rfl) (h2 : oks[j2]? = some (fNoats f (cs.map (·.1)) ixs) := by rfl) : ∀ k j, (ixs[k]?).join = some j → ExcC K ((tbOf cs tf K).cls k) ∧ NoAttr K ((tbOf cs tf K).cls k) f ∧ ((tbOf cs tf K).names k)[j]? = some f := fun k j hj => by
  cases hq : ixs[k]? with
  | none => rw [hq] at hj; cases hj
  | some o =>
    rw [hq] at hj
    have ho : o = some j := hj
    subst ho
    have hk : k < cs.length := by
      have := (List.getElem?_eq_some_iff.mp hq).1
      omega
    have he : (cs.getD k ("", [])) = cs[k] := by rw [List.getD_eq_getElem?_getD, List.getElem?_eq_getElem hk]; rfl
    have hbk : bs[k]? = some true := by
      have hk2 : k < bs.length := by omega
      rw [List.getElem?_eq_getElem hk2]
      have := List.all_eq_true.mp ht _ (List.getElem_mem hk2)
      simpa using this
    refine ⟨t.excs j1 hb h1 k hbk, ?_, ?_⟩
    · have q := t.c.fact j2 h2
      have hz : (List.zip (cs.map (·.1)) ixs)[k]? = some (cs[k].1, some j) := by
        rw [List.getElem?_zip_eq_some]
        exact ⟨by rw [List.getElem?_map, List.getElem?_eq_getElem hk]; rfl, hq⟩
      have q1 : fNoat cs[k].1 f K = true := by simpa using List.all_eq_true.mp q _ (List.mem_of_getElem? hz)
      show NoAttr K (He.ga K (cs.getD k ("", [])).1) f
      rw [he]
      exact He.noat_ok q1
    · have hz : (List.zip cs ixs)[k]? = some (cs[k], some j) := by
        rw [List.getElem?_zip_eq_some]
        exact ⟨List.getElem?_eq_getElem hk, hq⟩
      have q1 := List.all_eq_true.mp hn _ (List.mem_of_getElem? hz)
      show ((cs.getD k ("", [])).2)[j]? = some f
      rw [he]
      exact of_decide_eq_true q1
theorem Tx.isx {cs : List (Str × List Str)} {tf : Tf_} {bs : List Bool} {as : List (Option Bool)} {u : PySem.W.Frag → Value} (t : Tx oks fn K mg) (j1 j2 : Nat) (hb : bs.length = cs.length) (ht : bs.all id = true) (hl : as.length = cs.length)
    (h1 : oks[j1]? = some (fExcs (cs.map (·.1)) bs) := by rfl) (h2 : oks[j2]? = some (fKit u (cs.map (·.1)) as) := by rfl) : ∀ k b, (as[k]?).join = some b → ExcC K ((tbOf cs tf K).cls k) ∧ PySem.W.kitOne K (.ref ((tbOf cs tf K).cls k)) (u K) = some b := fun k b hj => by
  refine ⟨t.excs j1 hb h1 k ?_, t.kit j2 hl h2 k b hj⟩
  have hk2 : k < bs.length := by
    cases hq : as[k]? with
    | none => rw [hq] at hj; cases hj
    | some o =>
      have := (List.getElem?_eq_some_iff.mp hq).1
      omega
  rw [List.getElem?_eq_getElem hk2]
  have := List.all_eq_true.mp ht _ (List.getElem_mem hk2)
  simpa using this
end
/-- every parameter is given, some by keywords -/
theorem kbP {K : PySem.W.Frag} {x qual : Str} {params : Arguments} {body : List Stmt} {scope : Scope} {kws : List (Str × V)} {f : Addr} {fd : FuncData} {ps : List Str} (F : FunD K x qual params body scope [] kws f fd) (n : Nat) (ks : List Str) (sel : List (Bool × Nat))
    (h : ∀ (kV doc pm : Value) (an : Option Addr) (cdv ct : Value) (us ws : List Value), us.length = n → ws.length = ks.length → bindArgs (PySem.W.fnOf x qual params body scope .none kV doc pm an cdv ct) ⟨us, ks.zip ws⟩ = pure (ps.zip (us ++ pick sel [] ws))) :
    ∃ mv : List Value, KBn K fd ps n ks (fun us ws => us ++ pick sel mv ws) (fun vs zs => vs ++ pick sel [] zs) := by
  obtain ⟨oc, od, dV, kV, doc, pm, an, cdv, ct, osl, rfl, lk, hcd, hD, hK⟩ := F.ex
  rcases hD with ⟨_, rfl⟩ | ⟨e, _⟩
  · exact ⟨[], ⟨fun s us ws _ l1 l2 => .of_eq (h kV doc pm an cdv ct us ws l1 l2), fun r1 r2 => r1.append (vals_pick .nil r2 sel)⟩⟩
  · exact absurd rfl e
theorem bo_ValueError : bootBuiltins "ValueError" = some (.type "ValueError") := by decide +kernel
theorem bo_LookupError : bootBuiltins "LookupError" = some (.type "LookupError") := by decide +kernel
theorem bo_RuntimeError : bootBuiltins "RuntimeError" = some (.type "RuntimeError") := by decide +kernel
theorem bo_ArithmeticError : bootBuiltins "ArithmeticError" = some (.type "ArithmeticError") := by decide +kernel
end DF

set_option Elab.async false
set_option linter.all false
set_option maxRecDepth 100000
set_option maxHeartbeats 4000000
namespace DF
open PySem PySem.Spec PyProof.Rows L2
/-! ### which class stands under which, by the rows of ancestors -/
section
variable {K : PySem.W.Frag}
def mroB (K : PySem.W.Frag) : List Value → List Str → List String → Bool
  | .ref a :: r, y :: ys, ts => (a == He.ga K y) && mroB K r ys ts
  | .type n :: r, [], t :: ts => (n == t) && mroB K r [] ts
  | [], [], [] => true
  | _, _, _ => false
theorem mroB_ok : ∀ {l : List Value} {ys : List Str} {ts : List String}, mroB K l ys ts = true → l = ys.map (fun y => Value.ref (He.ga K y)) ++ ts.map Value.type
  | .ref a :: r, y :: ys, ts, h => by
    simp only [mroB, Bool.and_eq_true, beq_iff_eq] at h
    rw [mroB_ok h.2, h.1]
    rfl
  | .type n :: r, [], t :: ts, h => by
    simp only [mroB, Bool.and_eq_true, beq_iff_eq] at h
    rw [mroB_ok h.2, h.1]
    rfl
  | [], [], [], _ => rfl
abbrev MTab := List (Str × List Str × List String)
def mro1 (K : PySem.W.Frag) (q : Str × List Str × List String) : Bool := match K.lookup (He.ga K q.1) with
  | some ⟨.type "type", _, .cls cd, _⟩ => mroB K cd.mro q.2.1 q.2.2
  | _ => false
def fMros (tab : MTab) : Fct := fun K => tab.all (mro1 K)
/-- the addresses of the names rise -/
def rise (K : PySem.W.Frag) : Addr → List Str → Bool
  | _, [] => true
  | a, y :: ys => Nat.blt a (He.ga K y) && rise K (He.ga K y) ys
def fRise (ns : List Str) : Fct := fun K => rise K 0 ns
theorem rise_lt : ∀ {ns : List Str} {a : Addr}, rise K a ns = true → ∀ y ∈ ns, a < He.ga K y
  | y :: ys, a, h, z, hz => by
    simp only [rise, Bool.and_eq_true] at h
    have h1 : a < He.ga K y := Nat.le_of_ble_eq_true h.1
    rcases List.mem_cons.mp hz with e | e
    · rw [e]; exact h1
    · exact Nat.lt_trans h1 (rise_lt h.2 z e)
theorem rise_inj : ∀ {ns : List Str} {a : Addr}, rise K a ns = true → ∀ y ∈ ns, ∀ z ∈ ns, He.ga K y = He.ga K z → y = z
  | x :: ys, a, h, y, hy, z, hz, e => by
    simp only [rise, Bool.and_eq_true] at h
    rcases List.mem_cons.mp hy with e1 | e1 <;> rcases List.mem_cons.mp hz with e2 | e2
    · rw [e1, e2]
    · subst e1
      exact absurd e (Nat.ne_of_lt (rise_lt h.2 z e2))
    · subst e2
      exact absurd e.symm (Nat.ne_of_lt (rise_lt h.2 y e1))
    · exact rise_inj h.2 y e1 z e2 e
theorem mro1_cls {q : Str × List Str × List String} (h : mro1 K q = true) : ∃ cd, PySem.W.clsIn K (He.ga K q.1) = some cd ∧ PySem.W.typeIn K (.ref (He.ga K q.1)) = some (.type "type") ∧ cd.mro = q.2.1.map (fun y => Value.ref (He.ga K y)) ++ q.2.2.map Value.type := by
  unfold mro1 at h
  split at h
  · rename_i dd cd sl ho
    refine ⟨cd, ?_, ?_, mroB_ok h⟩
    · unfold PySem.W.clsIn
      rw [ho]
    · show (K.lookup _).map _ = _
      rw [ho]
      rfl
  · cases h
/-- what the rows say of x under y -/
def under (q : Str × List Str × List String) (y : Str) : Bool := q.2.1.contains y
theorem kit_ref {tab : MTab} {ns : List Str} {q p : Str × List Str × List String} (hm : fMros tab K = true) (hr : fRise ns K = true) (hq : q ∈ tab) (hp : p ∈ tab) (hn : p.1 ∈ ns) (hs : ∀ y ∈ q.2.1, y ∈ ns) (h1 : q.1 ∈ q.2.1) : PySem.W.kitOne K (.ref (He.ga K q.1)) (.ref (He.ga K p.1)) = some (q.2.1.contains p.1) := by
  obtain ⟨cd, a1, a2, a3⟩ := mro1_cls (List.all_eq_true.mp hm q hq)
  obtain ⟨ce, b1, b2, b3⟩ := mro1_cls (List.all_eq_true.mp hm p hp)
  unfold PySem.W.kitOne
  by_cases e : He.ga K q.1 = He.ga K p.1
  · have e1 : q.1 = p.1 := rise_inj hr q.1 (hs _ h1) p.1 hn e
    have : q.2.1.contains p.1 = true := by
      rw [← e1]
      exact List.elem_eq_true_of_mem h1
    rw [this, e, if_pos (by simp)]
  · rw [if_neg (by simpa using e)]
    unfold PySem.W.kitCls
    simp only [b1, b2, Option.isSome_some, Bool.true_and]
    rw [if_pos (by simp)]
    show PySem.W.mroIn K (He.ga K q.1) (.ref (He.ga K p.1)) = _
    unfold PySem.W.mroIn
    rw [a1]
    have ne : cd.mro.isEmpty = false := by
      rw [a3]
      cases hz : q.2.1 with
      | nil => rw [hz] at h1; cases h1
      | cons a b => rfl
    simp only [Option.bind_some, ne]
    rw [if_neg (by simp), a3]
    congr 1
    rw [Bool.eq_iff_iff]
    simp only [List.contains_iff_mem, List.mem_append, List.mem_map]
    constructor
    · rintro (⟨y, hy, e2⟩ | ⟨t, _, e2⟩)
      · have e3 : He.ga K y = He.ga K p.1 := by injection e2
        rw [← rise_inj hr y (hs y hy) p.1 hn e3]
        exact hy
      · cases e2
    · intro h
      exact .inl ⟨p.1, h, rfl⟩
theorem kit_type {tab : MTab} {q : Str × List Str × List String} {T : String} (hm : fMros tab K = true) (hq : q ∈ tab) (h1 : q.1 ∈ q.2.1) (hT : PySem.W.kitMeta T = true) : PySem.W.kitOne K (.ref (He.ga K q.1)) (.type T) = some (q.2.2.contains T) := by
  obtain ⟨cd, a1, a2, a3⟩ := mro1_cls (List.all_eq_true.mp hm q hq)
  unfold PySem.W.kitOne
  rw [if_neg (by simp)]
  unfold PySem.W.kitCls
  simp only [hT]
  rw [if_pos trivial]
  show PySem.W.mroIn K (He.ga K q.1) (.type T) = _
  unfold PySem.W.mroIn
  rw [a1]
  have ne : cd.mro.isEmpty = false := by
    rw [a3]
    cases hz : q.2.1 with
    | nil => rw [hz] at h1; cases h1
    | cons a b => rfl
  simp only [Option.bind_some, ne]
  rw [if_neg (by simp), a3]
  congr 1
  rw [Bool.eq_iff_iff]
  simp only [List.contains_iff_mem, List.mem_append, List.mem_map]
  constructor
  · rintro (⟨y, hy, e2⟩ | ⟨t, ht, e2⟩)
    · cases e2
    · cases e2; exact ht
  · intro h
    exact .inr ⟨T, h, rfl⟩
/-- the table holds itself together -/
def tabOk (tab : MTab) : Bool := tab.all fun q => q.2.1.contains q.1 && q.2.1.all fun y => (tab.map (·.1)).contains y
def askR (tab : MTab) (y : Str) (cs : List Str) (bs : List (Option Bool)) : Bool := (tab.map (·.1)).contains y && (List.zip cs bs).all fun q => match q.2 with
  | some b => (match tab.find? (fun z => z.1 == q.1) with
    | some z => z.2.1.contains y == b
    | none => false)
  | none => true
def askT (tab : MTab) (T : String) (cs : List Str) (bs : List (Option Bool)) : Bool := PySem.W.kitMeta T && (List.zip cs bs).all fun q => match q.2 with
  | some b => (match tab.find? (fun z => z.1 == q.1) with
    | some z => z.2.2.contains T == b
    | none => false)
  | none => true
theorem kitR_of {tab : MTab} {y : Str} {cs : List Str} {bs : List (Option Bool)} (hm : fMros tab K = true) (hr : fRise (tab.map (·.1)) K = true) (ho : tabOk tab = true) (h : askR tab y cs bs = true) : fKit (fun K => .ref (He.ga K y)) cs bs K = true := by
  unfold askR at h
  obtain ⟨h0, h⟩ := He.ba h
  refine List.all_eq_true.mpr fun q hq => ?_
  have := List.all_eq_true.mp h q hq
  obtain ⟨x, o⟩ := q
  cases o with
  | none => rfl
  | some b =>
    simp only at this ⊢
    split at this
    · rename_i z hz
      have hz1 := List.mem_of_find?_eq_some hz
      have hz2 : z.1 = x := by simpa using List.find?_some hz
      have hy : y ∈ tab.map (·.1) := List.mem_of_elem_eq_true h0
      obtain ⟨p, hp, ep⟩ := List.mem_map.mp hy
      have o1 := List.all_eq_true.mp ho z hz1
      obtain ⟨o2, o3⟩ := He.ba o1
      have k := kit_ref (q := z) (p := p) hm hr hz1 hp (List.mem_map.mpr ⟨p, hp, rfl⟩) (fun w hw => List.mem_of_elem_eq_true (List.all_eq_true.mp o3 w hw)) (List.mem_of_elem_eq_true o2)
      have ep1 : p.1 = y := ep
      rw [hz2, ep1, beq_iff_eq.mp this] at k
      exact decide_eq_true k
    · cases this
theorem kitT_of {tab : MTab} {T : String} {cs : List Str} {bs : List (Option Bool)} (hm : fMros tab K = true) (ho : tabOk tab = true) (h : askT tab T cs bs = true) : fKit (fun _ => .type T) cs bs K = true := by
  unfold askT at h
  obtain ⟨h0, h⟩ := He.ba h
  refine List.all_eq_true.mpr fun q hq => ?_
  have := List.all_eq_true.mp h q hq
  obtain ⟨x, o⟩ := q
  cases o with
  | none => rfl
  | some b =>
    simp only at this ⊢
    split at this
    · rename_i z hz
      have hz1 := List.mem_of_find?_eq_some hz
      have hz2 : z.1 = x := by simpa using List.find?_some hz
      have o1 := List.all_eq_true.mp ho z hz1
      obtain ⟨o2, o3⟩ := He.ba o1
      have k := kit_type (q := z) (T := T) hm hz1 (List.mem_of_elem_eq_true o2) h0
      rw [hz2, beq_iff_eq.mp this] at k
      exact decide_eq_true k
    · cases this
/-- of the facts of a def's field: the one row for all -/
theorem noats_of {f : Str} : ∀ {cs : List Str} {bs : List (Option Nat)}, (∀ q ∈ List.zip cs bs, q.2.isNone = false → fNoat q.1 f K = true) → fNoats f cs bs K = true := fun h => List.all_eq_true.mpr fun q hq => by
  cases e : q.2.isNone with
  | true => rfl
  | false => simpa using h q hq e
end
/-! ### the Hook at given addresses -/
def rngA : Nat → Nat → List Addr
  | 0, _ => []
  | k + 1, a => a :: rngA k (a + 1)
def obsLG (as : List Addr) (oks : List Fct) (fn : List He5.DefA) (tf : List He.Defn) (g : Addr → Option Obj) : AlY := (obsZ oks fn (He.frT g as), He.tabsB g tf (He.frT g as))
theorem saysL_of {as : List Addr} {oks : List Fct} {fn : List He5.DefA} {tf : List He.Defn} {h : Heap} (e : obsLG as oks fn tf h.get? = (He5.valA fn, true)) : SaysY oks fn tf h (He.frT h.get? as) := by
  have t : He.tabsB h.get? tf (He.frT h.get? as) = true := congrArg (fun z : AlY => z.2) e
  have each : ∀ q ∈ tf, PySem.W.codeHdIn (He.frT h.get? as) (He.cT (He.frT h.get? as) q).1 (He.cT (He.frT h.get? as) q).2 = true ∧ ∃ o, h.get? (He.cT (He.frT h.get? as) q).2 = some o ∧ He.emptyTab o = true := fun q hq => by
    obtain ⟨t1, t2⟩ := He.ba (List.all_eq_true.mp t q hq)
    refine ⟨t1, ?_⟩
    cases z : h.get? (He.cT (He.frT h.get? as) q).2 with
    | none => rw [z] at t2; cases t2
    | some o => rw [z] at t2; exact ⟨o, rfl, t2⟩
  refine ⟨congrArg (fun z : AlY => z.1) e, fun q hq => (each q hq).1, fun q hq => ?_, fun q hq => ?_⟩
  · obtain ⟨_, o, z1, z2⟩ := each q hq
    exact He.frT_none z1 z2
  · obtain ⟨_, o, z1, z2⟩ := each q hq
    rw [z1, He.emptyTab_eq z2]
def hookL (as : List Addr) (oks : List Fct) (fn : List He5.DefA) (tf : List He.Defn) : PySem.W.Hook where
  α := AlY
  obs := fun s => obsLG as oks fn tf s.heap.get?
  val := fun _ => (He5.valA fn, true)
  says := fun _ h => ∃ K : PySem.W.Frag, K.In h ∧ SaysY oks fn tf h K
  of := fun _ _ e => ⟨_, He.frT_in, saysL_of e⟩
  keeps := fun _ _ _ ⟨K, hK, c⟩ k => ⟨K, PySem.W.Frag.In.keeps hK k, ⟨c.z, c.hd, c.out, fun q hq => k _ _ (c.em q hq)⟩⟩
theorem obsLG_eq {as : List Addr} {oks : List Fct} {fn : List He5.DefA} {tf : List He.Defn} {g : Addr → Option Obj} {s : Shared} (h : ∀ a, g a = s.heap.get? a) : obsLG as oks fn tf g = (hookL as oks fn tf).obs s := by
  have e : g = s.heap.get? := funext h
  rw [e] <;> rfl
/-! ### the run in parts -/
/-- a part of the facts at the end of the top -/
def EndIs (r : PySem.W.OpenRow) (as : List Addr) (M : Nat) (oks : List Fct) (w : World) : Prop := ∀ os : OsState, (HandSHeadRun.endF (HandSHeadRun.stepQ (HandSHeadRun.denQ HandSHeadRun.tabQ) r.prog w) M r.prog w os).map (fun s => oks.all fun f => f (He.frT (HandSHeadRun.getT s) as)) = some true
theorem run_add {r : PySem.W.OpenRow} {q : Program} {as : List Addr} {M : Nat} {oks oks2 : List Fct} {fn : List He5.DefA} {tf : List He.Defn} {loose : List Str} {w : World} (h1 : HandSHeadRun.RunEq r q (hookL as oks fn tf) (fun s => obsLG as oks fn tf (HandSHeadRun.getT s)) M loose w) (h2 : EndIs r as M oks2 w) :
    HandSHeadRun.RunEq r q (hookL as (oks2 ++ oks) fn tf) (fun s => obsLG as (oks2 ++ oks) fn tf (HandSHeadRun.getT s)) M loose w := fun os => by
  have a := h1 os
  have b := h2 os
  cases e : HandSHeadRun.endF (HandSHeadRun.stepQ (HandSHeadRun.denQ HandSHeadRun.tabQ) r.prog w) M r.prog w os with
  | none => rw [e] at b; cases b
  | some s =>
    rw [e] at a b
    simp only [Option.map_some] at a b ⊢
    have a := Option.some.inj a
    have b := Option.some.inj b
    injection a with a1 a
    injection a with a2 a3
    rw [a1, a2]
    congr 3
    refine Eq.trans ?_ a3
    show obsLG as (oks2 ++ oks) fn tf _ = obsLG as oks fn tf _
    unfold obsLG obsZ
    rw [List.all_append, b, Bool.true_and]
/-- some defs at the end of the top -/
def EndFn (r : PySem.W.OpenRow) (as : List Addr) (M : Nat) (fn : List He5.DefA) (w : World) : Prop := ∀ os : OsState, (HandSHeadRun.endF (HandSHeadRun.stepQ (HandSHeadRun.denQ HandSHeadRun.tabQ) r.prog w) M r.prog w os).map (fun s => obsZ [] fn (He.frT (HandSHeadRun.getT s) as)) = some (He5.valA fn)
theorem run_fn {r : PySem.W.OpenRow} {q : Program} {as : List Addr} {M : Nat} {oks : List Fct} {fn fn2 : List He5.DefA} {tf : List He.Defn} {loose : List Str} {w : World} (h1 : HandSHeadRun.RunEq r q (hookL as oks fn tf) (fun s => obsLG as oks fn tf (HandSHeadRun.getT s)) M loose w) (h2 : EndFn r as M fn2 w) :
    HandSHeadRun.RunEq r q (hookL as oks (fn2 ++ fn) tf) (fun s => obsLG as oks (fn2 ++ fn) tf (HandSHeadRun.getT s)) M loose w := fun os => by
  have a := h1 os
  have b := h2 os
  cases e : HandSHeadRun.endF (HandSHeadRun.stepQ (HandSHeadRun.denQ HandSHeadRun.tabQ) r.prog w) M r.prog w os with
  | none => rw [e] at b; cases b
  | some s =>
    rw [e] at a b
    simp only [Option.map_some] at a b ⊢
    have a := Option.some.inj a
    have b := Option.some.inj b
    injection a with a1 a
    injection a with a2 a3
    rw [a1, a2]
    congr 3
    have b1 : (([] : List Fct).all (fun f => f (He.frT (HandSHeadRun.getT s) as)) && fn2.all fun d => d.ok (He.frT (HandSHeadRun.getT s) as)) = true := congrArg (fun z : He.AlD => z.1) b
    have b2 : (fn2.map fun d => He5.fnA (He.frT (HandSHeadRun.getT s) as) (d.at_ (He.frT (HandSHeadRun.getT s) as))) = fn2.map He5.DefA.val := congrArg (fun z : He.AlD => z.2) b
    have a4 : obsZ oks fn (He.frT (HandSHeadRun.getT s) as) = He5.valA fn := congrArg (fun z : AlY => z.1) a3
    have a5 : He.tabsB (HandSHeadRun.getT s) tf (He.frT (HandSHeadRun.getT s) as) = true := congrArg (fun z : AlY => z.2) a3
    have c1 : ((oks.all fun f => f (He.frT (HandSHeadRun.getT s) as)) && fn.all fun d => d.ok (He.frT (HandSHeadRun.getT s) as)) = true := congrArg (fun z : He.AlD => z.1) a4
    have c2 : (fn.map fun d => He5.fnA (He.frT (HandSHeadRun.getT s) as) (d.at_ (He.frT (HandSHeadRun.getT s) as))) = fn.map He5.DefA.val := congrArg (fun z : He.AlD => z.2) a4
    show obsLG as oks (fn2 ++ fn) tf _ = (He5.valA (fn2 ++ fn), true)
    unfold obsLG obsZ He5.valA
    obtain ⟨c3, c4⟩ := He.ba c1
    rw [a5, List.all_append, (He.ba b1).2, c3, c4, List.map_append, List.map_append, b2, c2]
    rfl
theorem allc {K : PySem.W.Frag} {f : Fct} {fs : List Fct} (h : f K = true) (hs : (fs.all fun f => f K) = true) : ((f :: fs).all fun f => f K) = true := by
  rw [List.all_cons, h, hs]
  rfl
theorem alln {K : PySem.W.Frag} : (([] : List Fct).all fun f => f K) = true := rfl
theorem says_of {K : PySem.W.Frag} {oks oks2 : List Fct} {fn : List He5.DefA} (c : SaysZ oks2 fn K) (h : (oks.all fun f => f K) = true) : SaysZ oks fn K := by
  unfold SaysZ obsZ at c ⊢
  rw [← c]
  have c1 : ((oks2.all fun f => f K) && fn.all fun d => d.ok K) = true := congrArg (fun z : He.AlD => z.1) c
  rw [h, (He.ba c1).1]
theorem nz {K : PySem.W.Frag} {f : Str} : fNoats f [] [] K = true := rfl
theorem no {K : PySem.W.Frag} {f x : Str} {cs : List Str} {bs : List (Option Nat)} (h : fNoats f cs bs K = true) : fNoats f (x :: cs) (none :: bs) K = true := by
  unfold fNoats at h ⊢
  rw [List.zip_cons_cons, List.all_cons, h]
  rfl
theorem nc {K : PySem.W.Frag} {f x : Str} {i : Nat} {cs : List Str} {bs : List (Option Nat)} (h1 : fNoat x f K = true) (h : fNoats f cs bs K = true) : fNoats f (x :: cs) (some i :: bs) K = true := by
  unfold fNoats at h ⊢
  rw [List.zip_cons_cons, List.all_cons, h]
  simp [h1]
end DF

set_option Elab.async false
set_option linter.all false
set_option maxRecDepth 100000
set_option maxHeartbeats 4000000
/-! DGA: sorted by a key that tells texts. -/
namespace SK
open PySem PySem.Spec PyProof.Rows L2 SrtO
def ltS (v u : Value) : Bool := decide ((strOf v).cps.toList < (strOf u).cps.toList)
theorem swo_str : Swo ltS := by
  refine ⟨fun x y h => ?_, fun x y z h1 h2 => ?_⟩
  · by_cases q : ltS y x = true
    · have t := strKind.trans _ _ _ h q
      rw [strKind.irrefl] at t
      cases t
    · exact Bool.eq_false_iff.mpr q
  · by_cases q : ltS z x = true
    · rcases strKind.negTrans _ (strOf y).cps.toList _ q with t | t
      · rw [show ltS z y = true from t] at h2; cases h2
      · rw [show ltS y x = true from t] at h1; cases h1
    · exact Bool.eq_false_iff.mpr q
section
variable {prog : Program} {w : World} {A : Around} {E : Value → Shared → Prop} {s : Shared}
theorem str_cmp : Cmp prog w A s oneType' (fun p => ∃ x t, p.1 = .str x t) (lt2 ltS) := by
  intro p q ⟨x, t, e⟩ ⟨y, u, e'⟩
  show wpAny (model prog w) A (keyLt' oneType' p.1 q.1) (fun r s' => s' = s ∧ r = ltS p.1 q.1) (fun _ _ => False) s
  rw [e, e', keyLt'_oneType]
  exact oneLt_str ⟨rfl, rfl⟩
theorem zip_arr (ks vs : List Value) : (ks.toArray.zip vs.toArray).toList = ks.zip vs := ksk_zip ks.toArray vs
theorem key_end {a kS : Addr} {e1 e : Nat} {vs ks : List Value} {ss : List Str} {R : PySem.Fin → Shared → Prop} (ha : s.heap.get? a = some (seqObj "list" #[] e1)) (hk : s.heap.get? kS = some (seqObj "list" ks.toArray e)) (hka : kS ≠ a)
    (hS : StrsAre ks ss) (hlen : ks.length = vs.length) (hz : vs.length ≤ sizeLine)
    (h : ∀ ps : List Keyed, Srtd (lt2 ltS) ps → Stb (lt2 ltS) ps (ks.zip vs) → R (.done (.ret .none)) { s with heap := (s.heap.update kS (Obj.mapSeq fun _ => #[])).update a (Obj.mapSeq fun _ => (ps.map (·.2)).toArray) }) :
    wpAny (model prog w) A (ksk_end a false vs.toArray e1 (.ref kS) ks.toArray) R E s := by
  have na1 : (s.heap.update kS (Obj.mapSeq fun _ => (#[] : Array Value))).get? a = some (seqObj "list" #[] e1) := ((Heap.SameBut.update s.heap kS (Obj.mapSeq fun _ => (#[] : Array Value))).2 a hka.symm).trans ha
  have tail : ∀ st : SortSt, Srtd (lt2 ltS) (arrOf st).toList → Stb (lt2 ltS) (arrOf st).toList (ks.zip vs) → failedOf st = none → wpAny (model prog w) A (ksk_tail a false e1 (.ref kS) st) R E s := by
    intro st h1 h2 hf
    have hl : (arrOf st).size = vs.length := by
      have q := h2.len
      rw [Array.length_toList, List.length_zip, hlen, Nat.min_self] at q
      exact q
    unfold ksk_tail
    try dsimp only
    refine wpAny_bind (listUpdate_at hk rfl ?_ (by rw [List.size_toArray, hlen]; exact hz) (Nat.zero_le _))
    refine wpAny_bind (wpAny_letGo ?_)
    refine wpAny_bind (seqEpoch_at na1 rfl ?_)
    refine wpAny_bind (listUpdate_at na1 rfl ?_ (Nat.zero_le _) (by simp only [Bool.false_eq_true, if_false, Array.size_map]; omega))
    rw [hf]
    simp only [bne_self_eq_false, Bool.false_eq_true, if_false]
    refine wpAny_pure ?_
    have q := h _ h1 h2
    have e2 : ((arrOf st).toList.map (·.2)).toArray = (arrOf st).map (·.2) := by
      rw [← Array.toList_map, Array.toArray_toList]
    rw [e2] at q
    exact q
  have hzs : (ks.toArray.zip vs.toArray).toList = ks.zip vs := zip_arr ks vs
  unfold ksk_end
  try dsimp only
  simp only [Bool.false_eq_true, if_false]
  by_cases h2 : vs.toArray.size < 2
  · rw [if_pos h2, if_pos h2]
    refine wpAny_bind (wpAny_pure ?_)
    rw [StateT.run_pure]
    refine wpAny_bind (wpAny_pure ?_)
    try dsimp only
    refine tail (SortSt.mk' general' (ks.toArray.zip vs.toArray) #[] 7 none) ?_ ?_ rfl
    · show Srtd (lt2 ltS) (ks.toArray.zip vs.toArray).toList
      rw [hzs]
      rw [List.size_toArray] at h2
      have hl : (ks.zip vs).length < 2 := by rw [List.length_zip]; omega
      match hq : ks.zip vs with
      | [] => exact List.Pairwise.nil
      | [v] => exact List.pairwise_singleton _ _
      | _ :: _ :: l => rw [hq] at hl; simp only [List.length_cons] at hl; omega
    · show Stb (lt2 ltS) (ks.toArray.zip vs.toArray).toList (ks.zip vs)
      rw [hzs]
      exact Stb.refl _
  · rw [if_neg h2, if_neg h2]
    rw [List.size_toArray] at h2
    have hkk : keyKind' ks.toArray = pure oneType' := by
      match ks, hS, hlen with
      | v1 :: v2 :: rest, hS, _ => exact keyKind_strs hS
      | [], _, hl => simp at hl; omega
      | [_], _, hl => simp at hl; omega
    rw [hkk]
    refine wpAny_bind (wpAny_pure ?_)
    have hall : AllL (fun p : Keyed => ∃ x t, p.1 = .str x t) (ks.toArray.zip vs.toArray).toList := fun p hm => by
      rw [hzs] at hm
      exact hS.all _ (List.of_mem_zip (a := p.1) (b := p.2) hm).1
    refine wpAny_bind (wpAny_mono (wpS_sortO (st0 := SortSt.mk' oneType' (ks.toArray.zip vs.toArray) #[] 7 none)
      (Q := fun _ st' => Srtd (lt2 ltS) (arrOf st').toList ∧ Stb (lt2 ltS) (arrOf st').toList (ks.toArray.zip vs.toArray).toList ∧ failedOf st' = none) (swo2 swo_str) str_cmp rfl hall rfl rfl fun st' a1 a2 a3 => ⟨a1, a2, a3⟩) ?_ fun _ _ e => e)
    rintro ⟨⟨⟩, st'⟩ s' ⟨rfl, hp1, hp2, hf⟩
    try dsimp only
    rw [hzs] at hp2
    exact tail st' hp1 hp2 hf
end
end SK

set_option Elab.async false
set_option linter.all false
set_option maxRecDepth 100000
set_option maxHeartbeats 4000000
namespace SK
open PySem PySem.Spec PyProof.Rows L2 SrtO
theorem perm_lift {α β : Type} {f : α → β} {ps m : List β} (h : ps.Perm m) : ∀ {L : List α}, m = L.map f → ∃ L' : List α, L'.Perm L ∧ L'.map f = ps := by
  induction h with
  | nil =>
    intro L e
    cases L with
    | nil => exact ⟨[], List.Perm.refl _, rfl⟩
    | cons _ _ => cases e
  | cons x _ ih =>
    intro L e
    cases L with
    | nil => cases e
    | cons y L =>
      rw [List.map_cons] at e
      injection e with e1 e2
      obtain ⟨L', h1, h2⟩ := ih e2
      exact ⟨y :: L', .cons y h1, by rw [List.map_cons, h2, e1]⟩
  | swap x y l =>
    intro L e
    match L, e with
    | u :: v :: L, e =>
      simp only [List.map_cons, List.cons.injEq] at e
      obtain ⟨e1, e2, e3⟩ := e
      exact ⟨v :: u :: L, .swap _ _ _, by simp [e1, e2, e3]⟩
    | [_], e => simp at e
    | [], e => simp at e
  | trans _ _ ih1 ih2 =>
    intro L e
    obtain ⟨L2, h1, h2⟩ := ih2 e
    obtain ⟨L3, h3, h4⟩ := ih1 h2.symm
    exact ⟨L3, h3.trans h1, h4⟩
section
variable {X : Cx} {pins : List (Addr × Obj)} {σ : L2.St} {H : Hp} {s0 s : Shared} {A : Around} {E : Value → Shared → Prop}
/-- sorted by what is told of each -/
def SrtK (key : V → Str) (zs : List V) : Prop := zs.Pairwise fun x y => ¬ (key y).cps.toList < (key x).cps.toList
theorem strs_keys {key : V → Str} : ∀ {xs : List V} {ks : List Value}, Vals (xs.map fun x => V.str (key x)) ks → StrsAre ks (xs.map key)
  | [], _, h => by cases h; exact .nil
  | x :: xs, _, h => by
    cases h with
    | cons r rs =>
      obtain ⟨t, rfl⟩ := r
      exact .cons _ t (strs_keys rs)
/-- the items by their keys -/
theorem keyed_out {key : V → Str} {xs : List V} {vs ks : List Value} {ps : List Keyed} (rv : Vals xs vs) (rk : Vals (xs.map fun x => V.str (key x)) ks) (h1 : Srtd (lt2 ltS) ps) (h2 : ps.Perm (ks.zip vs)) :
    ∃ zs : List V, zs.Perm xs ∧ SrtK key zs ∧ Vals zs (ps.map (·.2)) := by
  have ex : ∀ {xs : List V} {vs ks : List Value}, Vals xs vs → Vals (xs.map fun x => V.str (key x)) ks → ∃ L : List (V × Keyed), L.map (·.1) = xs ∧ L.map (·.2) = ks.zip vs ∧ ∀ q ∈ L, RelV q.1 q.2.2 ∧ ∃ t, q.2.1 = .str (key q.1) t := by
    intro xs
    induction xs with
    | nil =>
      intro vs ks r1 r2
      cases r1
      cases r2
      exact ⟨[], rfl, rfl, by simp⟩
    | cons x xs ih =>
      intro vs ks r1 r2
      cases r1 with
      | @cons _ v _ _ a1 a2 =>
        cases r2 with
        | cons b1 b2 =>
          obtain ⟨t, rfl⟩ := b1
          obtain ⟨L, e1, e2, e3⟩ := ih a2 b2
          refine ⟨(x, Value.str (key x) t, v) :: L, by simp [e1], by simp [e2], fun q hq => ?_⟩
          rcases List.mem_cons.mp hq with rfl | hq
          · exact ⟨a1, t, rfl⟩
          · exact e3 q hq
  obtain ⟨L, e1, e2, e3⟩ := ex rv rk
  obtain ⟨L', p1, p2⟩ := perm_lift h2 e2.symm
  have e3' : ∀ q ∈ L', RelV q.1 q.2.2 ∧ ∃ t, q.2.1 = .str (key q.1) t := fun q hq => e3 q (p1.mem_iff.mp hq)
  refine ⟨L'.map (·.1), by rw [← e1]; exact p1.map _, ?_, ?_⟩
  · unfold SrtK
    rw [List.pairwise_map]
    rw [← p2] at h1
    have h1 := List.pairwise_map.mp h1
    refine List.Pairwise.imp_of_mem (fun {x y} hx hy z => ?_) h1
    obtain ⟨_, t, ex⟩ := e3' x hx
    obtain ⟨_, u, ey⟩ := e3' y hy
    have z : ltS y.2.1 x.2.1 = false := z
    rw [ex, ey] at z
    exact of_decide_eq_false z
  · rw [← p2]
    have go : ∀ L' : List (V × Keyed), (∀ q ∈ L', RelV q.1 q.2.2 ∧ ∃ t, q.2.1 = .str (key q.1) t) → Vals (L'.map (·.1)) ((L'.map (·.2)).map (·.2)) := by
      intro L'
      induction L' with
      | nil => intro _; exact .nil
      | cons q L' ih => intro h; exact .cons (h q List.mem_cons_self).1 (ih fun z hz => h z (List.mem_cons_of_mem _ hz))
    exact go L' e3'
theorem vals_snoc {xs : List V} {vs : List Value} {x : V} {v : Value} (h : Vals xs vs) (r : RelV x v) : Vals (xs ++ [x]) (vs ++ [v]) := by
  induction h with
  | nil => exact .cons r .nil
  | cons a _ ih => exact .cons a ih
theorem vals_at : ∀ {xs : List V} {vs : List Value} {j : Nat} {v : Value}, Vals xs vs → vs[j]? = some v → ∃ x, xs[j]? = some x ∧ RelV x v
  | _, _, j, v, .nil, e => by simp at e
  | _, _, 0, v, .cons (a := x) r rs, e => by simp at e; subst e; exact ⟨x, rfl, r⟩
  | _, _, j + 1, v, .cons r rs, e => by
    simp at e
    obtain ⟨x, h1, h2⟩ := vals_at rs e
    exact ⟨x, by simpa using h1, h2⟩
/-- the sort of the list at a, by what f tells of each item -/
theorem key_sort {a : Addr} {f : Value} {vs : List Value} {xs : List V} {key : V → Str} {n : Nat} {R : PySem.Fin → Shared → Prop} (I : Inv X pins σ H s0) (hh : ∀ b o, s0.heap.get? b = some o → b ≠ a ∧ s.heap.get? b = some o) (hs : s = { s0 with heap := s.heap, toks := s.toks })
    (ha : s.heap.get? a = some (seqObj "list" vs.toArray n)) (ha0 : s0.heap.objs.size ≤ a) (rv : Vals xs vs) (hz : vs.length ≤ sizeLine)
    (turn : ∀ (x : V) (v : Value), x ∈ xs → RelV x v → ∀ (H' : Hp) (s' : Shared), Inv X pins σ H' s' → (∀ b o, H b = some o → H' b = some o) → wpAny (model X.prog X.w) A (call f [v]) (fun u s'' => (∃ t, u = .str (key x) t) ∧ Inv X pins σ H' s'') (fun _ _ => False) s')
    (h : ∀ (zs : List V) (Hf : Hp) (s' : Shared), zs.Perm xs → SrtK key zs → Inv X pins σ Hf s' → (∀ b o, H b = some o → Hf b = some o) → Hf a = some (.lst zs) → R (.done (.ret .none)) s') :
    wpAny (model X.prog X.w) A (ksk_tree a f false) R E s := by
  have lv : xs.length = vs.length := rv.length
  have nA : H a = none := I.hok.fresh ha0
  have hla : a < s.heap.objs.size := Heap.lt_size ha
  have hsz0 : s0.heap.objs.size ≤ s.heap.objs.size := Nat.le_of_lt (Nat.lt_of_le_of_lt ha0 hla)
  obtain ⟨e1, ho1⟩ : ∃ e1, (s.heap.update a (Obj.mapSeq fun _ => (#[] : Array Value))).get? a = some (seqObj "list" #[] e1) := ⟨_, get?_update_seq ha fun _ => #[]⟩
  unfold ksk_tree
  refine wpAny_bind (listItems_at ha rfl ?_)
  refine wpAny_bind (listUpdate_at ha rfl ?_ (by rw [List.size_toArray]; exact hz) (Nat.zero_le _))
  refine wpAny_bind (seqEpoch_at ho1 rfl ?_)
  refine wpAny_bind (wpAny_newTuple ?_ (by show vs.length ≤ _; exact hz))
  refine wpAny_bind (wpAny_newList ?_ (Nat.zero_le _))
  refine wpAny_holding ?_
  generalize hh5 : (s.heap.update a (Obj.mapSeq fun _ => (#[] : Array Value))).push (seqObj "tuple" vs.toArray 0) = h5
  have z5 : h5.objs.size = s.heap.objs.size + 1 := by rw [← hh5, size_push', Heap.size_update]
  have k5 : ∀ b o, s0.heap.get? b = some o → h5.get? b = some o := fun b o e => by
    obtain ⟨n1, n2⟩ := hh b o e
    rw [← hh5]
    exact Heap.get?_push_of_some _ ((Heap.get?_update_ne _ _ _ _ n1).trans n2)
  have a5 : h5.get? a = some (seqObj "list" #[] e1) := by rw [← hh5]; exact Heap.get?_push_of_some _ ho1
  have I1 : Inv X pins σ (upd H a (.frz (seqObj "list" #[] e1) (.lst []))) { s0 with heap := h5, toks := s.toks } :=
    I.laid k5 ha0 ⟨a5, Nat.zero_le _, [], e1, .nil, a5⟩
  have naK : h5.objs.size ≠ a := Nat.ne_of_gt (by rw [z5]; exact Nat.lt_succ_of_lt hla)
  have nK : upd H a (.frz (seqObj "list" #[] e1) (.lst [])) h5.objs.size = none := by
    rw [upd_ne naK]
    exact I.hok.fresh (by rw [z5]; exact Nat.le_succ_of_le hsz0)
  have I2 : Inv X pins σ (upd (upd H a (.frz (seqObj "list" #[] e1) (.lst []))) h5.objs.size (.lst [])) { s0 with heap := h5.push (seqObj "list" #[] 0), toks := s.toks } :=
    I1.laid (s := { s0 with heap := h5, toks := s.toks }) (h' := h5.push (seqObj "list" #[] 0)) (t' := s.toks) (fun b o e => Heap.get?_push_of_some _ e) (Nat.le_refl _) ⟨Nat.zero_le _, [], 0, .nil, Heap.get?_push_size _ rfl⟩
  have es : ({ s with heap := h5.push (seqObj "list" #[] 0) } : Shared) = { s0 with heap := h5.push (seqObj "list" #[] 0), toks := s.toks } := by rw [hs]
  show wpAny (model X.prog X.w) A (ksk_rest a f false vs.toArray e1 (.ref h5.objs.size)) R E { s with heap := h5.push (seqObj "list" #[] 0) }
  rw [es]
  generalize hkS : h5.objs.size = kS at *
  generalize hHa : upd H a (.frz (seqObj "list" #[] e1) (.lst [])) = Ha at *
  have gA : Ha a = some (.frz (seqObj "list" #[] e1) (.lst [])) := by rw [← hHa]; exact upd_same
  have gH : ∀ b o, H b = some o → Ha b = some o := fun b o e => by rw [← hHa, upd_ne (ne_of_none e nA)]; exact e
  have gK : ∀ (o : HO) b u, H b = some u → upd Ha kS o b = some u := fun o b u e => by rw [upd_ne (ne_of_none (gH b u e) nK)]; exact gH b u e
  unfold ksk_rest
  refine wpAny_bind (wpAny_rule ?_)
  first
    | rw [List.forIn_toArray]
    | (rw [← Array.forIn_toList]; simp only [List.toList_toArray])
    | rw [← Array.forIn_toList]
  refine wpAny_bind (ksk_fold (fun i s' => Inv X pins σ (upd Ha kS (.lst ((xs.take i).map fun x => V.str (key x)))) s') vs 0 _ (by simpa using I2) ?step ?done)
  case step =>
    rintro j v s' hx I'
    simp only [Nat.zero_add] at I' ⊢
    obtain ⟨x, hxj, rx⟩ := vals_at rv hx
    have hj : j < xs.length := (List.getElem?_eq_some_iff.mp hxj).1
    refine wpAny_bind (wpAny_attempt (wpAny_mono (turn x v (List.mem_of_getElem? hxj) rx _ s' I' (gK _)) (fun u s'' he => ?_) fun _ _ hF => hF.elim))
    obtain ⟨⟨t, rfl⟩, I''⟩ := he
    try dsimp only
    obtain ⟨z, its, m, rk, hob⟩ := I''.hok kS _ upd_same
    have ek : (xs.take (j + 1)).map (fun x => V.str (key x)) = (xs.take j).map (fun x => V.str (key x)) ++ [V.str (key x)] := by rw [List.take_add_one, hxj]; simp
    have lk : its.length = j := by
      have := rk.length
      rw [List.length_map, List.length_take] at this
      omega
    refine wpAny_bind (listUpdate_at hob rfl ?_ (by rw [List.size_toArray, lk]; omega) (Nat.le_trans (Nat.le_of_eq (Array.size_push ..)) (by rw [List.size_toArray, lk]; omega)))
    refine wpAny_pure ⟨rfl, ?_⟩
    have w := I''.write (x := kS) (e := kS) (o := .lst ((xs.take (j + 1)).map fun x => V.str (key x))) (t' := s''.toks) (h' := s''.heap.update kS (Obj.mapSeq (·.push (.str (key x) t)))) (by rw [upd_same]; trivial) (.inl rfl)
      (fun b u hb e => (Heap.get?_update_ne _ _ _ _ hb).trans e) ⟨_, get?_update_seq hob (·.push (.str (key x) t))⟩ ⟨by rw [List.length_map, List.length_take]; omega, its ++ [.str (key x) t], _, by rw [ek]; exact vals_snoc rk ⟨t, rfl⟩, by
        have eA : its.toArray.push (Value.str (key x) t) = (its ++ [Value.str (key x) t]).toArray := by simp
        have q := get?_update_seq hob (·.push (.str (key x) t))
        rw [eA] at q
        exact q⟩
    rw [upd_upd] at w
    exact w
  case done =>
    intro s' I'
    simp only [Nat.zero_add] at I'
    rw [List.take_of_length_le (by omega)] at I'
    obtain ⟨z, its, m, rk, hob⟩ := I'.hok kS _ upd_same
    obtain ⟨hoa, _⟩ := I'.hok a (.frz (seqObj "list" #[] e1) (.lst [])) (by rw [upd_ne naK.symm]; exact gA)
    try dsimp only
    refine wpAny_bind (listItems_at hob rfl ?_)
    have li : its.length = vs.length := by
      have := rk.length
      rw [List.length_map] at this
      omega
    refine key_end hoa hob naK (strs_keys rk) li hz fun ps p1 p2 => ?_
    obtain ⟨zs, q1, q2, q3⟩ := keyed_out rv rk p1 p2.perm
    have w1 := I'.write (x := kS) (e := kS) (o := .lst []) (t' := s'.toks) (h' := s'.heap.update kS (Obj.mapSeq fun _ => #[])) (by rw [upd_same]; trivial) (.inl rfl)
      (fun b u hb e => (Heap.get?_update_ne _ _ _ _ hb).trans e) ⟨_, get?_update_seq hob fun _ => #[]⟩ ⟨Nat.zero_le _, [], _, .nil, get?_update_seq hob fun _ => #[]⟩
    rw [upd_upd] at w1
    have fa : upd Ha kS (.lst []) a = some (.frz (seqObj "list" #[] e1) (.lst [])) := by rw [upd_ne naK.symm]; exact gA
    have w2 := w1.unlock fa fun o' u' e => by
      have q := I.base.frzs a o' u' e
      rw [nA] at q
      cases q
    have oa : (s'.heap.update kS (Obj.mapSeq fun _ => (#[] : Array Value))).get? a = some (seqObj "list" #[] e1) := (Heap.get?_update_ne _ _ _ _ naK.symm).trans hoa
    have w3 := w2.write (x := a) (e := a) (o := .lst zs) (t' := s'.toks) (h' := (s'.heap.update kS (Obj.mapSeq fun _ => #[])).update a (Obj.mapSeq fun _ => (ps.map (·.2)).toArray)) (by rw [upd_same]; trivial) (.inl rfl)
      (fun b u hb e => (Heap.get?_update_ne _ _ _ _ hb).trans e) ⟨_, get?_update_seq oa fun _ => (ps.map (·.2)).toArray⟩ ⟨by rw [q1.length_eq, lv]; exact hz, ps.map (·.2), _, q3, get?_update_seq oa fun _ => (ps.map (·.2)).toArray⟩
    rw [upd_upd] at w3
    exact h zs _ _ q1 q2 w3 (fun b u e => by rw [upd_ne (ne_of_none e nA)]; exact gK _ b u e) upd_same
end
end SK

set_option Elab.async false
set_option linter.all false
set_option maxRecDepth 100000
set_option maxHeartbeats 4000000
namespace SK
open PySem PySem.Spec PyProof.Rows L2 SrtO
section
variable {prog : Program} {w : World} {A : Around} {E : Value → Shared → Prop} {s : Shared}
theorem collect_tup {l : Addr} {vs : List Value} {Q : List Value → Shared → Prop} (hl : IsTup s.heap l vs.toArray) (hsz : vs.length ≤ sizeLine) (h : Q vs { s with heap := (s.heap.push (seqObj "list" #[] 0)).update s.heap.objs.size (Obj.mapSeq (· ++ vs.toArray)) }) : wpAny (model prog w) A (collect (.ref l)) Q E s := by
  obtain ⟨o, ho, hc, n, hd⟩ := id hl
  have ho' : (s.heap.push (seqObj "list" #[] 0)).get? l = some o := Heap.get?_push_of_some _ ho
  have h0 : (s.heap.push (seqObj "list" #[] 0)).get? s.heap.objs.size = some (seqObj "list" #[] 0) := Heap.get?_push_size _ rfl
  have fit : ((#[] : Array Value) ++ vs.toArray).size ≤ sizeLine + 1 := by
    rw [Array.size_append, List.size_toArray, List.size_toArray, List.length_nil]; omega
  unfold collect
  refine wpAny_bind (wpAny_runValue (codeAny_builtin entry_proto_collect' (wpAny_bind (wpAny_newList (wpAny_pure ⟨Code.quiet_builtin _ (by decide +kernel), codeAny_builtin entry_list_iadd' ?_⟩)))))
  show wpAny _ _ (Builtin.List.listExtendWith (.ref s.heap.objs.size) (.ref l) (.ref s.heap.objs.size)) _ _ { s with heap := s.heap.push (seqObj "list" #[] 0) }
  unfold Builtin.List.listExtendWith
  refine wpAny_bind (wpAny_typeOf (T := "tuple") ⟨o, ho', hc⟩ ?_)
  have et : (Value.type "tuple" == Value.type "tuple") = true := rfl
  rw [if_pos (by rw [et, Bool.or_true])]
  refine wpAny_bind (listItems_at ho' hd (wpAny_bind (listItems_at h0 rfl ?_)))
  rw [if_neg (by simp)]
  refine wpAny_bind (listUpdate_at h0 rfl (wpAny_pure ?_) (Nat.zero_le _) fit)
  refine wpAny_bind (wpAny_load (get?_update_seq h0 (· ++ vs.toArray)) ?_)
  show wpAny _ _ (pure ((#[] : Array Value) ++ vs.toArray).toList) Q E _
  rw [show ((#[] : Array Value) ++ vs.toArray).toList = vs by simp]
  exact wpAny_pure h
end
section
variable {X : Cx} {pins : List (Addr × Obj)} {σ : L2.St} {H : Hp} {s : Shared} {E : Value → Shared → Prop}
/-- sorted(t, key=f) of a tuple or a list -/
theorem key_sorted {l q : Addr} {xs : List V} {key : V → Str} {Q : Value → Shared → Prop} (I : Inv X pins σ H s) (hl : SqT X.K H l xs ∨ SqL X.K H l xs)
    (turn : ∀ (x : V) (v : Value), x ∈ xs → RelV x v → ∀ (H' : Hp) (s' : Shared), Inv X pins σ H' s' → (∀ b o, H b = some o → H' b = some o) → wpAny (model X.prog X.w) X.A.in1.in1 (call (.ref q) [v]) (fun u s'' => (∃ t, u = .str (key x) t) ∧ Inv X pins σ H' s'') (fun _ _ => False) s')
    (h : ∀ (a : Addr) (zs : List V) (Hf : Hp) (s' : Shared), zs.Perm xs → SrtK key zs → Inv X pins σ Hf s' → (∀ b o, H b = some o → Hf b = some o) → H a = none → Hf a = some (.lst zs) → Q (.ref a) s') :
    wpAny (model X.prog X.w) X.A (call (.builtin "sorted") [.ref l] [(Str.ofString "key", .ref q)]) Q E s := by
  refine call_function_entry_kw kind_sorted plain_sorted entry_sorted (ksk_s1 _ _) ?_
  unfold Builtin.«sorted»
  refine wpAny_bind (m := checkCount "sorted" 1 1 _) (wpAny_pure ?_)
  obtain ⟨vs, rv, hz, co⟩ : ∃ vs : List Value, Vals xs vs ∧ xs.length ≤ sizeLine ∧ ∀ {A : Around} {E : Value → Shared → Prop} {Q : List Value → Shared → Prop}, Q vs { s with heap := (s.heap.push (seqObj "list" #[] 0)).update s.heap.objs.size (Obj.mapSeq (· ++ vs.toArray)) } → wpAny (model X.prog X.w) A (collect (.ref l)) Q E s := by
    rcases hl with hl | hl
    · obtain ⟨its, rv, t, z⟩ := I.tuple hl
      exact ⟨its, rv, z, fun q => collect_tup t (by rw [← rv.length]; exact z) q⟩
    · obtain ⟨its, rv, t, z⟩ := I.list hl
      exact ⟨its, rv, z, fun q => collect_list t.isList q (by rw [← rv.length]; exact z)⟩
  have hz' : vs.length ≤ sizeLine := by rw [← rv.length]; exact hz
  refine wpAny_bind (co ?_)
  refine wpAny_bind (wpAny_newList ?_ hz')
  have hsz : ((s.heap.push (seqObj "list" #[] 0)).update s.heap.objs.size (Obj.mapSeq (· ++ vs.toArray))).objs.size = s.heap.objs.size + 1 := by rw [Heap.size_update, size_push']
  have hoL : (((s.heap.push (seqObj "list" #[] 0)).update s.heap.objs.size (Obj.mapSeq (· ++ vs.toArray))).push (seqObj "list" vs.toArray 0)).get? (s.heap.objs.size + 1) = some (seqObj "list" vs.toArray 0) := by
    rw [← hsz]; exact Heap.get?_push_size _ rfl
  have old : ∀ b o, s.heap.get? b = some o → b ≠ s.heap.objs.size + 1 ∧ (((s.heap.push (seqObj "list" #[] 0)).update s.heap.objs.size (Obj.mapSeq (· ++ vs.toArray))).push (seqObj "list" vs.toArray 0)).get? b = some o := fun b o q => by
    have lt := Heap.lt_size q
    exact ⟨Nat.ne_of_lt (Nat.lt_succ_of_lt lt), Heap.get?_push_of_some _ ((Heap.get?_update_ne _ _ _ _ (Nat.ne_of_lt lt)).trans (Heap.get?_push_of_some _ q))⟩
  show wpAny _ _ _ _ _ { s with heap := ((s.heap.push (seqObj "list" #[] 0)).update s.heap.objs.size (Obj.mapSeq (· ++ vs.toArray))).push (seqObj "list" vs.toArray 0) }
  rw [hsz]
  refine wpAny_bind (wpAny_holding (wpAny_call_entry_kw slot_list_sort ⟨_, hoL, rfl⟩ entry_list_sort ?_ (ksk_l1 _ _)))
  rw [ksk_t1]
  refine key_sort (s := { s with heap := ((s.heap.push (seqObj "list" #[] 0)).update s.heap.objs.size (Obj.mapSeq (· ++ vs.toArray))).push (seqObj "list" vs.toArray 0) }) I old rfl hoL (Nat.le_succ _) rv hz' turn fun zs Hf s' p1 p2 I' e1 e2 => ⟨_, rfl, ?_⟩
  exact wpAny_pure ⟨_, rfl, h _ zs Hf s' p1 p2 I' e1 (I.hok.fresh (Nat.le_succ _)) e2⟩
end
end SK

set_option Elab.async false
set_option linter.all false
set_option maxRecDepth 100000
set_option maxHeartbeats 4000000
/-! DGD: lambda x: x.f as the key. -/
namespace SK
open PySem PySem.Spec PyProof.Rows L2 LamX
abbrev env1 (X : Cx) (scope : Scope) (L f c' : Addr) : Env := PySem.W.envX (X.env.qual ++ "<lambda>") scope L f (.ref c') []
/-- the body of a lambda of one parameter that captures nothing -/
def cx1 (X : Cx) (k : Str) (A : Around) (outer : List Env) (s : Shared) (H : Hp) (scope : Scope) (f c' : Addr) : Cx where
  prog := X.prog
  w := X.w
  K := X.K
  mg := X.mg
  base := X.base
  A := A.deeper (env1 X scope s.heap.objs.size f c')
  N := [k]
  s_0 := s
  H_0 := H
  env := env1 X scope s.heap.objs.size f c'
  outer := outer
  stack := env1 X scope s.heap.objs.size f c' :: outer
  ex := []
  fn := fun _ => false
  calm := true
  pn := []
  xe := fun _ _ => False
/-- one parameter, no other name of its own -/
structure Sc1 (k : Str) (scope : Scope) : Prop where
  kind : scope.kind = .function
  co : scope.isCoroutine = false
  gen : scope.isGenerator = false
  names : scope.names = [(k, .local)]
section
variable {X : Cx} {A : Around} {outer : List Env} {H : Hp} {s1 : Shared} {k : Str} {scope : Scope} {f c' : Addr} {v : Value} {x : V}
theorem Sc1.lk (L : Sc1 k scope) {y : Str} {z : NameKind} (h : scope.names.lookup y = some z) : y = k ∧ z = .local := by
  have m := PySem.mem_of_lookup h
  rw [L.names] at m
  have e := List.mem_singleton.mp m
  injection e with e1 e2
  exact ⟨e1, e2⟩
theorem start1 {h₁ : Heap} {tk : Nat} (L : Sc1 k scope) (e0 : Env0 X.prog X.w X.K X.mg X.base A outer s1 H) (hd : A.handled = none) (hns : h₁.Ns s1.heap.objs.size fun y => ([(k, v)] : List (Str × Value)).reverse.lookup y) (kp : ∀ b o, s1.heap.get? b = some o → h₁.get? b = some o) (r : RelV x v) :
    Inv (cx1 X k A outer s1 H scope f c') [] [some x] H { s1 with heap := h₁, toks := tk } := by
  have noA : ∀ b : Addr, b ∉ (cx1 X k A outer s1 H scope f c').ex := fun b z => absurd (show b ∈ ([] : List Addr) from z) (by simp)
  have noC : ∀ {y : Str} {c : Addr}, (cx1 X k A outer s1 H scope f c').env.cells.lookup y = some c → False := fun {y c} e => by
    have e : ([] : List (Str × Addr)).lookup y = some c := e
    cases e
  refine ⟨⟨e0.mod, L.kind, rfl, rfl, Nat.le_refl _, fun y z c e1 _ => (noC e1).elim, fun y hy => ?_, fun y c z _ => ?_, fun _ => hd, Around.frames_deeper e0.frames, .inr ⟨rfl, rfl⟩, fun b z => absurd z (noA b), e0.bs, e0.bsz, fun b _ _ => noA b, fun b z => absurd z (noA b), e0.funs, e0.frf⟩,
    rfl, e0.bare, Un.kept kp, ⟨_, hns, fun i y u e1 e2 e3 => ?_⟩, fun y c e => (noC e).elim, e0.hok.fresh (Nat.le_refl _), fun y c e => (noC e).elim, fun q hq => absurd (show q ∈ ([] : List (Addr × Obj)) ++ [] from hq) (by simp), e0.hok.kept kp, rfl⟩
  · have hy : scope.names.lookup y = some .cell ∨ scope.names.lookup y = some .free := hy
    rcases hy with hy | hy
    · exact absurd (L.lk hy).2 (by decide)
    · exact absurd (L.lk hy).2 (by decide)
  · have z : false = true := z
    cases z
  · have e1 : [k][i]? = some y := e1
    have ei : i = 0 := by
      cases i with
      | zero => rfl
      | succ i => simp at e1
    subst ei
    have ey : k = y := by simpa using e1
    subst ey
    have eu : x = u := by simpa using e2
    subst eu
    refine ⟨v, r, .inl ⟨?_, ?_⟩⟩
    · show scope.names.lookup k = some .local
      rw [L.names]
      simp
    · show ([(k, v)] : List (Str × Value)).reverse.lookup k = some v
      simp
/-- the lambda is called -/
theorem run1 {q : Str} {params : Arguments} {body : Expr} {pm ctv : Value} {tb : TE} {Q : VK} (L : Sc1 k scope) (e0 : Env0 X.prog X.w X.K X.mg X.base A outer s1 H) (hr : Room 0 A) (hq : q = X.env.qual ++ "<lambda>")
    (of1 : s1.heap.get? f = some (PySem.W.kla_obj "<lambda>" q params body scope [] pm c' ctv)) (hc : H c' = some (CodeO c' q)) (hbind : bindArgs (PySem.W.kla_fn "<lambda>" q params body scope [] pm (.ref c') ctv) ⟨[v], []⟩ = pure [(k, v)])
    (hbody : PE (cx1 X k A outer s1 H scope f c') body tb) (r : RelV x v) (ht : tb [some x] H Q) :
    codeAny (model X.prog X.w) A (.call (.ref f) ⟨[v], []⟩) (CR (fun _ _ _ _ _ _ => False) outer X.prog X.w H s1 Q (fun _ _ _ => False)) s1 := by
  obtain ⟨⟨oc, vs, t, hoc, hdc, hvc⟩, _, _⟩ := e0.hok c' _ hc
  refine PySem.W.kla_callFunE hr.depth of1 rfl L.co L.gen rfl ⟨c', oc, vs, t, rfl, hoc, hdc, hvc⟩ ?_
  rw [hbind]
  refine wpAny_pure (wpAny_newFunctionEnv (fun y hy => by rw [L.names] at hy; rw [List.mem_singleton.mp hy]; exact (show NameKind.local ≠ NameKind.cell by decide)) (fun y hy => by rw [List.mem_singleton.mp hy, L.names]; simp) (fun h₁ hns hsb => ⟨(e0.mod.nolimit.keeps fun b o e => (e0.bs b o e).1).fresh _ hsb, ?_⟩) L.kind)
  subst hq
  show codeAny _ _ (.expr body (env1 X scope s1.heap.objs.size f c')) _ _
  have kp : ∀ b o, s1.heap.get? b = some o → h₁.get? b = some o := fun b o e => hsb.extBut b o (Nat.ne_of_lt (Heap.lt_size e)) (Heap.get?_push_of_some _ e)
  refine PySem.W.kla_codeExpr (wpAny_mono (hbody.run [] _ _ H Q (start1 L e0 hr.hd hns kp r) ht) (fun u s' hq => ?_) fun e s' hq => hq.elim)
  obtain ⟨w', H', J', rv, q⟩ := hq
  exact ⟨w', H', J'.os, J'.bare, J'.base, J'.hok, rv, q⟩
theorem clo1 {cells : List (Str × Addr)} (L : Sc1 k scope) : cloFrom cells scope.names [] = [] := by
  rw [L.names]
  rfl
/-- sorted(e, key=lambda k: k.n) -/
def SortG (X : Cx) (T : List (Addr × Str)) (C : Addr) (n : Str) (Q : VK) (x : V) (H1 : Hp) : Prop := Tabs T H1 ∧ ∀ H2, ExtN H1 H2 → Tabs T H2 → ∃ (l : Addr) (xs : List V) (key : V → Str), x = .ref l ∧ (SqT X.K H2 l xs ∨ SqL X.K H2 l xs) ∧
  (∀ y ∈ xs, ∃ a dx fs, y = .ref a ∧ H2 a = some (.ins C dx fs) ∧ fs.lookup n = some (.str (key y))) ∧ ∀ a zs Hf, zs.Perm xs → SrtK key zs → (∀ b o, H2 b = some o → Hf b = some o) → H2 a = none → Hf a = some (.lst zs) → Q (.ref a) Hf
def tSortK (X : Cx) (T : List (Addr × Str)) (C : Addr) (n : Str) (te : TE) : TE := fun σ H Q => te σ H fun x H1 => SortG X T C n Q x H1
theorem pe_sortK {T : List (Addr × Str)} {c1 P1 C : Addr} {n : Str} {e : Expr} {te : TE} {params : Arguments} {p pos lpos kpos p1 p2 : Pos} (he : PE X e te) (TB : TabB X.base X.mg c1 P1) (hcode : X.env.code = .ref c1) (hm : (P1, X.env.qual ++ "<lambda>") ∈ T) (hu : ∀ p ∈ T, p.1 = P1 → p.2 = X.env.qual ++ "<lambda>") (hr : Room 2 X.A)
    (cl : Cls X.K C) (na : NoAttr X.K C n) (L : Sc1 k scope) (hmg : X.mg "sorted" = none) (hg : Gl X "sorted" := by rfl) (hdef : defaultsOf params X.env = ([], []) := by rfl)
    (hbind : ∀ (q : Str) (pm cv ctv v : Value), bindArgs (PySem.W.kla_fn "<lambda>" q params (.Attribute (.Name k p1) n p2) scope [] pm cv ctv) ⟨[v], []⟩ = pure [(k, v)] := by intros; rfl)
    (hab : ∀ env : Env, env.scope = scope → attributeBase (.Name k p1) n env (eval (.Name k p1) env) = eval (.Name k p1) env := by intros; rfl) (hd : (k == ("__debug__" : Str)) = false := by decide) (hcd : (k == ("__classdict__" : Str)) = false := by decide)
    (hea : backTo pos (starEach [e] X.env) = (false, eval e X.env) :: backTo pos (starEach [] X.env) := by rfl) (hpl : (backTo pos (starEach [e] X.env)).any (·.1) = false := by rfl) (hs : starEach [e] X.env = (false, eval e X.env) :: starEach [] X.env := by rfl) :
    PE X (.Call (.Name "sorted" p) [e] [⟨some (Str.ofString "key"), .Lambda params (.Attribute (.Name k p1) n p2) scope lpos, kpos⟩] pos) (tSortK X T C n te) := by
  refine ⟨fun pins s σ H Q I h => ?_⟩
  refine wpAny_Call_Name_kw (ld_blt I hg hmg (by decide +kernel : bootBuiltins "sorted" = some (.builtin "sorted")) ?_ (by decide) (by decide))
  refine PyProof.Rows.callWith_kw (thn ((pa_cons he pa_nil hs).run pos pins s σ H (fun vs H1 => match vs with | [x] => SortG X T C n Q x H1 | _ => False) I h) fun us s1 ⟨vs, H1, I1, r1, hv⟩ => ?_) hea hpl (by rfl) (by rfl)
  match vs, r1, hv with
  | [x], r1, ⟨hT, hq⟩ =>
    obtain ⟨u, rfl, ru⟩ := vals1 r1
    show wpAny _ _ (evalAll ((do let v ← eval (.Lambda params (.Attribute (.Name k p1) n p2) scope lpos) X.env; standAt pos; pure v) :: [])) _ _ s1
    refine wpAny_evalAll_cons (wpAny_bind (lam_make2 I1 TB hcode hm hu hT hdef (fun y hy hf => by rw [L.names] at hy; rw [List.mem_singleton.mp hy] at hf; cases hf) fun f c' pm ctv H2 s2 I2 eN T2 of fn fr hc => wpAny_bind (wpAny_standAt (wpAny_pure (wpAny_evalAll_nil ?_)))))
    rw [clo1 L] at of
    obtain ⟨l, xs, key, rfl, hl, hf, q⟩ := hq H2 eN T2
    obtain rfl : u = Value.ref l := ru
    have nl : f ≠ X.env.locals := fun z => by
      obtain ⟨m, ⟨o, es, ep, ho, hd, _⟩, _⟩ := I2.loc
      rw [← z, of] at ho
      cases ho
      cases hd
    have nfs : f ∉ X.fs := fun z => by
      rcases I2.ok.stk with e | ⟨e, hf⟩
      · exact fr (by rw [e]; exact z)
      · refine fr ?_
        rw [e]
        unfold frs
        rw [List.filterMap_cons, hf]
        exact List.mem_cons_of_mem _ z
    have I3 : Inv X ((f, PySem.W.kla_obj "<lambda>" (X.env.qual ++ "<lambda>") params (.Attribute (.Name k p1) n p2) scope [] pm c' ctv) :: pins) σ H2 s2 := I2.pins_of fun p hp => by
      rcases List.mem_cons.mp hp with rfl | hp
      · exact ⟨of, fn, nl, nfs, fun v z => by cases z⟩
      · exact I2.pin p (List.mem_append_right _ hp)
    refine key_sorted (key := key) I3 hl (fun x v hx rx H' s' I' g => ?_) fun a zs Hf s' z1 z2 I' g z3 z4 => ?_
    · obtain ⟨a, dx, fs, rfl, ha, hk⟩ := hf x hx
      have of' := (I'.pin (f, _) (List.mem_append_right _ List.mem_cons_self)).1
      have body : PE (cx1 X k X.A.in1.in1 X.stack s' H' scope f c') (.Attribute (.Name k p1) n p2) (tFld X.K (tVar 0) n) := pe_fld (pe_var (i := 0) rfl (by
        refine .inl ?_
        show scope.names.lookup k = some .local
        rw [L.names]
        simp) hd hcd) (hab _ rfl)
      refine wpAny_call (codeAny_mono (run1 L I'.env0.in1.in1 hr.in1.in1 rfl of' (g _ _ hc) (hbind _ _ _ _ v) body rx (Q := fun u H3 => u = .str (key (.ref a)) ∧ H3 = H') ⟨_, rfl, a, C, dx, fs, _, rfl, g _ _ ha, cl, na, hk, rfl, rfl⟩) fun r s3 hr3 => ?_)
      match r, hr3 with
      | .ok (.ret u), hr3 =>
        obtain ⟨y, H3, I3, ry, e1, e2⟩ := I'.after hr3
        subst e1 e2
        exact ⟨ry, I3⟩
    · exact ⟨.ref a, Hf, I'.pins_of fun p hp => I'.pin p (List.mem_append_right _ (List.mem_cons_of_mem _ hp)), rfl, q a zs Hf z1 z2 g z3 z4⟩
end
end SK

set_option Elab.async false
set_option linter.all false
set_option maxRecDepth 100000
set_option maxHeartbeats 4000000
/-! DGE: sorted(kinds, key=lambda k: k.name) on data. -/
namespace DF
open PySem PySem.Spec PyProof.Rows L2
abbrev ltC (a b : Str) : Prop := a.cps.toList < b.cps.toList
theorem ltC_tr {a b c : Str} (h1 : ¬ ltC b a) (h2 : ¬ ltC c b) : ¬ ltC c a := fun h => by
  rcases strKind.negTrans c.cps.toList b.cps.toList a.cps.toList (decide_eq_true h) with t | t
  · exact h2 (of_decide_eq_true t)
  · exact h1 (of_decide_eq_true t)
theorem ltC_as {a b : Str} (h : ltC a b) : ¬ ltC b a := fun q => List.lt_irrefl _ (List.lt_trans h q)
theorem ltC_eq {a b : Str} (h1 : ¬ ltC a b) (h2 : ¬ ltC b a) : a = b := by
  have e := strKind.total a.cps.toList b.cps.toList (decide_eq_false h1) (decide_eq_false h2)
  obtain ⟨⟨x⟩⟩ := a
  obtain ⟨⟨y⟩⟩ := b
  simp only at e
  rw [e]
/-! ### insertion by texts -/
section
variable {α : Type}
abbrev SrtP (l : List (Str × α)) : Prop := l.Pairwise fun x y => ¬ ltC y.1 x.1
def insK (p : Str × α) : List (Str × α) → List (Str × α)
  | [] => [p]
  | q :: r => if p.1.cps.toList < q.1.cps.toList then p :: q :: r else q :: insK p r
def srtK : List (Str × α) → List (Str × α)
  | [] => []
  | p :: r => insK p (srtK r)
theorem insK_perm (p : Str × α) : ∀ l, (insK p l).Perm (p :: l)
  | [] => .refl _
  | q :: r => by
    unfold insK
    split
    · exact .refl _
    · exact ((insK_perm p r).cons q).trans (.swap p q r)
theorem srtK_perm : ∀ l : List (Str × α), (srtK l).Perm l
  | [] => .refl _
  | p :: r => (insK_perm p _).trans ((srtK_perm r).cons p)
theorem insK_srt (p : Str × α) : ∀ l, SrtP l → SrtP (insK p l)
  | [], _ => List.pairwise_singleton _ _
  | q :: r, h => by
    have h1 := List.pairwise_cons.mp h
    unfold insK
    split
    · rename_i hlt
      refine List.pairwise_cons.mpr ⟨fun z hz => ?_, h⟩
      rcases List.mem_cons.mp hz with rfl | hz
      · exact ltC_as hlt
      · exact ltC_tr (ltC_as hlt) (h1.1 z hz)
    · rename_i hlt
      refine List.pairwise_cons.mpr ⟨fun z hz => ?_, insK_srt p r h1.2⟩
      rcases List.mem_cons.mp ((insK_perm p r).mem_iff.mp hz) with rfl | hz
      · exact hlt
      · exact h1.1 z hz
theorem srtK_srt : ∀ l : List (Str × α), SrtP (srtK l)
  | [] => List.Pairwise.nil
  | p :: r => insK_srt p _ (srtK_srt r)
/-- one order alone -/
theorem srt_one : ∀ {l m : List (Str × α)}, l.Perm m → SrtP l → SrtP m → (l.map (·.1)).Nodup → l = m
  | [], m, p, _, _, _ => (List.nil_perm.mp p).symm
  | x :: l, [], p, _, _, _ => absurd (List.perm_nil.mp p) (by simp)
  | x :: l, y :: m, p, hl, hm, nd => by
    have hl1 := List.pairwise_cons.mp hl
    have hm1 := List.pairwise_cons.mp hm
    have e : x = y := by
      have hx : x ∈ y :: m := p.mem_iff.mp List.mem_cons_self
      have hy : y ∈ x :: l := p.mem_iff.mpr List.mem_cons_self
      rcases List.mem_cons.mp hx with e | hx
      · exact e
      · rcases List.mem_cons.mp hy with e | hy
        · exact e.symm
        · have ek : x.1 = y.1 := ltC_eq (hm1.1 x hx) (hl1.1 y hy)
          rw [List.map_cons] at nd
          exact absurd (List.mem_map.mpr ⟨y, hy, ek.symm⟩) (List.nodup_cons.mp nd).1
    subst e
    rw [srt_one (List.Perm.cons_inv p) hl1.2 hm1.2 (List.nodup_cons.mp (by rw [List.map_cons] at nd; exact nd)).2]
end
/-! ### the sort of objects by a field -/
def fldS1 (kc ix : Nat) : D → Option Str
  | .obj k fs => if k = kc then (match fs[ix]? with
    | some (.str z) => some z
    | _ => none) else none
  | _ => none
def keyed (kc ix : Nat) : List D → Option (List (Str × D))
  | [] => some []
  | d :: ds => (fldS1 kc ix d).bind fun z => (keyed kc ix ds).map fun r => (z, d) :: r
def sortD (kc ix : Nat) (ds : List D) : Option (List D) := (keyed kc ix ds).bind fun l => if (l.map (·.1)).Nodup then some ((srtK l).map (·.2)) else none
theorem keyed_map {kc ix : Nat} : ∀ {ds : List D} {l : List (Str × D)}, keyed kc ix ds = some l → l.map (·.2) = ds ∧ ∀ q ∈ l, fldS1 kc ix q.2 = some q.1
  | [], _, h => by cases h; exact ⟨rfl, by simp⟩
  | d :: ds, l, h => by
    simp only [keyed] at h
    cases e1 : fldS1 kc ix d with
    | none => rw [e1] at h; cases h
    | some z =>
      cases e2 : keyed kc ix ds with
      | none => rw [e1, e2] at h; cases h
      | some r =>
        rw [e1, e2] at h
        cases h
        obtain ⟨h1, h2⟩ := keyed_map e2
        refine ⟨by simp [h1], fun q hq => ?_⟩
        rcases List.mem_cons.mp hq with rfl | hq
        · exact e1
        · exact h2 q hq
section
variable {X : Cx} {c : Cy} {W : WX}
theorem lookup_zip : ∀ {ns : List Str} {vs : List V} {i : Nat} {n : Str} {v : V}, ns.Nodup → ns[i]? = some n → vs[i]? = some v → (ns.zip vs).lookup n = some v
  | [], _, i, _, _, _, h, _ => by simp at h
  | _ :: _, [], i, _, _, _, _, h => by simp at h
  | m :: ns, w :: vs, 0, n, v, _, h1, h2 => by
    simp at h1 h2
    subst h1 h2
    simp
  | m :: ns, w :: vs, i + 1, n, v, nd, h1, h2 => by
    simp at h1 h2
    have nd1 := List.nodup_cons.mp nd
    have ne : (n == m) = false := by
      rw [beq_eq_false_iff_ne]
      exact fun e => nd1.1 (e ▸ List.mem_of_getElem? h1)
    rw [List.zip_cons_cons, List.lookup_cons, ne]
    exact lookup_zip nd1.2 h1 h2
def seqD : D → Option (List D)
  | .lst ds => some ds
  | .tup ds => some ds
  | _ => none
def sortE (kc ix : Nat) (f : Slots → M D) : Slots → M (List D) := fun ρ => bnd (f ρ) fun d => opt ((seqD d).bind (sortD kc ix))
theorem rl_pairs {K : PySem.W.Frag} {T : Tb} {p : Addr} {H : Hp} : ∀ {ds : List D} {vs : List V}, RL K T p H ds vs → ∃ L : List (D × V), L.map (·.1) = ds ∧ L.map (·.2) = vs ∧ ∀ q ∈ L, R K T p H q.1 q.2
  | [], _, h => by simp only [RL] at h; subst h; exact ⟨[], rfl, rfl, by simp⟩
  | d :: ds, _, h => by
    simp only [RL] at h
    obtain ⟨v, ws, rfl, h1, h2⟩ := h
    obtain ⟨L, e1, e2, e3⟩ := rl_pairs h2
    refine ⟨(d, v) :: L, by simp [e1], by simp [e2], fun q hq => ?_⟩
    rcases List.mem_cons.mp hq with rfl | hq
    · exact h1
    · exact e3 q hq
theorem pairs_rl {K : PySem.W.Frag} {T : Tb} {p : Addr} {H : Hp} : ∀ {L : List (D × V)}, (∀ q ∈ L, R K T p H q.1 q.2) → RL K T p H (L.map (·.1)) (L.map (·.2))
  | [], _ => RL.nil
  | q :: L, h => RL.cons (h q List.mem_cons_self) (pairs_rl fun z hz => h z (List.mem_cons_of_mem _ hz))
theorem dl_sortK {kc ix : Nat} {n k : Str} {e : Expr} {f : Slots → M D} {c1 P1 : Addr} {params : Arguments} {scope : Scope} {p pos lpos kpos p1 p2 : Pos} (he : PE X e (dE c W f)) (TB : LamX.TabB X.base X.mg c1 P1) (hcode : X.env.code = .ref c1) (hm : (P1, X.env.qual ++ "<lambda>") ∈ c.T.tb) (hu : ∀ p ∈ c.T.tb, p.1 = P1 → p.2 = X.env.qual ++ "<lambda>") (hr : Room 2 X.A)
    (cl : Cls X.K (c.T.cls kc)) (na : NoAttr X.K (c.T.cls kc) n) (hn : (c.T.names kc)[ix]? = some n) (nd : (c.T.names kc).Nodup) (L : SK.Sc1 k scope) (hmg : X.mg "sorted" = none) (hK : c.K = X.K := by rfl) (hg : Gl X "sorted" := by rfl) (hdef : defaultsOf params X.env = ([], []) := by rfl)
    (hbind : ∀ (q : Str) (pm cv ctv v : Value), bindArgs (PySem.W.kla_fn "<lambda>" q params (.Attribute (.Name k p1) n p2) scope [] pm cv ctv) ⟨[v], []⟩ = pure [(k, v)] := by intros; rfl)
    (hab : ∀ env : Env, env.scope = scope → attributeBase (.Name k p1) n env (eval (.Name k p1) env) = eval (.Name k p1) env := by intros; rfl) (hd : (k == ("__debug__" : Str)) = false := by decide) (hcd : (k == ("__classdict__" : Str)) = false := by decide)
    (hea : backTo pos (starEach [e] X.env) = (false, eval e X.env) :: backTo pos (starEach [] X.env) := by rfl) (hpl : (backTo pos (starEach [e] X.env)).any (·.1) = false := by rfl) (hs : starEach [e] X.env = (false, eval e X.env) :: starEach [] X.env := by rfl) :
    PE X (.Call (.Name "sorted" p) [e] [⟨some (Str.ofString "key"), .Lambda params (.Attribute (.Name k p1) n p2) scope lpos, kpos⟩] pos) (dL c W (sortE kc ix f)) := by
  refine pe_imp (SK.pe_sortK he TB hcode hm hu hr cl na L hmg hg hdef hbind hab hd hcd hea hpl hs) fun σ H Q ⟨O, ρ, pt, r, q⟩ => ⟨O, ρ, pt, r, (Wg.bnd q).imp fun d p1 H1 _ s1 q v rv => ?_⟩
  have r1 := r.stp s1
  refine ⟨r1.pot.tab, fun H2 eN T2 => ?_⟩
  have st : Stp c.T.tb c.p H1 H2 p1 := ⟨fun b o _ e m => eN b o e (fun ps z => by rw [z] at m; cases m), ⟨eN _ _ r1.pot.at_ (fun ps z => by cases z), T2⟩⟩
  have r2 := r1.stp st
  have q := Wg.from st q
  obtain ⟨ds', ed, q⟩ : ∃ ds', (seqD d).bind (sortD kc ix) = some ds' ∧ ∀ H', Stp c.T.tb c.p H2 H' p1 → ∀ l vs, Hd [] H l = none → H' l = some (.lst vs) → c.RL (Hd (l :: hid c O) H') ds' vs → Q (.ref l) H' := by
    cases e0 : (seqD d).bind (sortD kc ix) with
    | none => rw [e0] at q; exact q.elim
    | some ds' => rw [e0] at q; exact ⟨ds', rfl, q⟩
  have rv2 : c.R (Hd (hid c O) H2) d v := R.gr (st.gr r1.pm) rv
  obtain ⟨l, xs, ds, rfl, hl, rl, eds⟩ : ∃ (l : Addr) (xs : List V) (ds : List D), v = .ref l ∧ (SqT X.K H2 l xs ∨ SqL X.K H2 l xs) ∧ c.RL (Hd (hid c O) H2) ds xs ∧ sortD kc ix ds = some ds' := by
    cases d with
    | lst ds =>
      simp only [Cy.R, R] at rv2
      obtain ⟨a, xs, rfl, ha, rl⟩ := rv2
      exact ⟨a, xs, ds, rfl, .inr (.inl (.inl (Hd.le _ _ ha))), rl, ed⟩
    | tup ds =>
      simp only [Cy.R, R] at rv2
      obtain ⟨a, xs, rfl, ha, rl⟩ := rv2
      exact ⟨a, xs, ds, rfl, .inl (hK ▸ Hd.le.sqt ha), rl, ed⟩
    | _ => cases ed
  unfold sortD at eds
  cases ek : keyed kc ix ds with
  | none => rw [ek] at eds; cases eds
  | some kl =>
    rw [ek] at eds
    simp only [Option.bind_some] at eds
    split at eds
    · rename_i hnd
      cases eds
      obtain ⟨k1, k2⟩ := keyed_map ek
      obtain ⟨PL, e1, e2, e3⟩ := rl_pairs rl
      have fld : ∀ q ∈ PL, ∃ z, fldS1 kc ix q.1 = some z ∧ ∃ a dx fs, q.2 = .ref a ∧ H2 a = some (.ins (c.T.cls kc) dx fs) ∧ fs.lookup n = some (.str z) := fun q hq => by
        have hm1 : q.1 ∈ ds := by rw [← e1]; exact List.mem_map.mpr ⟨q, hq, rfl⟩
        rw [← k1] at hm1
        obtain ⟨w, hw, ew⟩ := List.mem_map.mp hm1
        have hz := k2 w hw
        rw [ew] at hz
        refine ⟨w.1, hz, ?_⟩
        have rq := e3 q hq
        unfold fldS1 at hz
        split at hz
        · rename_i k0 fs0 eq0
          split at hz
          · rename_i hk0
            split at hz
            · rename_i z0 ez0
              cases hz
              rw [eq0] at rq
              simp only [R] at rq
              obtain ⟨a, dx, ws, ea, ha, hl0, rl0⟩ := rq
              obtain ⟨vz, hv1, hv2⟩ := RL.getD rl0 ez0
              simp only [R] at hv2
              subst hv2
              subst hk0
              exact ⟨a, dx, _, ea, Hd.le _ _ ha, lookup_zip nd hn hv1⟩
            · cases hz
          · cases hz
        · cases hz
      classical
      let key : V → Str := fun y => if h : ∃ z a dx fs, y = .ref a ∧ H2 a = some (.ins (c.T.cls kc) dx fs) ∧ fs.lookup n = some (.str z) then h.choose else ("" : Str)
      have keyOk : ∀ {y : V} {z : Str} {a dx : Addr} {fs : List (Str × V)}, y = .ref a → H2 a = some (.ins (c.T.cls kc) dx fs) → fs.lookup n = some (.str z) → key y = z := fun {y z a dx fs} h1 h2 h3 => by
        have ex : ∃ z a dx fs, y = .ref a ∧ H2 a = some (.ins (c.T.cls kc) dx fs) ∧ fs.lookup n = some (.str z) := ⟨z, a, dx, fs, h1, h2, h3⟩
        have ek : key y = ex.choose := dif_pos ex
        obtain ⟨a', dx', fs', g1, g2, g3⟩ := ex.choose_spec
        rw [ek]
        rw [h1] at g1
        cases g1
        rw [h2] at g2
        cases g2
        rw [h3] at g3
        injection g3 with g3
        injection g3 with g3
        exact g3.symm
      refine ⟨l, xs, key, rfl, hl, fun y hy => ?_, fun a zs Hf pz sz gz ha hf => ?_⟩
      · rw [← e2] at hy
        obtain ⟨q0, hq0, eq0⟩ := List.mem_map.mp hy
        obtain ⟨z, _, a, dx, fs, h1, h2, h3⟩ := fld q0 hq0
        subst eq0
        exact ⟨a, dx, fs, h1, h2, by rw [keyOk h1 h2 h3]; exact h3⟩
      · have st2 : Stp c.T.tb c.p H2 Hf p1 := Stp.gr_ r2.pot gz
        obtain ⟨PL', q1, q2⟩ := SK.perm_lift pz e2.symm
        have e3' : ∀ q ∈ PL', R c.K c.T c.p (Hd (hid c O) H2) q.1 q.2 := fun q hq => e3 q (q1.mem_iff.mp hq)
        have eD : PL'.map (·.1) = (srtK kl).map (·.2) := by
          have keyD : ∀ q ∈ PL', fldS1 kc ix q.1 = some (key q.2) := fun q hq => by
            obtain ⟨z, h0, a, dx, fs, h1, h2, h3⟩ := fld q (q1.mem_iff.mp hq)
            rw [h0, keyOk h1 h2 h3]
          have pA : (PL'.map fun q => (key q.2, q.1)).Perm kl := by
            have h1 : (PL'.map fun q => (key q.2, q.1)).Perm (PL.map fun q => (key q.2, q.1)) := q1.map _
            have h2 : PL.map (fun q => (key q.2, q.1)) = kl := by
              have : ∀ {A : List (D × V)} {B : List (Str × D)}, A.map (·.1) = B.map (·.2) → (∀ q ∈ A, fldS1 kc ix q.1 = some (key q.2)) → (∀ q ∈ B, fldS1 kc ix q.2 = some q.1) → A.map (fun q => (key q.2, q.1)) = B := by
                intro A
                induction A with
                | nil => intro B h _ _; cases B with | nil => rfl | cons _ _ => cases h
                | cons a A ih =>
                  intro B h hA hB
                  cases B with
                  | nil => cases h
                  | cons b B =>
                    simp only [List.map_cons, List.cons.injEq] at h
                    have z1 := hA a List.mem_cons_self
                    have z2 := hB b List.mem_cons_self
                    rw [h.1, z2] at z1
                    injection z1 with z1
                    rw [List.map_cons, ih h.2 (fun q hq => hA q (List.mem_cons_of_mem _ hq)) (fun q hq => hB q (List.mem_cons_of_mem _ hq)), ← z1, h.1]
              refine this (by rw [e1, k1]) (fun q hq => ?_) k2
              obtain ⟨z, h0, a, dx, fs, h1, h2, h3⟩ := fld q hq
              rw [h0, keyOk h1 h2 h3]
            rw [h2] at h1
            exact h1
          have sA : SrtP (PL'.map fun q => (key q.2, q.1)) := by
            have sz' := sz
            unfold SK.SrtK at sz'
            rw [← q2] at sz'
            exact List.pairwise_map.mpr (List.pairwise_map.mp sz')
          have nA : ((PL'.map fun q => (key q.2, q.1)).map (·.1)).Nodup := (pA.map (·.1)).nodup_iff.mpr hnd
          have e := srt_one (pA.trans (srtK_perm kl).symm) sA (srtK_srt kl) nA
          have e4 := congrArg (List.map (·.2)) e
          rw [List.map_map] at e4
          exact e4
        have rl' : c.RL (Hd (hid c O) H2) ((srtK kl).map (·.2)) zs := by
          rw [← eD, ← q2]
          exact pairs_rl e3'
        have h0 : Hd [] H a = none := by
          cases e : Hd [] H a with
          | none => rfl
          | some o =>
            obtain ⟨_, e, n⟩ := Hd.sees e
            by_cases el : a = c.p
            · rw [el, r2.pot.at_] at ha; cases ha
            · rw [(s1.trans st).keep a o el e n] at ha; cases ha
        refine q Hf st2 a zs h0 hf (RL.gr (fun b o eb => ?_) rl')
        obtain ⟨b1, b2, b3⟩ := Hd.sees eb
        exact Hd.out (fun z => (List.mem_cons.mp z).elim (fun z => by rw [z, ha] at b2; cases b2) b1) (gz _ _ b2) b3
    · cases eds
end
end DF

set_option Elab.async false
set_option linter.all false
set_option maxRecDepth 100000
set_option maxHeartbeats 4000000
/-! DGF: dicts: made, frozen. -/
namespace DF
open PySem PySem.Spec PyProof.Rows L2
def keyOf : D → Option Key
  | .int i => some (.inl i)
  | .str x => some (.inr x)
  | _ => none
theorem keyOf_ok {K : PySem.W.Frag} {T : Tb} {p : Addr} {H : Hp} {d : D} {v : V} {k : Key} (e : keyOf d = some k) (r : R K T p H d v) : v = kV k := by
  cases d <;> simp only [keyOf] at e <;> first | (cases e; simp only [R] at r; exact r) | cases e
def putD (kvs : List (Key × D)) (k : Key) (d : D) : List (Key × D) := if (kvs.any fun kv => decide (kv.1 = k)) = true then kvs.map (fun kv => if kv.1 = k then (kv.1, d) else kv) else kvs ++ [(k, d)]
def valD (kvs : List (Key × D)) (k : Key) : Option D := (kvs.find? fun kv => decide (kv.1 = k)).map (·.2)
section
variable {K : PySem.W.Frag} {T : Tb} {p : Addr} {H : Hp}
theorem RK.nil : RK K T p H [] [] := by simp [RK]
theorem RK.cons {k : Key} {d : D} {v : V} {ds : List (Key × D)} {vs : List (Key × V)} (h : R K T p H d v) (hs : RK K T p H ds vs) : RK K T p H ((k, d) :: ds) ((k, v) :: vs) := by
  simp only [RK]
  exact ⟨_, _, rfl, h, hs⟩
theorem RK.len : ∀ {ds : List (Key × D)} {vs : List (Key × V)}, RK K T p H ds vs → ds.length = vs.length
  | [], _, h => by simp only [RK] at h; subst h; rfl
  | (k, d) :: ds, _, h => by
    simp only [RK] at h
    obtain ⟨v, ws, rfl, _, h⟩ := h
    simp [RK.len h]
theorem RK.keys : ∀ {ds : List (Key × D)} {vs : List (Key × V)}, RK K T p H ds vs → ds.map (·.1) = vs.map (·.1)
  | [], _, h => by simp only [RK] at h; subst h; rfl
  | (k, d) :: ds, _, h => by
    simp only [RK] at h
    obtain ⟨v, ws, rfl, _, h⟩ := h
    simp [RK.keys h]
theorem RK.app : ∀ {ds es : List (Key × D)} {vs ws : List (Key × V)}, RK K T p H ds vs → RK K T p H es ws → RK K T p H (ds ++ es) (vs ++ ws)
  | [], _, _, _, h, h' => by simp only [RK] at h; subst h; exact h'
  | (k, d) :: ds, _, _, _, h, h' => by
    simp only [RK] at h
    obtain ⟨v, ws, rfl, r, h⟩ := h
    exact RK.cons r (RK.app h h')
theorem RK.any (k : Key) : ∀ {ds : List (Key × D)} {vs : List (Key × V)}, RK K T p H ds vs → (ds.any fun kv => decide (kv.1 = k)) = vs.any fun kv => decide (kv.1 = k)
  | [], _, h => by simp only [RK] at h; subst h; rfl
  | (j, d) :: ds, _, h => by
    simp only [RK] at h
    obtain ⟨v, ws, rfl, _, h⟩ := h
    rw [List.any_cons, List.any_cons, RK.any k h]
theorem RK.repl (k : Key) {y : D} {z : V} (ry : R K T p H y z) : ∀ {ds : List (Key × D)} {vs : List (Key × V)}, RK K T p H ds vs → RK K T p H (ds.map fun kv => if kv.1 = k then (kv.1, y) else kv) (vs.map fun kv => if kv.1 = k then (kv.1, z) else kv)
  | [], _, h => by simp only [RK] at h; subst h; exact RK.nil
  | (j, d) :: ds, _, h => by
    simp only [RK] at h
    obtain ⟨v, ws, rfl, r, h⟩ := h
    rw [List.map_cons, List.map_cons]
    by_cases e : j = k
    · rw [if_pos e, if_pos e]
      exact RK.cons ry (RK.repl k ry h)
    · rw [if_neg e, if_neg e]
      exact RK.cons r (RK.repl k ry h)
theorem RK.put {ds : List (Key × D)} {vs : List (Key × V)} (h : RK K T p H ds vs) (k : Key) {y : D} {z : V} (ry : R K T p H y z) : RK K T p H (putD ds k y) (putK vs k z) := by
  unfold putD putK
  rw [RK.any k h]
  split
  · exact RK.repl k ry h
  · exact RK.app h (RK.cons ry RK.nil)
theorem RK.val (k : Key) : ∀ {ds : List (Key × D)} {vs : List (Key × V)}, RK K T p H ds vs → (valD ds k = none ∧ valV vs k = none) ∨ ∃ d v, valD ds k = some d ∧ valV vs k = some v ∧ R K T p H d v
  | [], _, h => by simp only [RK] at h; subst h; exact .inl ⟨rfl, rfl⟩
  | (j, d) :: ds, _, h => by
    simp only [RK] at h
    obtain ⟨v, ws, rfl, r, h⟩ := h
    by_cases e : j = k
    · exact .inr ⟨d, v, by simp [valD, List.find?_cons, e], valV_pos e, r⟩
    · rcases RK.val k h with ⟨h1, h2⟩ | ⟨d', v', h1, h2, h3⟩
      · exact .inl ⟨by rw [← h1]; simp [valD, List.find?_cons, e], by rw [valV_neg e]; exact h2⟩
      · exact .inr ⟨d', v', by rw [← h1]; simp [valD, List.find?_cons, e], by rw [valV_neg e]; exact h2, h3⟩
end
section
variable {X : Cx} {c : Cy} {W : WX} {σ : L2.St} {H H' : Hp} {O : List (Nat × Addr)} {ρ : Slots} {pt pt' : Pot} {e : Expr}
theorem RS.putOwnD {ds : List (Key × D)} {vs : List (Key × V)} {l : Addr} (r : RS c O ρ σ H pt) {H1 : Hp} {p1 : Pot} (s1 : Stp c.T.tb c.p H H1 p1) (i : Nat) (hi : i < σ.length) (hl : Hd [] H l = none) (h1 : H1 l = some (.dK vs)) (rl : RK c.K c.T c.p (Hd (l :: hid c O) H1) ds vs) :
    RS c ((i, l) :: O.filter fun q => decide (q.1 ≠ i)) (ρ.set i (some (.ownd ds))) (σ.set i (some (.ref l))) H1 p1 ∧ Mv c O H ((i, l) :: O.filter fun q => decide (q.1 ≠ i)) H1 := by
  have nh : l ∉ hid c O := r.freshF hl
  have r1 := (r.stp s1).drop i
  have hid1 : ∀ a, a ∈ hid c ((i, l) :: O.filter fun q => decide (q.1 ≠ i)) → a = l ∨ a ∈ hid c O := fun a h => by
    rcases List.mem_append.mp h with h | h
    · exact .inr (List.mem_append_left _ h)
    · rcases List.mem_cons.mp (show a ∈ l :: (O.filter fun q => decide (q.1 ≠ i)).map (·.2) from h) with h | h
      · exact .inl h
      · exact .inr (fil_sub a (List.mem_append_right _ h))
  have mv : Mv c O H ((i, l) :: O.filter fun q => decide (q.1 ≠ i)) H1 := fun a o h e n => ⟨fun q => (hid1 a q).elim (fun z => Hd.ne e n hl z) h, s1.keep a o (fun z => h (z ▸ r.pm)) e n⟩
  have g0 : Gr (Hd (l :: hid c O) H1) (Hd (hid c ((i, l) :: O.filter fun q => decide (q.1 ≠ i))) H1) := Hd.sub fun a h => (hid1 a h).elim (fun z => z ▸ List.mem_cons_self) fun z => List.mem_cons_of_mem _ z
  have nl : l ∉ (O.filter fun q => decide (q.1 ≠ i)).map (·.2) := fun h => nh (fil_sub l (List.mem_append_right _ h))
  refine ⟨⟨s1.pot, fun a o n h m => r1.ext a o n h m, r.hp, r1.hS, fun q hq => ?_, ?_, ?_, by rw [List.length_set, List.length_set]; exact r.len, fun q hq => ?_, fun j s h => ?_⟩, mv⟩
  · rcases List.mem_cons.mp hq with e | hq
    · subst e
      refine ⟨?_, fun z => ?_, fun z => nh (List.mem_append_left _ z), _, h1, rfl⟩
      · cases e : Hd [] c.H0 l with
        | none => rfl
        | some o =>
          obtain ⟨_, e, n⟩ := Hd.sees e
          by_cases lp : l = c.p
          · exact absurd (lp ▸ r.pm) nh
          · exact absurd rfl (Hd.ne (r.ext l o lp e n) n hl)
      · have z' : l = c.p := z
        exact nh (z' ▸ r.pm)
    · exact r1.new q hq
  · exact List.nodup_cons.mpr ⟨nl, r1.nd⟩
  · refine List.nodup_cons.mpr ⟨fun h => ?_, r1.nf⟩
    obtain ⟨q, hq, e⟩ := List.mem_map.mp h
    exact (fil_mem hq).2 e
  · rcases List.mem_cons.mp hq with e | hq
    · subst e
      exact ⟨.ownd ds, List.getElem?_set_self (by rw [r.len]; exact hi), rfl⟩
    · exact fil_ow r.ow i _ q hq
  · by_cases e : j = i
    · subst e
      rw [List.getElem?_set_self (by rw [r.len]; exact hi)] at h
      cases h
      exact ⟨l, vs, List.mem_cons_self, List.getElem?_set_self hi, h1, RK.gr g0 rl⟩
    · rw [List.getElem?_set_ne (Ne.symm e)] at h
      rw [List.getElem?_set_ne (Ne.symm e)]
      have g : Gr (Hd (hid c O) H) (Hd (hid c ((i, l) :: O.filter fun q => decide (q.1 ≠ i))) H1) := mv.gr
      have keep : ∀ {a : Addr}, (j, a) ∈ O → (j, a) ∈ (i, l) :: O.filter fun q => decide (q.1 ≠ i) := fun m => List.mem_cons_of_mem _ (List.mem_filter.mpr ⟨m, decide_eq_true e⟩)
      have st : ∀ {a : Addr} {o : HO}, (j, a) ∈ O → H a = some o → (n : nt o = true := by rfl) → H1 a = some o := fun m q n => s1.keep _ _ (r.new _ m).2.1 q n
      have q := r.sl j s h
      cases s with
      | val d =>
        obtain ⟨v, e, r⟩ := q
        exact ⟨v, e, R.gr g r⟩
      | own ds =>
        obtain ⟨a, vs, m, e, q, r⟩ := q
        exact ⟨a, vs, keep m, e, st m q, RL.gr g r⟩
      | ownd ds =>
        obtain ⟨a, vs, m, e, q, r⟩ := q
        exact ⟨a, vs, keep m, e, st m q, RK.gr g r⟩
      | slf k fs =>
        obtain ⟨a, dx, vs, m, em, e, q, l, r⟩ := q
        exact ⟨a, dx, vs, keep m, em, e, st m q, l, RL.gr g r⟩
      | exv e fs => exact ⟨q.1, Xv.gr g q.2⟩
      | lam => exact ⟨q.1, g _ _ q.2⟩
      | raw v => exact q
/-- a new dict -/
def dD (c : Cy) (W : WX) (f : Slots → M (List (Key × D))) : TE := fun σ H Q => ∃ O ρ pt, RS c O ρ σ H pt ∧ Wg c W σ H (fun ds _ H' => ∀ l vs, Hd [] H l = none → H' l = some (.dK vs) → RK c.K c.T c.p (Hd (l :: hid c O) H') ds vs → Q (.ref l) H') (f ρ pt)
def dcompL (tgf : D → Slots → Option Slots) (t : Slots → M Bool) (fk f : Slots → M D) (ρ : Slots) : List D → List (Key × D) → M (List (Key × D))
  | [], acc => ret acc
  | d :: ds, acc => bnd (opt (tgf d ρ)) fun ρ1 => bnd (noX (t ρ1)) fun b => if b then bnd (noX (fk ρ1)) fun k => bnd (opt (keyOf k)) fun k => bnd (noX (f ρ1)) fun y => (if acc.length < 100000 then dcompL tgf t fk f ρ ds (putD acc k y) else fail) else dcompL tgf t fk f ρ ds acc
def dcompE (fi : Slots → M (List D)) (vs : List Nat) (tgf : D → Slots → Option Slots) (t : Slots → M Bool) (fk f : Slots → M D) : Slots → M (List (Key × D)) := fun ρ => bnd (fi ρ) fun items => if noOwn ρ vs then dcompL tgf t fk f (wipeD ρ vs) items [] else fail
theorem dcomp_use {vs : List Nat} {fi : Slots → M (List D)} {tgf : D → Slots → Option Slots} {t : Slots → M Bool} {fk f : Slots → M D} {Q : VK} (h : dD c W (dcompE fi vs tgf t fk f) σ H Q) :
    tDc (dI c W fi) (fun v σ H Q => ∃ l : Addr, dG { c with S := l :: c.S } vs tgf v σ H Q) (fun σ H Q => ∃ l : Addr, dT { c with S := l :: c.S } W0 t σ H Q) (fun σ H Q => ∃ l : Addr, dE { c with S := l :: c.S } W0 fk σ H Q) (fun σ H Q => ∃ l : Addr, dE { c with S := l :: c.S } W0 f σ H Q) vs σ H Q := by
  obtain ⟨O, ρ, pt, r, h⟩ := h
  refine ⟨O, ρ, pt, r, ?_⟩
  unfold dcompE DF.bnd at h
  cases e : fi ρ pt with
  | exc _ _ _ => rw [e] at h; exact h
  | stuck => rw [e] at h; exact h
  | ok items p1 =>
    rw [e] at h
    intro H1 s1 J yl l hl
    simp only at h
    by_cases hn : noOwn ρ vs = true
    · rw [if_pos hn] at h
      have hl0 : Hd [] H l = none := by
        cases e2 : Hd [] H l with
        | none => rfl
        | some o =>
          obtain ⟨_, e2, n2⟩ := Hd.sees e2
          by_cases el : l = c.p
          · rw [el, s1.pot.at_] at hl; cases hl
          · rw [s1.keep l o el e2 n2] at hl; cases hl
      have r1 := r.stp s1
      have lh : l ∉ hid c O := r1.fresh hl
      have rb := r1.blk hn hl (.dK [])
      let c' : Cy := { c with S := l :: c.S }
      have hidE : ∀ a, a ∈ hid c' O ↔ a ∈ l :: hid c O := fun a => Iff.rfl
      refine ⟨fun i m H2 => m = items.length - i ∧ i ≤ items.length ∧ ∃ acc vacc p2, RS c' O (wipeD ρ vs) (wipe σ vs) H2 p2 ∧ Stp c.T.tb c.p H1 H2 p2 ∧ H2 l = some (.dK vacc) ∧ RK c.K c.T c.p (Hd (hid c' O) H2) acc vacc ∧
        Wg c W σ H (fun ds _ H' => ∀ l vs, Hd [] H l = none → H' l = some (.dK vs) → RK c.K c.T c.p (Hd (l :: hid c O) H') ds vs → Q (.ref l) H') (dcompL tgf t fk f (wipeD ρ vs) (items.drop i) acc p2),
        ⟨_, rfl, Nat.zero_le _, [], [], p1, rb, Stp.new s1.pot hl, upd_same, RK.nil, h⟩, ?_⟩
      rintro i m H2 ⟨rfl, hi, acc, vacc, p2, rs, st, hlv, rl, q⟩
      obtain ⟨y1, y2⟩ := yl H2 fun a o ha ea m => st.keep a o (fun z => ha (z ▸ r.pm)) ea m
      by_cases hlt : i < items.length
      · refine .inr ?_
        have ed : items[i]? = some items[i] := List.getElem?_eq_getElem hlt
        have edr : items.drop i = items[i] :: items.drop (i + 1) := List.drop_eq_getElem_cons hlt
        rw [edr] at q
        simp only [dcompL] at q
        obtain ⟨go, yy⟩ := y1 i _ ed
        refine ⟨go, fun H3 => ∃ acc vacc p3, RS c' O (wipeD ρ vs) (wipe σ vs) H3 p3 ∧ Stp c.T.tb c.p H1 H3 p3 ∧ H3 l = some (.dK vacc) ∧ RK c.K c.T c.p (Hd (hid c' O) H3) acc vacc ∧
          Wg c W σ H (fun ds _ H' => ∀ l vs, Hd [] H l = none → H' l = some (.dK vs) → RK c.K c.T c.p (Hd (l :: hid c O) H') ds vs → Q (.ref l) H') (dcompL tgf t fk f (wipeD ρ vs) (items.drop (i + 1)) acc p3),
          fun H3 ⟨acc, vacc, p3, a1, a2, a3, a4, a5⟩ => ⟨items.length - (i + 1), by omega, rfl, hlt, acc, vacc, p3, a1, a2, a3, a4, a5⟩, fun x H3 y => ?_⟩
        obtain ⟨gr, rx⟩ := yy x H3 y
        have st3 : Stp c.T.tb c.p H2 H3 p2 := Stp.gr_ rs.pot gr
        have rs3 : RS c' O (wipeD ρ vs) (wipe σ vs) H3 p2 := rs.stp st3
        have gro : Gr (Hd (hid c O) H1) (Hd (hid c' O) H2) := fun a o ea => by
          obtain ⟨h1, h2, h3⟩ := Hd.sees ea
          have na : a ≠ l := ne_of_none h2 hl
          exact Hd.out (fun z => (List.mem_cons.mp ((hidE a).mp z)).elim na h1) (st.keep a o (fun z => h1 (z ▸ r.pm)) h2 h3) h3
        have rx := rx (hid c' O) gro fun a ha => rs.hidden ha
        cases et : tgf items[i] (wipeD ρ vs) with
        | none =>
          unfold DF.bnd at q
          rw [et] at q
          exact q.elim
        | some ρ1 =>
          rw [et] at q
          have q : Wg c W σ H (fun ds _ H' => ∀ l vs, Hd [] H l = none → H' l = some (.dK vs) → RK c.K c.T c.p (Hd (l :: hid c O) H') ds vs → Q (.ref l) H') (bnd (noX (t ρ1)) (fun b => if b then bnd (noX (fk ρ1)) fun k => bnd (opt (keyOf k)) fun k => bnd (noX (f ρ1)) fun y => (if acc.length < 100000 then dcompL tgf t fk f (wipeD ρ vs) (items.drop (i + 1)) (putD acc k y) else fail) else dcompL tgf t fk f (wipeD ρ vs) (items.drop (i + 1)) acc) p2) := q
          refine ⟨l, O, wipeD ρ vs, p2, items[i], ρ1, rs3, rx, et, fun O1 σ1 rs1 mv1 w1 k1 => ⟨w1.trans (wipe_wipe σ vs), l, O1, ρ1, p2, rs1, ?_⟩⟩
          unfold DF.bnd noX at q
          cases eb : t ρ1 p2 with
          | exc _ _ _ => rw [eb] at q; exact q.elim
          | stuck => rw [eb] at q; exact q.elim
          | ok b p3 =>
            rw [eb] at q
            intro H4 st4
            have stA : Stp c.T.tb c.p H1 H4 p3 := (st.trans st3).trans st4
            cases b with
            | false =>
              refine ⟨acc, vacc, p3, rs3.stp st4, stA, ?_, ?_, q⟩
              · exact st4.keep _ _ (fun z => lh (z ▸ r.pm)) (gr _ _ hlv)
              · exact RK.gr (st4.gr rs.pm) (RK.gr (st3.gr rs.pm) rl)
            | true =>
              refine ⟨l, O1, ρ1, p3, rs1.stp st4, ?_⟩
              simp only [if_true] at q
              cases ek : fk ρ1 p3 with
              | exc _ _ _ => rw [ek] at q; exact q.elim
              | stuck => rw [ek] at q; exact q.elim
              | ok kd p4 =>
                rw [ek] at q
                intro H5 st5 kv rk
                simp only at q
                cases eo : keyOf kd with
                | none => rw [eo] at q; exact q.elim
                | some kk =>
                  rw [eo] at q
                  have ekv : kv = kV kk := keyOf_ok eo rk
                  simp only [opt, ret] at q
                  have stK : Stp c.T.tb c.p H3 H5 p4 := st4.trans st5
                  refine ⟨l, O1, ρ1, p4, (rs1.stp st4).stp st5, ?_⟩
                  cases ef : f ρ1 p4 with
                  | exc _ _ _ => rw [ef] at q; exact q.elim
                  | stuck => rw [ef] at q; exact q.elim
                  | ok yd p5 =>
                    rw [ef] at q
                    intro H6 st6 yv ry
                    simp only at q
                    by_cases ha : acc.length < 100000
                    · rw [if_pos ha] at q
                      have st45 : Stp c.T.tb c.p H3 H6 p5 := stK.trans st6
                      have rs5 : RS c' O (wipeD ρ vs) (wipe σ vs) H6 p5 := rs3.stp st45
                      have hl5 : H6 l = some (.dK vacc) := st45.keep _ _ (fun z => lh (z ▸ r.pm)) (gr _ _ hlv)
                      have rl5 : RK c.K c.T c.p (Hd (hid c' O) H6) acc vacc := RK.gr (st45.gr rs.pm) (RK.gr (st3.gr rs.pm) rl)
                      have sub : ∀ a ∈ hid c' O, a ∈ hid c' O1 := fun a ha => by
                        rcases List.mem_append.mp ha with ha | ha
                        · exact List.mem_append_left _ ha
                        · obtain ⟨z, hz, ez⟩ := List.mem_map.mp ha
                          exact List.mem_append_right _ (List.mem_map.mpr ⟨z, k1 z hz (own_out r hn z hz), ez⟩)
                      have ry5 : c.R (Hd (hid c' O) H6) yd yv := R.gr (Hd.sub sub) ry
                      have lin : l ∈ hid c' O := List.mem_cons_self
                      have grU : Gr (Hd (hid c' O) H6) (Hd (hid c' O) (upd H6 l (.dK (putK vacc kk yv)))) := fun a o ea => by
                        obtain ⟨h1, h2, h3⟩ := Hd.sees ea
                        exact Hd.out h1 (by rw [upd_ne (fun z : a = l => h1 (z ▸ lin))]; exact h2) h3
                      have lp : c.p ≠ l := fun z => lh (z ▸ r.pm)
                      have l0 : Hd [] c.H0 l = none := by
                        cases e0 : Hd [] c.H0 l with
                        | none => rfl
                        | some o =>
                          obtain ⟨_, e0, n0⟩ := Hd.sees e0
                          exact absurd rfl (Hd.ne (r.ext l o (Ne.symm lp) e0 n0) n0 hl0)
                      refine ⟨vacc, kk, ekv, hl5, Nat.lt_of_lt_of_le (by rw [← RK.len rl]; exact ha) (by decide), putD acc kk yd, putK vacc kk yv, p5, rs5.poke List.mem_cons_self (Ne.symm lp) l0, ?_, upd_same, RK.put (RK.gr grU rl5) kk (R.gr grU ry5), q⟩
                      exact ⟨fun a o n ea m => by
                        rw [upd_ne (ne_of_none ea hl)]
                        exact (st.trans (st3.trans st45)).keep a o n ea m, st45.pot.upd lp hl5 rfl⟩
                    · rw [if_neg ha] at q
                      exact q.elim
      · have ei : i = items.length := by omega
        subst ei
        rw [List.drop_length] at q
        refine .inl ⟨y2 _ (Nat.le_refl _), ?_⟩
        exact q H2 (s1.trans st) l vacc hl0 hlv rl
    · rw [if_neg hn] at h
      exact h.elim
theorem dd_dc {kx vx tg iter : Expr} {ifs : List Expr} {scope : Scope} {own : List (Str × Nat)} {pos : Pos} {fi : Slots → M (List D)} {tgf : D → Slots → Option Slots} {t : Slots → M Bool} {fk f : Slots → M D} (hc : X.calm = true) (hN : X.N.Nodup) (hi : PI X tg iter (dI c W fi)) (ok : BlkOk X.N X.env.scope scope own)
    (hg : ∀ (l : Addr) (s : Shared) (H : Hp) (C : Addr) (cl : List (Str × Addr)) (fp : List Addr), PG (X.blk s H scope (compEnvC scope cl C X.env) fp) tg (dG { c with S := l :: c.S } (own.map (·.2)) tgf))
    (ht : ∀ (l : Addr) (s : Shared) (H : Hp) (C : Addr) (cl : List (Str × Addr)) (fp : List Addr), PTs (X.blk s H scope (compEnvC scope cl C X.env) fp) ifs (dT { c with S := l :: c.S } W0 t))
    (hk : ∀ (l : Addr) (s : Shared) (H : Hp) (C : Addr) (cl : List (Str × Addr)) (fp : List Addr), PE (X.blk s H scope (compEnvC scope cl C X.env) fp) kx (dE { c with S := l :: c.S } W0 fk))
    (he : ∀ (l : Addr) (s : Shared) (H : Hp) (C : Addr) (cl : List (Str × Addr)) (fp : List Addr), PE (X.blk s H scope (compEnvC scope cl C X.env) fp) vx (dE { c with S := l :: c.S } W0 f))
    (hs : ∀ x, foldedSetIterable iter X.env x = pure x := by intro _; rfl) : PE X (.DictComp kx vx [⟨tg, iter, ifs, 0⟩] scope pos) (dD c W (dcompE fi (own.map (·.2)) tgf t fk f)) :=
  pe_imp (pe_dc hc hN hi ok (fun s H C cl fp => pg_ex fun l => hg l s H C cl fp) (fun s H C cl fp => pts_ex fun l => ht l s H C cl fp) (fun s H C cl fp => pe_ex fun l => hk l s H C cl fp) (fun s H C cl fp => pe_ex fun l => he l s H C cl fp) hs) fun σ H Q h => dcomp_use h
/-- the dict is never changed any more -/
theorem pe_frz {t : TE} (h : PE X e t) : PE X e (fun σ H Q => t σ H fun v H1 => ∃ d kvs, v = .ref d ∧ H1 d = some (.dK kvs) ∧ ∀ ob, Q v (upd H1 d (.frz ob (.dK kvs)))) :=
  ⟨fun pins s σ H Q I hw => thn (h.run pins s σ H _ I hw) fun u s1 ⟨x, H1, I1, r, d, kvs, ev, hd, q⟩ => by
    obtain ⟨od, I2⟩ := I1.lock hd trivial
    exact ⟨x, _, I2, r, q od⟩⟩
def dcfE (f : Slots → M (List (Key × D))) : Slots → M D := fun ρ => bnd (f ρ) fun ds => ret (.dcf ds)
theorem de_dcf {f : Slots → M (List (Key × D))} (h : PE X e (dD c W f)) : PE X e (dE c W (dcfE f)) := by
  refine pe_imp (pe_frz h) fun σ H Q ⟨O, ρ, pt, r, q⟩ => ⟨O, ρ, pt, r, ?_⟩
  unfold dcfE DF.bnd at q
  cases e1 : f ρ pt with
  | exc _ _ _ => rw [e1] at q; exact q
  | stuck => rw [e1] at q; exact q
  | ok ds p1 =>
    rw [e1] at q
    intro H1 s1 l vs hl h1 rl
    refine ⟨l, vs, rfl, h1, fun ob => ?_⟩
    have nh : l ∉ hid c O := r.freshF hl
    have lp : c.p ≠ l := fun z => nh (z ▸ r.pm)
    have g : Gr (Hd (l :: hid c O) H1) (Hd (hid c O) (upd H1 l (.frz ob (.dK vs)))) := fun a o ea => by
      obtain ⟨h1, h2, h3⟩ := Hd.sees ea
      exact Hd.out (fun z => h1 (List.mem_cons_of_mem _ z)) (by rw [upd_ne (fun z : a = l => h1 (z ▸ List.mem_cons_self))]; exact h2) h3
    refine q _ ⟨fun a o n ea m => ?_, s1.pot.upd lp h1 rfl⟩ _ ?_
    · rw [upd_ne (Hd.ne ea m hl)]
      exact s1.keep a o n ea m
    · simp only [Cy.R, R]
      exact ⟨l, ob, vs, rfl, Hd.at_new nh, RK.gr g rl⟩
/-- {} -/
def nilD : Slots → M (List (Key × D)) := fun _ => ret []
theorem dd_nil {pos : Pos} : PE X (.Dict [] [] pos) (dD c W nilD) := pe_imp pe_dnewK fun σ H Q ⟨O, ρ, pt, r, q⟩ l hl => q _ (Stp.new r.pot hl) l [] (Hd.no hl) upd_same RK.nil
/-! ### a dict of one's own -/
def asgD (i : Nat) (f : Slots → M (List (Key × D))) : Slots → M Out := fun ρ => bnd (f ρ) fun ds => if i < ρ.length then ret (.nx (ρ.set i (some (.ownd ds)))) else fail
theorem ds_asgD_of {i : Nat} {st : Stmt} {f : Slots → M (List (Key × D))} (h : PS X st (tAsg (dD c W f) (gName i))) : PS X st (dS c W (asgD i f)) := by
  refine ps_imp h fun E σ H ⟨O, ρ, pt, r, h⟩ => ⟨O, ρ, pt, r, ?_⟩
  unfold asgD DF.bnd at h
  cases e : f ρ pt with
  | ok ds p1 =>
    rw [e] at h
    intro H1 s1 l vs hl h1 rl
    simp only at h
    by_cases hz : i < ρ.length
    · rw [if_pos hz] at h
      obtain ⟨rs, mv⟩ := r.putOwnD s1 i (by rw [← r.len]; exact hz) hl h1 rl
      exact h _ _ _ rs mv
    · rw [if_neg hz] at h
      exact h.elim
  | exc _ _ _ =>
    rw [e] at h
    exact fun cls dd H' st x => h cls dd σ H' (Fin.of_stp r st) x
  | stuck =>
    rw [e] at h
    exact h
/-- the own dict in slot i becomes a value -/
def frzD1 (i : Nat) (ρ : Slots) : Slots := match ρ[i]? with
  | some (some (.ownd ds)) => ρ.set i (some (.val (.dcf ds)))
  | _ => ρ
theorem ps_frz {st : Stmt} {t : TS} (h : PS X st t) : PS X st (fun E σ H => t E σ H ∨ ∃ d kvs, H d = some (.dK kvs) ∧ ∀ ob, t E σ (upd H d (.frz ob (.dK kvs)))) := ⟨fun pins s σ H E I hw => by
  rcases hw with hw | ⟨d, kvs, hd, hw⟩
  · exact h.run pins s σ H E I hw
  · obtain ⟨od, I1⟩ := I.lock hd trivial
    exact h.run pins s σ _ E I1 (hw od)⟩
theorem RS.lockD {i : Nat} {ds : List (Key × D)} (r : RS c O ρ σ H pt) (hi : ρ[i]? = some (some (.ownd ds))) : ∃ a vs, H a = some (.dK vs) ∧ ∀ ob, ∃ O', RS c O' (ρ.set i (some (.val (.dcf ds)))) σ (upd H a (.frz ob (.dK vs))) pt ∧ Mv c O H O' (upd H a (.frz ob (.dK vs))) := by
  obtain ⟨a, vs, m, ev, ha, rl⟩ := r.sl i _ hi
  refine ⟨a, vs, ha, fun ob => ⟨O.filter fun q => decide (q.1 ≠ i), ?_⟩⟩
  have r1 := r.drop i
  obtain ⟨n1, n2, n3, _⟩ := r.new _ m
  have low : a ∉ hid c (O.filter fun q => decide (q.1 ≠ i)) := fun h => by
    rcases List.mem_append.mp h with h | h
    · exact n3 h
    · obtain ⟨q, hq, e⟩ := List.mem_map.mp h
      obtain ⟨m2, n2⟩ := fil_mem hq
      have := same_of r.nd m m2 e
      exact n2 (by rw [this])
  have ah : a ∈ hid c O := List.mem_append_right _ (List.mem_map.mpr ⟨_, m, rfl⟩)
  have up : ∀ {b : Addr} {u : HO}, b ≠ a → H b = some u → upd H a (.frz ob (.dK vs)) b = some u := fun n e => by rw [upd_ne n]; exact e
  have mv : Mv c O H (O.filter fun q => decide (q.1 ≠ i)) (upd H a (.frz ob (.dK vs))) := fun b o h e n => ⟨fun z => h (fil_sub b z), up (fun z => h (z ▸ ah)) e⟩
  have g := mv.gr
  refine ⟨⟨r.pot.upd (Ne.symm n2) ha rfl, fun b o n h mm => ?_, r.hp, fun b hb => ?_, fun q hq => ?_, r1.nd, r1.nf, by rw [List.length_set]; exact r.len, fil_ow r.ow i _, fun j s h => ?_⟩, mv⟩
  · exact up (Hd.ne h mm n1) (r.ext b o n h mm)
  · obtain ⟨o, e, mo⟩ := r.hS b hb
    exact ⟨o, up (fun z => n3 (z ▸ hb)) e, mo⟩
  · obtain ⟨m2, nq⟩ := fil_mem hq
    obtain ⟨h1, h2, h3, o, h4, mo⟩ := r.new q m2
    exact ⟨h1, h2, h3, o, up (fun z => nq (by rw [same_of r.nd m m2 z])) h4, mo⟩
  · by_cases ej : j = i
    · subst ej
      rw [List.getElem?_set_self (List.getElem?_eq_some_iff.mp hi).1] at h
      cases h
      refine ⟨_, ev, ?_⟩
      simp only [Cy.R, R]
      exact ⟨a, ob, vs, rfl, Hd.at_new low, RK.gr g rl⟩
    · rw [List.getElem?_set_ne (Ne.symm ej)] at h
      have keep : ∀ {b : Addr}, (j, b) ∈ O → (j, b) ∈ O.filter fun q => decide (q.1 ≠ i) := fun m => List.mem_filter.mpr ⟨m, decide_eq_true ej⟩
      have st : ∀ {b : Addr} {o : HO}, (j, b) ∈ O → H b = some o → upd H a (.frz ob (.dK vs)) b = some o := fun {b o} mb e => up (fun z => ej (by
        have z2 : (j, b).2 = a := z
        have := same_of r.nd m mb z2
        injection this)) e
      have q := r.sl j s h
      cases s with
      | val d =>
        obtain ⟨v, e, r⟩ := q
        exact ⟨v, e, R.gr g r⟩
      | own ds =>
        obtain ⟨b, vs, m, e, q, r⟩ := q
        exact ⟨b, vs, keep m, e, st m q, RL.gr g r⟩
      | ownd ds =>
        obtain ⟨b, vs, m, e, q, r⟩ := q
        exact ⟨b, vs, keep m, e, st m q, RK.gr g r⟩
      | slf k fs =>
        obtain ⟨b, dx, vs, m, em, e, q, l, r⟩ := q
        exact ⟨b, dx, vs, keep m, em, e, st m q, l, RL.gr g r⟩
      | exv e fs => exact ⟨q.1, Xv.gr g q.2⟩
      | lam => exact ⟨q.1, g _ _ q.2⟩
      | raw v => exact q
theorem ds_frzD {st : Stmt} {g : Slots → M Out} (i : Nat) (h : PS X st (dS c W g)) : PS X st (dS c W fun ρ => g (frzD1 i ρ)) := by
  refine ps_imp (ps_frz h) fun E σ H ⟨O, ρ, pt, r, q⟩ => ?_
  have q : WO c W E O H (g (frzD1 i ρ) pt) := q
  unfold frzD1 at q
  split at q
  · rename_i ds e
    obtain ⟨a, vs, ha, h2⟩ := r.lockD e
    refine .inr ⟨a, vs, ha, fun ob => ?_⟩
    obtain ⟨O', rs, mv⟩ := h2 ob
    exact ⟨O', _, pt, rs, WO.from mv q⟩
  · exact .inl ⟨O, ρ, pt, r, q⟩
end
end DF

set_option Elab.async false
set_option linter.all false
set_option maxRecDepth 100000
set_option maxHeartbeats 4000000
/-! DGG: dicts: read, asked, gone through, grown. -/
namespace DF
open PySem PySem.Spec PyProof.Rows L2
section
variable {X : Cx} {c : Cy} {W : WX} {σ : L2.St} {H H1 H' : Hp} {O : List (Nat × Addr)} {ρ : Slots} {pt pt' : Pot} {e e2 a b tg : Expr} {p pos apos cpos : Pos} {k : Nat}
theorem keyOf_rb {d : D} {v : V} {q : Key} (e : keyOf d = some q) (r : RB c O H d v) : v = kV q := by
  cases d <;> simp only [keyOf] at e <;> first | cases e | skip
  · exact r.int
  · exact r.str
/-- a dict to be read -/
def dctOf : D → Option (List (Key × D))
  | .dcf kvs => some kvs
  | .dct kvs => some kvs
  | _ => none
theorem dctOf_rb {d : D} {v : V} {kvs : List (Key × D)} (e : dctOf d = some kvs) (r : RB c O H d v) : ∃ a es, v = .ref a ∧ Rd H a (.dK es) ∧ RK c.K c.T c.p (Hd (hid c O) H) kvs es := by
  cases d with
  | dct ds =>
    cases e
    obtain ⟨a, es, ev, ha, rk⟩ := r.dct
    exact ⟨a, es, ev, .inl ha, rk⟩
  | dcf ds =>
    cases e
    rcases r with r | ⟨_, _, _, _, e, _⟩ | ⟨_, _, _, _, e, _⟩
    · simp only [Cy.R, R] at r
      obtain ⟨a, ob, es, ev, ha, rk⟩ := r
      exact ⟨a, es, ev, .inr ⟨ob, Hd.le _ _ ha⟩, rk⟩
    · cases e
    · cases e
  | _ => cases e
/-! ### d[k] -/
def dgD (x y : D) : Option D := (dctOf x).bind fun kvs => (keyOf y).bind (valD kvs)
theorem de_dget {fa fb : Slots → M D} (hr : Room k X.A) (ha : PE X a (dB c W fa)) (hb : PE X b (dB c W fb)) (hs : NoSl b := by intro _ _; rfl) : PE X (.Subscript a b pos) (dE c W (binE (pu dgD) fa fb)) := by
  refine pe_imp (pe_dget (by have := hr.units; omega) ha hb hs) fun σ H Q ⟨O, ρ, pt, r, q⟩ => ⟨O, ρ, pt, r, (Wg.bnd q).imp fun x p1 H1 _ s1 q v rv => ?_⟩
  have r1 := r.stp s1
  refine ⟨O, ρ, p1, r1, (Wg.bnd q).imp fun y p2 H2 _ s2 q w rw => ?_⟩
  have r2 := r1.stp s2
  obtain ⟨z, e, q⟩ := Wg.opt q r2.pot
  have rv := rv.stp r1 s2
  unfold dgD at e
  cases e1 : dctOf x with
  | none => rw [e1] at e; cases e
  | some kvs =>
    cases e2 : keyOf y with
    | none => rw [e1, e2] at e; cases e
    | some kk =>
      rw [e1, e2] at e
      obtain ⟨ad, es, rfl, hd, rk⟩ := dctOf_rb e1 rv
      have ew := keyOf_rb e2 rw
      subst ew
      rcases RK.val kk rk with ⟨h1, h2⟩ | ⟨d, u, h1, h2, h3⟩
      · simp only [Option.bind_some] at e
        rw [h1] at e; cases e
      · simp only [Option.bind_some] at e
        rw [h1] at e
        cases e
        exact ⟨ad, u, rfl, .inl ⟨es, kk, hd, rfl, h2.symm⟩, q u h3⟩
/-- one of two readings -/
theorem de_orB {g h : D → D → M D} {fa fb : Slots → M D} (h1 : PE X e (dE c W (binE g fa fb))) (h2 : PE X e (dE c W (binE h fa fb))) : PE X e (dE c W (binE (orM g h) fa fb)) := by
  refine pe_imp (pe_or2 h1 h2) fun σ H Q ⟨O, ρ, pt, r, q⟩ => ?_
  unfold binE DF.bnd at q
  cases e1 : fa ρ pt with
  | exc _ _ _ => rw [e1] at q; exact .inl ⟨O, ρ, pt, r, by unfold binE DF.bnd; rw [e1]; exact q⟩
  | stuck => rw [e1] at q; exact q.elim
  | ok x p1 =>
    rw [e1] at q
    simp only at q
    cases e2 : fb ρ p1 with
    | exc _ _ _ => rw [e2] at q; exact .inl ⟨O, ρ, pt, r, by unfold binE DF.bnd; rw [e1]; simp only; rw [e2]; exact q⟩
    | stuck => rw [e2] at q; exact q.elim
    | ok y p2 =>
      rw [e2] at q
      simp only [orM] at q
      cases e3 : g x y p2 with
      | stuck => rw [e3] at q; exact .inr ⟨O, ρ, pt, r, by unfold binE DF.bnd; rw [e1]; simp only; rw [e2]; exact q⟩
      | ok _ _ => rw [e3] at q; exact .inl ⟨O, ρ, pt, r, by unfold binE DF.bnd; rw [e1]; simp only; rw [e2]; simp only; rw [e3]; exact q⟩
      | exc _ _ _ => rw [e3] at q; exact .inl ⟨O, ρ, pt, r, by unfold binE DF.bnd; rw [e1]; simp only; rw [e2]; simp only; rw [e3]; exact q⟩
def ixU : D → D → M D := orM ixM (pu dgD)
theorem de_ixU {fa fb : Slots → M D} (hr : Room k X.A) (ha : PE X a (dB c W fa)) (hb : PE X b (dB c W fb)) (hs : PlainIx b := by intro _ _; rfl) (hs2 : NoSl b := by intro _ _; rfl) (hK : c.K = X.K := by rfl) : PE X (.Subscript a b pos) (dE c W (binE ixU fa fb)) := de_orB (de_ix ha hb hs hK) (de_dget hr ha hb hs2)
/-! ### k in d -/
def rDIn (neg : Bool) : R2 := fun x y H Q => ∃ a o, y = .ref a ∧ DGet H a x o ∧ Q (.bl (if neg then !o.isSome else o.isSome)) H
theorem op_din (hu : X.A.units + 1 < cLine) : OpR X (compareOp .In) (rDIn false) := by
  intro pins s σ H x y v u Q I rx ry ⟨ad, o, ey, g, q⟩
  subst ey
  obtain rfl : u = Value.ref ad := ry
  exact d_in hu I g rx fun s' I' => ⟨.bl o.isSome, H, I', rfl, q⟩
theorem op_dnin (hu : X.A.units + 1 < cLine) : OpR X (compareOp .NotIn) (rDIn true) := by
  intro pins s σ H x y v u Q I rx ry ⟨ad, o, ey, g, q⟩
  subst ey
  obtain rfl : u = Value.ref ad := ry
  exact d_notIn hu I g rx fun s' I' => ⟨.bl (!o.isSome), H, I', rfl, q⟩
def dinB (x y : D) : Option Bool := (dctOf y).bind fun kvs => (keyOf x).map fun k => (valD kvs k).isSome
def dinD (x y : D) : Option D := (dinB x y).map .bl
def dninD (x y : D) : Option D := (dinB x y).map fun b => .bl (!b)
theorem din_ok {neg : Bool} {x y : D} {v w : V} {z : Bool} {Q : VK} (rx : RB c O H x v) (ry : RB c O H y w) (e : dinB x y = some z) (q : Q (.bl (if neg then !z else z)) H) : rDIn neg v w H Q := by
  unfold dinB at e
  cases e1 : dctOf y with
  | none => rw [e1] at e; cases e
  | some kvs =>
    cases e2 : keyOf x with
    | none => rw [e1, e2] at e; cases e
    | some kk =>
      rw [e1, e2] at e
      cases e
      obtain ⟨ad, es, rfl, hd, rk⟩ := dctOf_rb e1 ry
      have ew := keyOf_rb e2 rx
      subst ew
      refine ⟨ad, _, rfl, .inl ⟨es, kk, hd, rfl, rfl⟩, ?_⟩
      dsimp only at q
      rcases RK.val kk rk with ⟨h1, h2⟩ | ⟨d, u, h1, h2, h3⟩
      · rw [h2]; rw [h1] at q; exact q
      · rw [h2]; rw [h1] at q; exact q
theorem od_din (hr : Room k X.A) : OpD X c W (compareOp .In) (pu dinD) := opd_pu (op_din (by have := hr.units; omega)) fun O H x y z v w Q rx ry e q => by
  unfold dinD at e
  cases e1 : dinB x y with
  | none => rw [e1] at e; cases e
  | some b => rw [e1] at e; cases e; exact din_ok (neg := false) rx ry e1 (q _ (by simp [Cy.R, R]))
theorem od_dnin (hr : Room k X.A) : OpD X c W (compareOp .NotIn) (pu dninD) := opd_pu (op_dnin (by have := hr.units; omega)) fun O H x y z v w Q rx ry e q => by
  unfold dninD at e
  cases e1 : dinB x y with
  | none => rw [e1] at e; cases e
  | some b => rw [e1] at e; cases e; exact din_ok (neg := true) rx ry e1 (q _ (by simp [Cy.R, R]))
def inU : D → D → M D := orM (pu inD) (pu dinD)
def ninU : D → D → M D := orM (pu ninD) (pu dninD)
theorem od_inU (hr : Room k X.A) (hK : c.K = X.K := by rfl) : OpD X c W (compareOp .In) inU := (od_in hK).or (od_din hr)
theorem od_ninU (hr : Room k X.A) (hK : c.K = X.K := by rfl) : OpD X c W (compareOp .NotIn) ninU := (od_nin hK).or (od_dnin hr)
/-! ### d == {} -/
def rEq0 : R2 := fun x y H Q => ∃ a b kvs, x = .ref a ∧ y = .ref b ∧ Rd H a (.dK kvs) ∧ Rd H b (.dK []) ∧ Q (.bl kvs.isEmpty) H
theorem op_eq0 (hu : X.A.units < cLine) : OpR X (compareOp .Eq) rEq0 := by
  intro pins s σ H x y v u Q I rx ry ⟨ad, bd, kvs, ex, ey, ha, hb, q⟩
  subst ex ey
  obtain rfl : u = Value.ref bd := ry
  obtain rfl : v = Value.ref ad := rx
  obtain ⟨_, n1, vs, rel, da⟩ := dk_rd I.hok ha
  obtain ⟨_, n2, ws, rel2, db⟩ := dk_rd I.hok hb
  cases rel2
  have el : vs.length = kvs.length := rel.length.symm
  refine PySem.W.rcP_dicts (r := true) n1 n2 da db hu (fun e => ?_) X.xe (EP X pins σ Q) ⟨.bl kvs.isEmpty, H, I, ?_, q⟩
  · have : vs = [] := List.length_eq_zero_iff.mp e
    rw [this]
    exact .nil
  · show Value.bool _ = Value.bool _
    congr 1
    cases kvs with
    | nil =>
      cases rel
      rfl
    | cons a l =>
      rw [el]
      rfl
def eq0D (x y : D) : Option D := (dctOf x).bind fun kvs => (dctOf y).bind fun l => if l.isEmpty then some (.bl kvs.isEmpty) else none
theorem od_eq0 (hr : Room k X.A) : OpD X c W (compareOp .Eq) (pu eq0D) := opd_pu (op_eq0 (by have := hr.units; omega)) fun O H x y z v w Q rx ry e q => by
  unfold eq0D at e
  cases e1 : dctOf x with
  | none => rw [e1] at e; cases e
  | some kvs =>
    cases e2 : dctOf y with
    | none => rw [e1, e2] at e; cases e
    | some l =>
      rw [e1, e2] at e
      simp only [Option.bind_some] at e
      split at e
      · rename_i hl
        cases e
        obtain ⟨ad, es, rfl, hd, rk⟩ := dctOf_rb e1 rx
        obtain ⟨bd, fs, rfl, hd2, rk2⟩ := dctOf_rb e2 ry
        have l0 : l = [] := by simpa using hl
        subst l0
        simp only [RK] at rk2
        subst rk2
        refine ⟨ad, bd, es, rfl, rfl, hd, hd2, ?_⟩
        have : es.isEmpty = kvs.isEmpty := by
          have := RK.len rk
          cases kvs <;> cases es <;> simp at this ⊢
        rw [this]
        exact q _ (by simp [Cy.R, R])
      · cases e
/-! ### sorted(d) -/
def strKeys : List (Key × D) → Option (List Str)
  | [] => some []
  | (.inr x, _) :: r => (strKeys r).map (x :: ·)
  | _ => none
theorem strKeys_ok : ∀ {kvs : List (Key × D)} {ks : List Str}, strKeys kvs = some ks → kvs.map (·.1) = ks.map Sum.inr
  | [], _, h => by cases h; rfl
  | (.inr x, d) :: r, ks, h => by
    simp only [strKeys] at h
    cases e : strKeys r with
    | none => rw [e] at h; cases h
    | some l => rw [e] at h; cases h; simp [strKeys_ok e]
  | (.inl _, _) :: _, _, h => by simp [strKeys] at h
def sortS (ks : List Str) : Option (List Str) := if ks.Nodup ∧ ks.length < 64 then some ((srtK (ks.map fun x => (x, ()))).map (·.1)) else none
theorem rising_lt : ∀ {p : Str} {l : List Str}, risingS p l = true → ∀ y ∈ l, ¬ ltC y p
  | p, x :: r, h, y, hy => by
    have h : (!ltCps x.cps.toList p.cps.toList && risingS x r) = true := h
    rw [Bool.and_eq_true] at h
    have h1 : ¬ ltC x p := fun z => by
      have := h.1
      rw [ltCps_eq, decide_eq_true z] at this
      cases this
    rcases List.mem_cons.mp hy with rfl | hy
    · exact h1
    · exact ltC_tr h1 (rising_lt h.2 y hy)
theorem sorted_pw : ∀ {l : List Str}, sortedS l = true → l.Pairwise fun x y => ¬ ltC y x
  | [], _ => List.Pairwise.nil
  | x :: r, h => by
    refine List.pairwise_cons.mpr ⟨fun y hy => rising_lt h y hy, ?_⟩
    cases r with
    | nil => exact List.Pairwise.nil
    | cons z r =>
      have h : (!ltCps z.cps.toList x.cps.toList && risingS z r) = true := h
      rw [Bool.and_eq_true] at h
      exact sorted_pw (l := z :: r) h.2
theorem sortS_ok {ks ys zs : List Str} (e : sortS ks = some zs) (p : ys.Perm ks) (h : sortedS ys = true) : ys = zs := by
  unfold sortS at e
  split at e
  · rename_i hn
    cases e
    have p1 : (ys.map fun x => (x, ())).Perm (srtK (ks.map fun x => (x, ()))) := (p.map _).trans (srtK_perm _).symm
    have e1 := srt_one p1 (List.pairwise_map.mpr (sorted_pw h)) (srtK_srt _) (by
      rw [List.map_map]
      have : (ys.map ((fun x : Str × Unit => x.1) ∘ fun x => (x, ()))) = ys := List.map_id' ys
      rw [this]
      exact p.nodup_iff.mpr hn.1)
    have e2 := congrArg (List.map (·.1)) e1
    rw [List.map_map] at e2
    rw [← e2]
    exact (List.map_id' ys).symm
  · cases e
def sortDct : List D → M (List D)
  | [d] => opt ((dctOf d).bind fun kvs => (strKeys kvs).bind fun ks => (sortS ks).map fun l => l.map .str)
  | _ => fail
theorem strs_rl2 {K : PySem.W.Frag} {T : Tb} {p : Addr} {H : Hp} : ∀ {l : List Str}, RL K T p H (l.map .str) (l.map V.str)
  | [] => RL.nil
  | x :: l => RL.cons (by simp [R]) strs_rl2
theorem cn_sortD (hcalm : X.calm = true) : CallN X c W (.builtin "sorted") sortDct := ⟨_, calls_of (call_sortedD hcalm), fun σ O ρ pt p1 H H1 Q xs vs rs s1 rx q => by
  match xs, rx, q with
  | [d], rx, q =>
    simp only [sortDct] at q
    obtain ⟨v, rfl, h⟩ := rx.one
    cases e1 : dctOf d with
    | none => rw [e1] at q; exact q.elim
    | some kvs =>
      cases e2 : strKeys kvs with
      | none => rw [e1] at q; simp only [Option.bind_some] at q; rw [e2] at q; exact q.elim
      | some ks =>
        cases e3 : sortS ks with
        | none => rw [e1] at q; simp only [Option.bind_some] at q; rw [e2] at q; simp only [Option.bind_some] at q; rw [e3] at q; exact q.elim
        | some zs =>
          rw [e1] at q; simp only [Option.bind_some] at q; rw [e2] at q; simp only [Option.bind_some] at q; rw [e3] at q
          obtain ⟨ad, es, rfl, hd, rk⟩ := dctOf_rb e1 h
          have hl : ks.length < 64 := by
            unfold sortS at e3
            split at e3
            · rename_i hn; exact hn.2
            · cases e3
          refine ⟨ad, es, ks, rfl, hd, by rw [← RK.keys rk]; exact strKeys_ok e2, hl, fun ys pp hp hs hn => ?_⟩
          have := sortS_ok e3 hp hs
          subst this
          exact new_lst rs s1 strs_rl2 hn q
  | [], _, q => exact q.elim
  | _ :: _ :: _, _, q => exact q.elim⟩
/-! ### d.items() -/
def keyD : Key → D
  | .inl i => .int i
  | .inr x => .str x
def itemsD (f : Slots → M D) : Slots → M (List D) := fun ρ => bnd (f ρ) fun d => match d with
  | .dcf kvs => ret (kvs.map fun kv => .tup [keyD kv.1, kv.2])
  | _ => fail
theorem RK.at : ∀ {K : PySem.W.Frag} {T : Tb} {p : Addr} {H : Hp} {ds : List (Key × D)} {vs : List (Key × V)} {i : Nat} {q : Key × V} {z : Key × D}, RK K T p H ds vs → vs[i]? = some q → ds[i]? = some z → z.1 = q.1 ∧ R K T p H z.2 q.2
  | _, _, _, _, [], _, _, _, _, h, _, e => by simp at e
  | _, _, _, _, (k, d) :: ds, _, i, q, z, h, e1, e2 => by
    simp only [RK] at h
    obtain ⟨v, ws, rfl, r, h⟩ := h
    cases i with
    | zero => simp at e1 e2; subst e1 e2; exact ⟨rfl, r⟩
    | succ i => simp at e1 e2; exact RK.at h e1 e2
theorem keyD_r {K : PySem.W.Frag} {T : Tb} {p : Addr} {H : Hp} (k : Key) : R K T p H (keyD k) (kV k) := by
  cases k <;> simp [keyD, R, kV]
theorem yl_items {S : List Addr} {d : Addr} {ob : Obj} {ds : List (Key × D)} {vs : List (Key × V)} (h : Hd S H1 d = some (.frz ob (.dK vs))) (rk : RK c.K c.T c.p (Hd S H1) ds vs) : Yl c S (Iti d ob vs) (ds.map fun kv => .tup [keyD kv.1, kv.2]) H1 := fun H k => by
  obtain ⟨n1, n2, n3⟩ := Hd.sees h
  have q : H d = some (.frz ob (.dK vs)) := k d _ n1 n2 n3
  refine ⟨fun i t e => ?_, fun i hi => ⟨q, by rw [← RK.len rk]; simpa using hi⟩⟩
  rw [List.getElem?_map] at e
  cases e1 : ds[i]? with
  | none => rw [e1] at e; cases e
  | some z =>
    rw [e1] at e
    cases e
    have hi : i < vs.length := by
      rw [← RK.len rk]
      exact (List.getElem?_eq_some_iff.mp e1).1
    refine ⟨⟨q, hi⟩, fun x H' y => ?_⟩
    obtain ⟨T, kk, v, ev, rfl, hT, rfl⟩ := y
    obtain ⟨h1, h2⟩ := RK.at rk ev e1
    refine Yg.pair hT ?_ h2
    rw [h1]
    exact keyD_r kk
theorem di_items {f : Slots → M D} {elts : List Expr} {kk : Nat} {tpos : Pos} (h : PE X e (dE c W f)) (hb : attributeBase e "items" X.env (eval e X.env) = eval e X.env := by rfl) (hl : (apos.endLine == cpos.line) = true := by rfl) : PI X (.Tuple elts kk tpos) (.Call (.Attribute e "items" apos) [] [] cpos) (dI c W (itemsD f)) := by
  refine pi_imp (pi_items h (hbase := hb) (hline := hl)) fun σ H Rk ⟨O, ρ, pt, r, q⟩ => ⟨O, ρ, pt, r, (Wg.bnd q).imp fun d p1 H1 _ s1 q v rv => ?_⟩
  cases d with
  | dcf kvs =>
    simp only [Cy.R, R] at rv
    obtain ⟨ad, ob, es, rfl, ha, rk⟩ := rv
    exact ⟨ad, ob, es, rfl, Hd.le _ _ ha, Wg.here q s1.pot _ (yl_items ha rk)⟩
  | _ => exact q.elim
end
end DF

set_option Elab.async false
set_option linter.all false
set_option maxRecDepth 100000
set_option maxHeartbeats 4000000
/-! DGH: while, update, pop, sum, reversed. -/
namespace DF
open PySem PySem.Spec PyProof.Rows L2
section
variable {X : Cx} {c : Cy} {W : WX} {σ : L2.St} {H H1 H' : Hp} {O : List (Nat × Addr)} {ρ : Slots} {pt pt' : Pot} {e e2 a b tg : Expr} {p q0 pos apos cpos bpos dpos : Pos} {k : Nat}
/-! ### while -/
def whileL (t : Slots → M Bool) (g : Slots → M Out) : Nat → Slots → M Out
  | 0, _ => fail
  | n + 1, ρ => bnd (t ρ) fun b => if b then bnd (g ρ) fun o => match o with
    | .nx ρ2 => whileL t g n ρ2
    | .ct ρ2 => whileL t g n ρ2
    | .bk ρ2 => ret (.nx ρ2)
    | .rt d => ret (.rt d) else ret (.nx ρ)
theorem ds_while {test : Expr} {body : List Stmt} {t : Slots → M Bool} {g : Slots → M Out} (n : Nat) (hp : PassesOwn (model X.prog X.w) X.A X.env X.xe) (ht : PT X test (dT c W t)) (hb : PSs X body (dS c W g)) : PS X (.While test body [] pos) (dS c W (whileL t g n)) := by
  refine ps_imp (ps_while hp ht hb) fun E σ H ⟨O, ρ, pt, r, h⟩ => ?_
  refine ⟨fun m σ' H' => ∃ O' ρ' pt', RS c O' ρ' σ' H' pt' ∧ WO c W E O' H' (whileL t g m ρ' pt'), ⟨n, O, ρ, pt, r, h⟩, ?_⟩
  rintro m σ' H' ⟨O', ρ', pt', rs, q⟩
  cases m with
  | zero => exact q.elim
  | succ m =>
    simp only [whileL] at q
    refine ⟨O', ρ', pt', rs, (WO.bnd rs q).imp fun bb p1 H1 _ s1 q => ?_⟩
    have r1 := rs.stp s1
    cases bb with
    | false => exact q O' σ' H1 r1 Mv.refl
    | true =>
      dsimp only
      rw [if_pos rfl]
      refine ⟨fun σ2 H2 => ∃ O2 ρ2 p2, RS c O2 ρ2 σ2 H2 p2 ∧ WO c W E O2 H2 (whileL t g m ρ2 p2), fun σ2 H2 z => ⟨m, Nat.lt_succ_self _, z⟩, O', ρ', p1, r1, ?_⟩
      simp only [if_true] at q
      unfold DF.bnd at q
      cases eg : g ρ' p1 with
      | ok o p2 =>
        rw [eg] at q
        cases o with
        | nx ρ2 => exact fun O2 σ2 H3 a1 a2 => ⟨O2, ρ2, p2, a1, WO.from a2 q⟩
        | ct ρ2 => exact fun O2 σ2 H3 a1 a2 => ⟨O2, ρ2, p2, a1, WO.from a2 q⟩
        | bk ρ2 => exact fun O2 σ2 H3 a1 a2 => q O2 σ2 H3 a1 a2
        | rt d => exact q
      | exc _ _ _ => rw [eg] at q; exact q
      | stuck => rw [eg] at q; exact q
/-! ### dict(pairs) -/
def pairsD : List D → Option (List (Key × D))
  | [] => some []
  | .tup [k, d] :: r => (keyOf k).bind fun k => (pairsD r).map fun l => (k, d) :: l
  | _ => none
def mergeD (kvs more : List (Key × D)) : List (Key × D) := more.foldl (fun acc kv => putD acc kv.1 kv.2) kvs
def mkDE (f : Slots → M D) : Slots → M (List (Key × D)) := fun ρ => bnd (f ρ) fun d => match d with
  | .lst ds => opt ((pairsD ds).map (mergeD []))
  | _ => fail
theorem RK.merge {K : PySem.W.Frag} {T : Tb} {p : Addr} {H : Hp} : ∀ {more : List (Key × D)} {rs : List (Key × V)} {kvs : List (Key × D)} {vs : List (Key × V)}, RK K T p H more rs → RK K T p H kvs vs → RK K T p H (mergeD kvs more) (mergeK vs rs)
  | [], _, _, _, h, h' => by simp only [RK] at h; subst h; exact h'
  | (k, d) :: more, _, _, _, h, h' => by
    simp only [RK] at h
    obtain ⟨v, ws, rfl, r, h⟩ := h
    show RK K T p H (mergeD (putD _ k d) more) (mergeK (putK _ k v) ws)
    exact RK.merge h (RK.put h' k r)
theorem pairsD_ok {K : PySem.W.Frag} {T : Tb} {p : Addr} {H : Hp} : ∀ {ds : List D} {vs : List V} {kvs : List (Key × D)}, RL K T p H ds vs → pairsD ds = some kvs → ∃ (ps : List Addr) (es : List (Key × V)), vs = ps.map V.ref ∧ Paired (fun p kv => SqT K H p [kV kv.1, kv.2]) ps es ∧ RK K T p H kvs es
  | [], _, _, h, e => by
    simp only [RL] at h
    subst h
    cases e
    exact ⟨[], [], rfl, .nil, RK.nil⟩
  | .tup [k, d] :: ds, _, kvs, h, e => by
    simp only [RL] at h
    obtain ⟨v, ws, rfl, rv, h⟩ := h
    simp only [pairsD] at e
    cases ek : keyOf k with
    | none => rw [ek] at e; cases e
    | some kk =>
      cases er : pairsD ds with
      | none => rw [ek, er] at e; cases e
      | some l =>
        rw [ek, er] at e
        cases e
        obtain ⟨ps, es, rfl, hp, rk⟩ := pairsD_ok h er
        simp only [R, RL] at rv
        obtain ⟨ad, _, rfl, hs, v1, _, rfl, r1, v2, _, rfl, r2, rfl⟩ := rv
        have ev := keyOf_ok ek r1
        subst ev
        exact ⟨ad :: ps, (kk, v2) :: es, rfl, .cons hs hp, RK.cons r2 rk⟩
  | .tup [] :: _, _, _, _, e | .tup [_] :: _, _, _, _, e | .tup (_ :: _ :: _ :: _) :: _, _, _, _, e | .non :: _, _, _, _, e | .bl _ :: _, _, _, _, e | .int _ :: _, _, _, _, e | .str _ :: _, _, _, _, e | .lst _ :: _, _, _, _, e | .dct _ :: _, _, _, _, e | .dcf _ :: _, _, _, _, e | .obj _ _ :: _, _, _, _, e | .ex _ _ :: _, _, _, _, e | .pot :: _, _, _, _, e | .fn _ :: _, _, _, _, e | .cls _ :: _, _, _, _, e | .ty _ :: _, _, _, _, e => by simp [pairsD] at e
theorem paired_imp {α β : Type} {F G : α → β → Prop} (i : ∀ a b, F a b → G a b) : ∀ {l : List α} {m : List β}, Paired F l m → Paired G l m
  | _, _, .nil => .nil
  | _, _, .cons h t => .cons (i _ _ h) (paired_imp i t)
theorem dd_dict {f : Slots → M D} (hc : X.calm = true) (h : PE X e (dE c W f)) (hm : X.mg "dict" = none) (hg : Gl X "dict" := by rfl) (hs : starEach [e] X.env = (false, eval e X.env) :: starEach [] X.env := by rfl) (hK : c.K = X.K := by rfl) : PE X (.Call (.Name "dict" p) [e] [] pos) (dD c W (mkDE f)) := by
  refine pe_imp (pe_callTy (call_dictP hc) hg hm (by decide +kernel) (pa_cons h pa_nil hs) (he := hs)) fun σ H Q ⟨O, ρ, pt, r, q⟩ => ⟨O, ρ, pt, r, (Wg.bnd q).imp fun d p1 H1 _ s1 q v rv => ?_⟩
  cases d with
  | lst ds =>
    simp only [Cy.R, R] at rv
    obtain ⟨ad, vs, rfl, ha, rl⟩ := rv
    cases ep : pairsD ds with
    | none => simp only [ep] at q; exact q.elim
    | some kvs =>
      simp only [ep] at q
      obtain ⟨ps, es, rfl, hp, rk⟩ := pairsD_ok rl ep
      refine ⟨ad, ps, es, rfl, .inl (.inl (Hd.le _ _ ha)), paired_imp (fun _ _ z => hK ▸ Hd.le.sqt z) hp, fun l hl => ?_⟩
      have h0 : Hd [] H l = none := by
        cases e : Hd [] H l with
        | none => rfl
        | some o =>
          obtain ⟨_, e, n⟩ := Hd.sees e
          by_cases el : l = c.p
          · rw [el, s1.pot.at_] at hl; cases hl
          · rw [s1.keep l o el e n] at hl; cases hl
      refine q _ (Stp.new s1.pot hl) l _ h0 upd_same (RK.gr (fun b o eb => ?_) (RK.merge rk RK.nil))
      obtain ⟨b1, b2, b3⟩ := Hd.sees eb
      have nb : b ≠ l := ne_of_none b2 hl
      exact Hd.out (fun z => (List.mem_cons.mp z).elim nb b1) (by rw [upd_ne nb]; exact b2) b3
  | _ => exact q.elim
/-! ### x.update(..) of a dict of one's own -/
def rUpd : V → List V → Hp → VK → Prop := fun x xs H Q => ∃ a b kvs more, x = .ref a ∧ xs = [.ref b] ∧ a ≠ b ∧ H a = some (.dK kvs) ∧ H b = some (.dK more) ∧ kvs.length + more.length ≤ sizeLine ∧ Q .non (upd H a (.dK (mergeK kvs more)))
theorem mt_upd : MtR X "dict.update" rUpd := by
  intro pins s σ H x xs v us Q I rx rxs ⟨ad, bd, kvs, more, ex, exs, ne, ha, hb, hz, q⟩
  subst ex exs
  obtain rfl : v = Value.ref ad := rx
  obtain ⟨u, rfl, ru⟩ := vals1 rxs
  obtain rfl : u = Value.ref bd := ru
  obtain ⟨z1, n1, vs, rel, da⟩ := dk_of I.hok ha
  obtain ⟨z2, n2, ws, rel2, db⟩ := dk_of I.hok hb
  refine call_meetsIn PySem.F.slot_dict_update da.typeIs PySem.F.entry_dict_update (PySem.F.args_dict_update_2 _ _) (meets_dict_update (mixKind X.prog X.w) ad bd ne n2) ⟨vs, ws, da, db, by rw [← rel.length, ← rel2.length]; exact hz, fun h' da' db' hs => ?_⟩
  have he : ∃ q, h'.get? ad = some q := let ⟨q, _, _, hq, _⟩ := da'; ⟨q, hq⟩
  refine ⟨.non, _, d_write (t' := s.toks) I (by rw [ha]; exact True.intro) hs he (dk_new ?_ n1 (KV.merge rel2 rel) da'), rfl, q⟩
  exact Nat.le_trans (length_mergeK more kvs) hz
def owndOf : Option (Option SV) → Option (List (Key × D))
  | some (some (.ownd kvs)) => some kvs
  | _ => none
theorem owndOf_eq {x : Option (Option SV)} {kvs : List (Key × D)} (h : owndOf x = some kvs) : x = some (some (.ownd kvs)) := by
  unfold owndOf at h
  split at h
  · cases h; rfl
  · cases h
def updS (i : Nat) (f : Slots → M (List (Key × D))) : Slots → M Out := fun ρ => bnd (opt (owndOf ρ[i]?)) fun kvs => bnd (f ρ) fun more => if kvs.length + more.length ≤ 100000 then ret (.nx (ρ.set i (some (.ownd (mergeD kvs more))))) else fail
theorem ds_upd {i : Nat} {x : Str} {f : Slots → M (List (Key × D))} {spos : Pos} (h : PE X e (dD c W f)) (hN : X.N[i]? = some x := by rfl) (hv : Vis X.env.scope x := by first | exact Or.inl rfl | exact Or.inr (Or.inl rfl)) (hd : (x == ("__debug__" : Str)) = false := by decide) (hcd : (x == ("__classdict__" : Str)) = false := by decide)
    (hst : starEach [e] X.env = (false, eval e X.env) :: starEach [] X.env := by rfl) (hline : (apos.endLine == cpos.line) = true := by rfl) (hs : swapsWith (.Call (.Attribute (.Name x p) "update" apos) [e] [] cpos) none spos.line X.env = pure false := by rfl)
    (hfew : ((backTo cpos (starEach [e] X.env)).all (fun x => !x.1) && (backToKw cpos (keywordEach [] X.env)).all (fun x => x.1.isSome) && decide ([e].length + ([] : List Keyword).length + (if ([] : List Keyword).isEmpty then 0 else 1) < 30)) = true := by rfl)
    (hbase : attributeBase (.Name x p) "update" X.env (eval (.Name x p) X.env) = eval (.Name x p) X.env := by rfl) (hplain : (backTo cpos (starEach [] X.env)).any (·.1) = false := by rfl) :
    PS X (.Expr (.Call (.Attribute (.Name x p) "update" apos) [e] [] cpos) spos) (dS c W (updS i f)) := by
  refine ps_imp (ps_expr (pe_bm PySem.F.plainAttrs_dict PySem.F.slot_dict_update PySem.F.type_dict_update mt_upd (pe_var (i := i) hN hv hd hcd) (pa_cons h pa_nil hst) hbase hfew hline hst hplain) hs) fun E σ H ⟨O, ρ, pt, r, h⟩ => ?_
  obtain ⟨kvs, eo, h⟩ := Wg.opt (WO.bnd r h) r.pot
  replace eo := owndOf_eq eo
  obtain ⟨ad, vs, m, ev, ha, rl⟩ := r.sl i _ eo
  refine ⟨_, ev, .inr (.inr (.inl ⟨rfl, .inl ⟨vs, ha⟩⟩)), O, ρ, pt, r, ?_⟩
  unfold DF.bnd at h
  cases ef : f ρ pt with
  | stuck => rw [ef] at h; exact h
  | exc _ _ _ => rw [ef] at h; exact fun cls dd H' st x => h cls dd σ H' (Fin.of_stp r st) x
  | ok more p1 =>
    rw [ef] at h
    intro H1 s1 l ws hl h1 rk
    simp only at h
    split at h
    · rename_i hz
      have r1 := r.stp s1
      obtain ⟨a', vs1, m', ev', ha1, rl1⟩ := r1.sl i _ eo
      rw [ev] at ev'
      cases ev'
      have nl : ad ≠ l := fun z => (r.freshF hl) (z ▸ List.mem_append_right _ (List.mem_map.mpr ⟨_, m, rfl⟩))
      have rk1 : RK c.K c.T c.p (Hd (hid c O) H1) more ws := RK.gr (Hd.sub fun a h => List.mem_cons_of_mem _ h) rk
      have hi : i < ρ.length := (List.getElem?_eq_some_iff.mp eo).1
      obtain ⟨rs, mv⟩ := r1.mut (s' := .ownd (mergeD kvs more)) m' (o := .dK (mergeK vs1 ws)) (fun gr => ⟨ad, _, m', ev, upd_same, RK.merge (RK.gr gr rk1) (RK.gr gr rl1)⟩) hi
      refine ⟨ad, l, vs1, ws, rfl, rfl, nl, ha1, h1, ?_, h _ _ _ rs ((s1.mv r.hp).trans mv)⟩
      have l1 := RK.len rl1
      have l2 := RK.len rk1
      exact Nat.le_trans (by omega) (show 100000 ≤ sizeLine by decide)
    · exact h.elim
end
end DF

set_option Elab.async false
set_option linter.all false
set_option maxRecDepth 100000
set_option maxHeartbeats 4000000
/-! DGI: enumerate of a tuple. -/
namespace SK
open PySem PySem.Spec PyProof.Rows L2
set_option maxHeartbeats 1000000 in
theorem meets_enum1 {v : Value} {o : Obj} {G : Heap → Prop} (B : Begins v o G) : Meets (Builtin.«enumerate.__new__» ⟨[.type "enumerate", v], []⟩) (fun _ R s => G s.heap ∧
      R (.ok (.ret (.ref (s.heap.push o).objs.size))) { s with heap := (s.heap.push o).push { cls := .type "enumerate", data := .fields #[.none, .bool false, .ref s.heap.objs.size, rawInt 0, .none, .none] } }) :=
  .of_wp fun prog w A R s h => by
    obtain ⟨hp, g, d, tk, os⟩ := s
    obtain ⟨h1, h⟩ := h
    have hsub := sub_enumerate
    have it : ∀ {A' : Around} {E : Value → Shared → Prop} {Q : Value → Shared → Prop}, Q (.ref hp.objs.size) ⟨hp.push o, g, d, tk, os⟩ → wpAny (model prog w) A' (pyIter v) Q E ⟨hp, g, d, tk, os⟩ := fun q => B.iter prog w _ _ ⟨hp, g, d, tk, os⟩ _ h1 q
    wp_walk using it
    refine wpAny_stack_any fun st => wpAny_pure ?_
    split
    · rename_i c _ _ _ _ _
      cases (c == Value.type "enumerate")
      · wp_walk using it; exact ⟨_, rfl, h⟩
      · wp_walk using it; exact ⟨_, rfl, h⟩
    · wp_walk using it; exact ⟨_, rfl, h⟩
section
variable {prog : Program} {w : World} {A : Around} {E : Value → Shared → Prop} {s : Shared}
theorem enum1_begins {v : Value} {o : Obj} {G : Heap → Prop} {Q : Value → Shared → Prop} (B : Begins v o G) (h1 : G s.heap)
    (h : ∀ h', IsEnum h' (s.heap.objs.size + 1) s.heap.objs.size 0 .none → h'.get? s.heap.objs.size = some o → (∀ b o, s.heap.get? b = some o → h'.get? b = some o) → Q (.ref (s.heap.objs.size + 1)) { s with heap := h' }) :
    wpAny (model prog w) A (call (.type "enumerate") [v]) Q E s := by
  refine callType_new F.called_enumerate (by decide) (F.typeCall_enumerate_1 _) (F.newCall_enumerate_1 _) (fun obj => F.args_object_init_2 obj _) F.entry_enumerate_new (meets_enum1 B) ⟨h1, ?_⟩
  have hz : (s.heap.push o).objs.size = s.heap.objs.size + 1 := Heap.size_push ..
  show _ ∧ _
  rw [hz]
  have he : IsEnum ((s.heap.push o).push { cls := .type "enumerate", data := .fields #[.none, .bool false, .ref s.heap.objs.size, rawInt 0, .none, .none] }) (s.heap.objs.size + 1) s.heap.objs.size 0 .none := by
    have q := Heap.get?_push_size (s.heap.push o) (o := { cls := .type "enumerate", data := .fields #[.none, .bool false, .ref s.heap.objs.size, rawInt 0, .none, .none] }) rfl
    rw [hz] at q
    exact q
  exact ⟨⟨_, he, rfl⟩, h _ he (Heap.get?_push_of_some _ (Heap.get?_push_size _ B.free)) fun b o x => Heap.get?_push_of_some _ (Heap.get?_push_of_some _ x)⟩
end
/-- a tuple's items, each in a new pair with its number -/
def IteT (K : PySem.W.Frag) (a : Addr) : It :=
  ⟨fun i H => ∃ (xs : List V) (x : V), SqT K H a xs ∧ xs[i]? = some x, fun i H v H' => ∃ T x, v = .ref T ∧ H T = none ∧ H' = upd H T (.tup [.int (i : Nat), x]) ∧ ∀ xs, SqT K H a xs → xs[i]? = some x, fun i H => ∃ xs : List V, SqT K H a xs ∧ xs.length ≤ i⟩
theorem turn_enumT {P : Program} {w : World} {K : PySem.W.Frag} {elts : List Expr} {kk : Nat} {tpos : Pos} (a e it : Addr) :
    Turn P w K (.Tuple elts kk tpos) (IteT K a) [e, it] e (fun i h => (∃ old, IsEnum h e it ((i : Nat) : Int) old) ∧ h.IsTupleIter it a i ∧ e ≠ it ∧ a ≠ it ∧ e ≠ a) where
  mem := by simp
  obj := fun i h st b hb => by
    obtain ⟨⟨old, he⟩, ⟨o, ho, hc, hd⟩, _⟩ := st
    have e' : b = e ∨ b = it := by simpa using hb
    rcases e' with z | z
    · rw [z]; exact ⟨_, he, fun v q => nomatch q⟩
    · rw [z]; exact ⟨o, ho, fun v q => by rw [hd] at q; cases q⟩
  keep := fun i h h' st k => let ⟨⟨old, he⟩, hi, hne⟩ := st; ⟨⟨old, k e (by simp) _ he⟩, hi.at fun o q => k it (by simp) o q, hne⟩
  item := by
    intro X hP hw hK hc i pins s σ H E I hf st hg
    subst hP hw hK
    obtain ⟨⟨old, he⟩, hit, hne, hai, hea⟩ := st
    obtain ⟨xs, x, hq, hx⟩ := hg
    obtain ⟨its, rv, p, hz⟩ := I.tuple hq
    obtain ⟨u, hu, ru⟩ := rv.get hx
    have hel : e < s.heap.objs.size := Heap.lt_size he
    have hil : it < s.heap.objs.size := by obtain ⟨_, q, _⟩ := hit; exact Heap.lt_size q
    have hli : i < its.toArray.size := by rw [List.size_toArray]; exact (List.getElem?_eq_some_iff.mp hu).1
    have Dr := Draws.tuple (prog := X.prog) (w := X.w) (A := X.A.in1) (I.ok.hd hc) it a hai its.toArray
    refine wpAny_pyNext_enum_itemD Dr he ⟨hit, p⟩ hli hne (by simp [hne, hea]) fun y h' tk hy ho hst' hT hsz hk => ?_
    have ey : y = u := by
      have hy : its.toArray[i]? = some y := hy
      rw [← Array.getElem?_toList, List.toList_toArray, hu] at hy
      cases hy; rfl
    subst ey
    refine ⟨_, rfl, wpAny_letOwnedTupleGo_enum (s := { s with heap := h', toks := tk + 1 }) ho fun h'' he' sb => ?_⟩
    have hT2 : h''.get? s.heap.objs.size = some { cls := .type "tuple", data := .seq #[.int i tk, y] } := (sb.2 _ (Nat.ne_of_gt hel)).trans hT
    have new : ObjOk X.prog X.w (upd H s.heap.objs.size (.tup [.int (i : Nat), x])) h'' s.heap.objs.size (.tup [.int (i : Nat), x]) := ⟨by show 2 ≤ sizeLine; decide, [.int i tk, y], .cons ⟨_, rfl⟩ (.cons ru .nil), ⟨_, hT2, rfl, _, rfl⟩⟩
    have I1 : Inv X pins σ (upd H s.heap.objs.size (.tup [.int (i : Nat), x])) { s with heap := h'', toks := tk + 1 } :=
      I.turnedNew (ch := [e, it]) (fun b ob hb q => (sb.2 b (fun z => hb (by simp [z]))).trans (hk b ob (fun z => hb (by simp [z])) (fun z => hb (by simp [z])) q)) hf (Nat.le_refl _) new
    refine ⟨.ref s.heap.objs.size, _, I1, rfl, ⟨_, x, rfl, I.hok.fresh (Nat.le_refl _), rfl, fun ys hy => by rw [I.tuple_inj hy hq]; exact hx⟩, ⟨⟨y, ?_⟩, hst'.1.at fun o q => (sb.2 it (Ne.symm hne)).trans q, hne, hai, hea⟩, fun b hb => ?_⟩
    · rw [show ((i + 1 : Nat) : Int) = (i : Int) + 1 by omega]
      exact he'
    · have hb' : b < s.heap.objs.size := by
        have e' : b = e ∨ b = it := by simpa using hb
        rcases e' with z | z <;> rw [z] <;> assumption
      rw [upd_ne (Nat.ne_of_lt hb')]
      exact (hf b hb).1
  done := by
    intro X hP hw hK hc i pins s σ H E I hf st hg
    subst hP hw hK
    obtain ⟨⟨old, he⟩, hit, hne, hai, hea⟩ := st
    obtain ⟨xs, hq, hx⟩ := hg
    obtain ⟨its, rv, p, hz⟩ := I.tuple hq
    obtain ⟨f0, f1, f2, f3, f4, f5⟩ := hf it (by simp)
    have hl := rv.length
    have hT : s.TypeIs (.ref e) "enumerate" := ⟨_, he, rfl⟩
    unfold pyNext
    refine wpAny_bind (wpAny_attempt (wpAny_callSpecial?_slot (name := Str.ofString "__next__") hT F.slot_enumerate_next (wpAny_call_entry F.slot_enumerate_next hT F.entry_enumerate_next ?_ (F.args_enumerate_next_1 _))))
    show wpAny _ _ (field (.ref e) 2 >>= _) _ _ _
    refine wpAny_bind (wpAny_field he rfl (x := .ref it) rfl (wpAny_bind (wpAny_nextOf_tuple_end (I.ok.hd hc) hit p (by simp; omega) fun h' x eb hx' => ?_)))
    obtain ⟨o, ho, hco⟩ := hx'
    exact wpAny_bind (wpAny_isInstance (T := "StopIteration") (b := true) ⟨o, ho, hco⟩ isSubtype_stop (wpAny_pure ⟨rfl, I.turned (t' := s.toks) (fun b o hb q => eb b o hb q) f0 f1 f3 f4 f5⟩))
  self := fun A i s Q E st h => let ⟨⟨_, he⟩, _⟩ := st; wpAny_pyIter_enum he h
theorem pi_enumT {X : Cx} {e : Expr} {ta : TA} {p pos tpos : Pos} {elts : List Expr} {kk : Nat} (hg : Gl X "enumerate") (hm : X.mg "enumerate" = none) (ha : PA X [e] ta) (hs : starEach [e] X.env = [(false, eval e X.env)] := by rfl) :
    PI X (.Tuple elts kk tpos) (.Call (.Name "enumerate" p) [e] [] pos) (fun σ H R => ta σ H fun vs H1 => ∃ a xs, vs = [.ref a] ∧ SqT X.K H1 a xs ∧ R (IteT X.K a) H1) := by
  refine ⟨fun pins s σ H R I h => ?_⟩
  refine Call_ (ld_blt I hg hm boot_enumerate (PyProof.Rows.callWith_type1 (thn (ha.run pos pins s σ H _ I h) fun us s1 ⟨vs, H1, I1, r1, a, xs, ex, hq, q⟩ => ?_) hs rfl))
  subst ex
  obtain ⟨u, rfl, ru⟩ := vals1 r1
  obtain rfl : u = Value.ref a := ru
  obtain ⟨its, rv, t, hz⟩ := I1.tuple hq
  obtain ⟨oa, hoa, _⟩ := id t
  have la : a < s1.heap.objs.size := Heap.lt_size hoa
  refine enum1_begins (begins_tuple a its.toArray) t fun h' he hit hk => wpAny_pyIter_enum he ?_
  have I2 : Inv X pins σ H1 { s1 with heap := h' } := I1.kept (t' := s1.toks) hk
  refine ⟨s1.heap.objs.size + 1, [s1.heap.objs.size + 1, s1.heap.objs.size], _, _, H1, rfl, I2, turn_enumT a (s1.heap.objs.size + 1) s1.heap.objs.size, ⟨⟨.none, he⟩, ⟨_, hit, rfl, rfl⟩, Nat.succ_ne_self _, Nat.ne_of_lt la, Nat.ne_of_gt (Nat.lt_succ_of_lt la)⟩, fun b hb => ?_, q⟩
  have hle : s1.heap.objs.size ≤ b := by
    have e' : b = s1.heap.objs.size + 1 ∨ b = s1.heap.objs.size := by simpa using hb
    rcases e' with z | z
    · rw [z]; exact Nat.le_succ _
    · rw [z]; exact Nat.le_refl _
  exact I1.fpOk hle (I1.hok.fresh hle)
end SK
namespace DF
open PySem PySem.Spec PyProof.Rows L2
section
variable {X : Cx} {c : Cy} {W : WX} {σ : L2.St} {H H1 H' : Hp} {O : List (Nat × Addr)} {ρ : Slots} {pt pt' : Pot} {e e2 a b tg : Expr} {p pos apos cpos : Pos} {k : Nat}
theorem yl_enumT {S : List Addr} {a : Addr} {ds : List D} {vs : List V} (h : SqT c.K (Hd S H1) a vs) (rl : c.RL (Hd S H1) ds vs) : Yl c S (SK.IteT c.K a) (enums ds) H1 := fun H k => by
  have q : SqT c.K H a vs := open_t k h
  refine ⟨fun i d e => ?_, fun i hi => ⟨vs, q, ?_⟩⟩
  · obtain ⟨x, y, ex, ey, rfl⟩ := pairs_at e
    rw [List.getElem?_map] at ex
    have hi : i < ds.length := (List.getElem?_eq_some_iff.mp ey).1
    rw [List.getElem?_range hi] at ex
    cases ex
    obtain ⟨w, ew⟩ := RL.ix rl ey
    refine ⟨⟨vs, w, q, ew⟩, fun z H' yy => ?_⟩
    obtain ⟨T, x1, rfl, hT, rfl, f1⟩ := yy
    exact Yg.pair hT (by simp [Cy.R, R]) (RL.at rl ey (f1 vs q))
  · unfold enums pairs at hi
    rw [List.length_zipWith, List.length_map, List.length_range, RL.len rl] at hi
    omega
def enumU : List D → Option (List D)
  | [.lst xs] => some (enums xs)
  | [.tup xs] => some (enums xs)
  | _ => none
theorem di_enumU {fa : Slots → M (List D)} {elts : List Expr} {kk : Nat} {tpos : Pos} (ha : PA X [e] (dA c W fa)) (hm : X.mg "enumerate" = none) (hK : c.K = X.K := by rfl) (hg : Gl X "enumerate" := by rfl) (hs : starEach [e] X.env = [(false, eval e X.env)] := by rfl) :
    PI X (.Tuple elts kk tpos) (.Call (.Name "enumerate" p) [e] [] pos) (dI c W (itA enumU fa)) := by
  refine pi_imp (pi_or (pi_enum hg hm ha hs) (SK.pi_enumT hg hm ha hs)) fun σ H Rk ⟨O, ρ, pt, r, q⟩ => ?_
  cases e1 : fa ρ pt with
  | exc _ _ _ => refine .inl ⟨O, ρ, pt, r, ?_⟩; unfold itA DF.bnd at q; rw [e1] at q ⊢; exact q
  | stuck => unfold itA DF.bnd at q; rw [e1] at q; exact q.elim
  | ok ds p1 =>
    unfold itA DF.bnd at q
    rw [e1] at q
    match ds, q, e1 with
    | [.lst xs], q, e1 =>
      refine .inl ⟨O, ρ, pt, r, ?_⟩
      rw [e1]
      intro H1 s1 vs rv
      obtain ⟨v, rfl, h1⟩ := rl_one rv
      simp only [R] at h1
      obtain ⟨ad, ws, rfl, had, ra⟩ := h1
      refine ⟨ad, ws, rfl, .inl (.inl (Hd.le _ _ had)), ?_⟩
      rw [← hK]
      exact q H1 s1 _ (yl_enum had ra)
    | [.tup xs], q, e1 =>
      refine .inr ⟨O, ρ, pt, r, ?_⟩
      rw [e1]
      intro H1 s1 vs rv
      obtain ⟨v, rfl, h1⟩ := rl_one rv
      simp only [R] at h1
      obtain ⟨ad, ws, rfl, had, ra⟩ := h1
      refine ⟨ad, ws, rfl, hK ▸ Hd.le.sqt had, ?_⟩
      rw [← hK]
      exact q H1 s1 _ (yl_enumT had ra)
    | [], q, _ => exact q.elim
    | x :: _ :: _, q, _ => cases x <;> exact q.elim
    | [.non], q, _ | [.bl _], q, _ | [.int _], q, _ | [.str _], q, _ | [.dct _], q, _ | [.dcf _], q, _ | [.obj _ _], q, _ | [.ex _ _], q, _ | [.pot], q, _ | [.fn _], q, _ | [.cls _], q, _ | [.ty _], q, _ => exact q.elim
end
end DF

set_option Elab.async false
set_option linter.all false
set_option maxRecDepth 100000
set_option maxHeartbeats 4000000
/-! DGJ: x.append(y.pop(i)), sum, reversed, is True. -/
namespace DF
open PySem PySem.Spec PyProof.Rows L2
section
variable {X : Cx} {c : Cy} {W : WX} {σ : L2.St} {H H1 H' : Hp} {O : List (Nat × Addr)} {ρ : Slots} {pt pt' : Pot} {e e2 a b tg : Expr} {p pos apos cpos p2 apos2 cpos2 : Pos} {k : Nat}
theorem RL.erase : ∀ {K : PySem.W.Frag} {T : Tb} {p : Addr} {H : Hp} {ds : List D} {vs : List V} (n : Nat), RL K T p H ds vs → RL K T p H (ds.eraseIdx n) (vs.eraseIdx n)
  | _, _, _, _, [], _, n, h => by simp only [RL] at h; subst h; simp [RL]
  | _, _, _, _, d :: ds, _, 0, h => by
    simp only [RL] at h
    obtain ⟨w, ws, rfl, r, h⟩ := h
    simpa using h
  | _, _, _, _, d :: ds, _, n + 1, h => by
    simp only [RL] at h
    obtain ⟨w, ws, rfl, r, h⟩ := h
    simp only [List.eraseIdx_cons_succ]
    exact RL.cons r (RL.erase n h)
/-! ### x.append(y.pop(e)) -/
def apPopS (i j : Nat) (f : Slots → M D) : Slots → M Out := fun ρ => bnd (opt (ownOf ρ[i]?)) fun ds => bnd (opt (ownOf ρ[j]?)) fun es => bnd (f ρ) fun kd => bnd (opt (intOf kd)) fun k =>
  if i ≠ j ∧ 0 ≤ k ∧ k < es.length ∧ es.length ≤ 100000 then bnd (opt es[k.toNat]?) fun y => growM i (ρ.set j (some (.own (es.eraseIdx k.toNat)))) ds [y] else fail
theorem ds_apPop {i j : Nat} {x y : Str} {f : Slots → M D} {spos : Pos} (h : PE X e (dE c W f)) (hN : X.N[i]? = some x := by rfl) (hv : Vis X.env.scope x := by first | exact Or.inl rfl | exact Or.inr (Or.inl rfl)) (hM : X.N[j]? = some y := by rfl) (hw : Vis X.env.scope y := by first | exact Or.inl rfl | exact Or.inr (Or.inl rfl))
    (hd : (x == ("__debug__" : Str)) = false := by decide) (hcd : (x == ("__classdict__" : Str)) = false := by decide) (hd2 : (y == ("__debug__" : Str)) = false := by decide) (hcd2 : (y == ("__classdict__" : Str)) = false := by decide)
    (hst2 : starEach [e] X.env = (false, eval e X.env) :: starEach [] X.env := by rfl) (hline2 : (apos2.endLine == cpos2.line) = true := by rfl)
    (hfew2 : ((backTo cpos2 (starEach [e] X.env)).all (fun x => !x.1) && (backToKw cpos2 (keywordEach [] X.env)).all (fun x => x.1.isSome) && decide ([e].length + ([] : List Keyword).length + (if ([] : List Keyword).isEmpty then 0 else 1) < 30)) = true := by rfl)
    (hbase2 : attributeBase (.Name y p2) "pop" X.env (eval (.Name y p2) X.env) = eval (.Name y p2) X.env := by rfl) (hplain2 : (backTo cpos2 (starEach [] X.env)).any (·.1) = false := by rfl)
    (hst : starEach [.Call (.Attribute (.Name y p2) "pop" apos2) [e] [] cpos2] X.env = (false, eval (.Call (.Attribute (.Name y p2) "pop" apos2) [e] [] cpos2) X.env) :: starEach [] X.env := by rfl) (hline : (apos.endLine == cpos.line) = true := by rfl) (hs : swapsWith (.Call (.Attribute (.Name x p) "append" apos) [.Call (.Attribute (.Name y p2) "pop" apos2) [e] [] cpos2] [] cpos) none spos.line X.env = pure false := by rfl)
    (hfew : ((backTo cpos (starEach [.Call (.Attribute (.Name y p2) "pop" apos2) [e] [] cpos2] X.env)).all (fun x => !x.1) && (backToKw cpos (keywordEach [] X.env)).all (fun x => x.1.isSome) && decide ([Expr.Call (.Attribute (.Name y p2) "pop" apos2) [e] [] cpos2].length + ([] : List Keyword).length + (if ([] : List Keyword).isEmpty then 0 else 1) < 30)) = true := by rfl)
    (hbase : attributeBase (.Name x p) "append" X.env (eval (.Name x p) X.env) = eval (.Name x p) X.env := by rfl) (hplain : (backTo cpos (starEach [] X.env)).any (·.1) = false := by rfl) :
    PS X (.Expr (.Call (.Attribute (.Name x p) "append" apos) [.Call (.Attribute (.Name y p2) "pop" apos2) [e] [] cpos2] [] cpos) spos) (dS c W (apPopS i j f)) := by
  refine ps_imp (ps_expr (pe_bm PySem.F.plainAttrs_list PySem.F.slot_list_append PySem.F.type_list_append mt_append (pe_var (i := i) hN hv hd hcd) (pa_cons (pe_bm PySem.F.plainAttrs_list PySem.F.slot_list_pop PySem.F.type_list_pop mt_popAt (pe_var (i := j) hM hw hd2 hcd2) (pa_cons h pa_nil hst2) hbase2 hfew2 hline2 hst2 hplain2) pa_nil hst) hbase hfew hline hst hplain) hs) fun E σ H ⟨O, ρ, pt, r, h⟩ => ?_
  obtain ⟨ds, eo, h⟩ := Wg.opt (WO.bnd r h) r.pot
  obtain ⟨es, eo2, h⟩ := Wg.opt (WO.bnd r h) r.pot
  replace eo := ownOf_eq eo
  replace eo2 := ownOf_eq eo2
  obtain ⟨ad, vs, m, ev, ha, rl⟩ := r.sl i _ eo
  obtain ⟨bd, ws, m2, ev2, hb, rl2⟩ := r.sl j _ eo2
  refine ⟨_, ev, .inl ⟨rfl, vs, .inl (.inl ha)⟩, _, ev2, .inl ⟨rfl, ws, .inl (.inl hb)⟩, O, ρ, pt, r, (WO.bnd r h).imp fun kd p1 H1 _ s1 q v rv => ?_⟩
  have r1 := r.stp s1
  obtain ⟨kk, ek, q⟩ := Wg.opt (WO.bnd r1 q) r1.pot
  rw [intOf_eq ek] at rv
  simp only [Cy.R, R] at rv
  subst rv
  obtain ⟨ad', vs, m, ev', ha, rl⟩ := r1.sl i _ eo
  rw [ev] at ev'
  cases ev'
  obtain ⟨bd', ws, m2, ev2', hb, rl2⟩ := r1.sl j _ eo2
  rw [ev2] at ev2'
  cases ev2'
  split at q
  · rename_i hz
    obtain ⟨nij, z0, z1, z2⟩ := hz
    obtain ⟨yd, ey, q⟩ := Wg.opt (WO.bnd r1 q) r1.pot
    obtain ⟨yv, eyv, ry⟩ := RL.getD rl2 ey
    have lw := RL.len rl2
    have hlt : kk < ws.length := by omega
    have hj : j < ρ.length := (List.getElem?_eq_some_iff.mp eo2).1
    obtain ⟨r2, mv⟩ := r1.mut (s' := .own (es.eraseIdx kk.toNat)) m2 (o := .lst (ws.eraseIdx kk.toNat)) (fun gr => ⟨bd, _, m2, ev2, upd_same, RL.erase _ (RL.gr gr rl2)⟩) hj
    refine ⟨bd, ws, kk, kk.toNat, yv, rfl, rfl, hb, by omega, ?_, ?_, eyv, ?_⟩
    · have := sz5 (n := ws.length) (by omega)
      rw [sizeLine_eq] at this
      omega
    · unfold seqIndex?
      have n0 : ¬ kk < 0 := Int.not_lt.mpr z0
      simp only [n0, if_false]
      rw [if_pos (by rw [Bool.and_eq_true]; exact ⟨decide_eq_true z0, decide_eq_true hlt⟩)]
    · have eo' : (ρ.set j (some (.own (es.eraseIdx kk.toNat))))[i]? = some (some (.own ds)) := by rw [List.getElem?_set_ne (Ne.symm nij)]; exact eo
      obtain ⟨ad'', vs2, m3, ev3, ha2, rl3⟩ := r2.sl i _ eo'
      rw [ev] at ev3
      cases ev3
      obtain ⟨hz, q⟩ := grow_ok r2 eo' m3 ev ha2 rl3 (RL.one (R.gr mv.gr ry)) (WO.from mv q)
      exact ⟨ad, vs2, yv, rfl, rfl, ha2, Nat.lt_of_lt_of_le (Nat.lt_of_lt_of_le (Nat.lt_succ_self _) hz) (by decide), q⟩
  · exact q.elim
/-! ### sum -/
def intsD : List D → Option (List Int)
  | [] => some []
  | .int i :: r => (intsD r).map (i :: ·)
  | _ => none
theorem ints_rl {K : PySem.W.Frag} {T : Tb} {p : Addr} {H : Hp} : ∀ {ds : List D} {vs : List V} {ns : List Int}, RL K T p H ds vs → intsD ds = some ns → vs = ns.map V.int
  | [], _, _, h, e => by simp only [RL] at h; subst h; cases e; rfl
  | .int i :: ds, _, ns, h, e => by
    simp only [RL, R] at h
    obtain ⟨v, ws, rfl, rfl, h⟩ := h
    simp only [intsD] at e
    cases e1 : intsD ds with
    | none => rw [e1] at e; cases e
    | some l => rw [e1] at e; cases e; rw [ints_rl h e1]; rfl
  | .non :: _, _, _, _, e | .bl _ :: _, _, _, _, e | .str _ :: _, _, _, _, e | .lst _ :: _, _, _, _, e | .tup _ :: _, _, _, _, e | .dct _ :: _, _, _, _, e | .dcf _ :: _, _, _, _, e | .obj _ _ :: _, _, _, _, e | .ex _ _ :: _, _, _, _, e | .pot :: _, _, _, _, e | .fn _ :: _, _, _, _, e | .cls _ :: _, _, _, _, e | .ty _ :: _, _, _, _, e => by simp [intsD] at e
def sumF : List D → Option D
  | [.lst ds] => (intsD ds).map fun l => .int l.sum
  | _ => none
theorem cd_sum (hc : X.calm = true) : CallD X c W (.builtin "sum") (pu1 sumF) := cd_pu (cr_sum hc) fun O H xs z vs Q rx e q => by
  unfold sumF at e
  split at e
  · rename_i ds
    cases e1 : intsD ds with
    | none => rw [e1] at e; cases e
    | some ns =>
      rw [e1] at e
      cases e
      obtain ⟨v, rfl, h⟩ := rx.one
      obtain ⟨ad, ws, rfl, ha, rl⟩ := h.lst
      have := ints_rl rl e1
      subst this
      exact ⟨ad, ns, rfl, .inl (.inl ha), q _ (by simp [Cy.R, R])⟩
  · cases e
/-! ### reversed -/
def revI (f : Slots → M D) : Slots → M (List D) := fun ρ => bnd (f ρ) fun d => opt ((seqD d).map List.reverse)
theorem rev_at {α : Type} {l : List α} {i : Nat} {x : α} (h : l.reverse[i]? = some x) : i < l.length ∧ l[l.length - 1 - i]? = some x := by
  have hi : i < l.reverse.length := (List.getElem?_eq_some_iff.mp h).1
  rw [List.length_reverse] at hi
  rw [List.getElem?_reverse hi] at h
  exact ⟨hi, h⟩
theorem di_rev {f : Slots → M D} (h : PE X e (dE c W f)) (hm : X.mg "reversed" = none) (hg : Gl X "reversed" := by rfl) (hs : starEach [e] X.env = (false, eval e X.env) :: starEach [] X.env := by rfl) (hK : c.K = X.K := by rfl) : PI X tg (.Call (.Name "reversed" p) [e] [] pos) (dI c W (revI f)) := by
  refine pi_imp (RT.pi_revA hg hm h hs) fun σ H Rk ⟨O, ρ, pt, r, q⟩ => ⟨O, ρ, pt, r, (Wg.bnd q).imp fun d p1 H1 _ s1 q v rv => ?_⟩
  cases d with
  | lst ds =>
    simp only [Cy.R, R] at rv
    obtain ⟨ad, vs, rfl, ha, rl⟩ := rv
    refine ⟨ad, vs, rfl, .inl ⟨.inl (.inl (Hd.le _ _ ha)), ?_⟩⟩
    refine Wg.here q s1.pot _ fun H2 kp => ?_
    have sq : SqL X.K H2 ad vs := open_l kp ha
    have lv := RL.len rl
    refine ⟨fun i d e => ?_, fun i hi => by rw [List.length_reverse, lv] at hi; exact hi⟩
    obtain ⟨h1, h2⟩ := rev_at e
    rw [lv] at h1 h2
    obtain ⟨w, ew⟩ := RL.ix rl h2
    refine ⟨⟨h1, vs, w, sq, ew⟩, fun x H' y => ?_⟩
    obtain ⟨e1, y⟩ := y
    subst e1
    exact Yg.at (RL.at rl h2 (y vs sq))
  | tup ds =>
    simp only [Cy.R, R] at rv
    obtain ⟨ad, vs, rfl, ha, rl⟩ := rv
    refine ⟨ad, vs, rfl, .inr ⟨hK ▸ Hd.le.sqt ha, ?_⟩⟩
    refine Wg.here q s1.pot _ fun H2 kp => ?_
    have sq : SqT X.K H2 ad vs := hK ▸ open_t kp ha
    have lv := RL.len rl
    refine ⟨fun i d e => ?_, fun i hi => by rw [List.length_reverse, lv] at hi; exact hi⟩
    obtain ⟨h1, h2⟩ := rev_at e
    rw [lv] at h1 h2
    obtain ⟨w, ew⟩ := RL.ix rl h2
    refine ⟨⟨h1, vs, w, sq, ew⟩, fun x H' y => ?_⟩
    obtain ⟨e1, y⟩ := y
    subst e1
    exact Yg.at (RL.at rl h2 (y vs sq))
  | _ => exact q.elim
/-! ### is True -/
def isBD : D → D → Option D
  | .bl a, .bl b => some (.bl (decide (a = b)))
  | _, _ => none
theorem od_isB : OpD X c W (compareOp .Is) (pu isBD) := opd_pu op_isBl fun O H x y z v w Q rx ry e q => by
  unfold isBD at e
  split at e
  · cases e
    exact ⟨_, _, rx.bl, ry.bl, q _ (by simp [Cy.R, R])⟩
  · cases e
def isU : D → D → M D := orM (pu isN) (pu isBD)
theorem od_isU : OpD X c W (compareOp .Is) isU := od_isN.or od_isB
end
end DF

set_option Elab.async false
set_option linter.all false
set_option maxRecDepth 100000
set_option maxHeartbeats 4000000
/-! DGK: __init__(self, *xs); own __contains__. -/
namespace DF
open PySem PySem.Spec PyProof.Rows L2
section
variable {P : Program} {w : World} {K : PySem.W.Frag} {mg : Str → Option Value} {base : Heap} {T : Tb}
theorem ini_body {qual y : Str} {sc : Scope} {bd : List Stmt} {f : Addr} {cdv : Value} {N : List Str} {kc nf n : Nat} {g : Slots → M Out} {A : Around} {outer : List Env} {s : Shared} {H : Hp} {vs : List V} {Q : VK} {E : XK}
    (hb : ∀ (H0 : Hp) (p me : Addr) (S : List Addr), PSs (cxOf (L2.CX P w) P w K mg base (y :: N) qual sc f cdv A outer s H E) bd (dS ⟨K, T, p, S, H0, me, x0⟩ (fun cls d _ H => E cls d H) g)) (hl : n ≤ N.length + 1)
    (hnf : nf = (T.names kc).length) (h : spI K T kc n (iniM kc nf N.length g) vs H Q E) :
    ∃ t, PSs (cxOf (L2.CX P w) P w K mg base (y :: N) qual sc f cdv A outer s H E) bd t ∧ t { nx := fun _ H' => Q .non H', rt := Q } (start (y :: N) vs) H := by
  obtain ⟨p, S, x, dx, ds, ws, pt, rfl, hp, hS, hx, e, hi, rl, hpot, q⟩ := h
  have le : ds.length ≤ N.length := by
    omega
  refine ⟨_, hb (Hd [x] H) p x S, ⟨[(0, x)], _, pt, iniI_rs (c := ⟨K, T, p, S, Hd [x] H, x, x0⟩) (N := N) rfl hx hp hS hi rl hpot le, ?_⟩⟩
  unfold iniM DF.bnd at q
  have keepI : ∀ {H' : Hp} {p1 : Pot}, Fin ⟨K, T, p, S, Hd [x] H, x, x0⟩ H' p1 → StpI T.tb p x H H' p1 := fun fi => ⟨fun a o n1 n2 h m => fi.ext a o n1 (Hd.out (fun z => n2 (List.mem_singleton.mp z)) h m) m, fi.pot⟩
  cases e2 : g (some (.slf kc []) :: ini N.length ds) pt with
  | ok o p1 =>
    rw [e2] at q
    cases o with
    | nx ρ' =>
      intro O' σ' H' rs _
      simp only at q
      cases ef : fldsOf kc nf ρ' with
      | none => rw [ef] at q; exact q.elim
      | some fs =>
        rw [ef] at q
        unfold fldsOf at ef
        split at ef
        · rename_i j fs' rest
          split at ef
          · rename_i hj
            cases ef
            obtain ⟨hj, hf⟩ := hj
            subst hj
            obtain ⟨a, dx', vs', m, em, _, ha, _, rl'⟩ := rs.sl 0 _ rfl
            have em' : a = x := em
            subst em'
            refine q H' dx' vs' (keepI rs.fin) ha (hf.trans hnf) (RL.gr (Hd.sub fun b hb => ?_) rl')
            rcases List.mem_cons.mp hb with z | z
            · rw [z]; exact List.mem_append_right _ (List.mem_map.mpr ⟨_, m, rfl⟩)
            · exact List.mem_append_left _ z
          · cases ef
        · cases ef
    | rt d => exact q.elim
    | bk ρ' => exact q.elim
    | ct ρ' => exact q.elim
  | exc _ _ _ =>
    rw [e2] at q
    exact fun cls dd σ' H' fi x => q cls dd H' (keepI fi) x
  | stuck =>
    rw [e2] at q
    exact q
/-- THE RULE for an __init__ with *xs alone behind self -/
theorem fnIS {x qual y pv : Str} {st : Stmt} {f : Addr} {fd : FuncData} {N : List Str} {k kc : Nat} {g : Slots → M Out} {kws : List (Str × V)} (F : FunD K x qual (defArgs st) (defBody st) (defScope st) [] kws f fd) (S : FnScope (y :: N) [y, pv] (defScope st)) (hl : 1 ≤ N.length)
    (hbd : ∀ (kV doc pm : Value) (an : Option Addr) (cdv ct : Value) (us rest : List Value), us.length = 1 → bindArgs (PySem.W.fnOf x qual (defArgs st) (defBody st) (defScope st) .none kV doc pm an cdv ct) ⟨us ++ rest, []⟩ = (newTuple rest >>= fun t => pure ([y].zip us ++ [(pv, t)])))
    (hb : ∀ (cdv : Value), fd.code = cdv → ∀ (A : Around) (outer : List Env) (s : Shared) (H H0 : Hp) (E : XK) (p me : Addr) (S : List Addr), Room k (A.deeper (PyProof.Rows.envOfC qual (defScope st) s.heap.objs.size f cdv)) →
      PSs (cxOf (L2.CX P w) P w K mg base (y :: N) qual (defScope st) f cdv A outer s H E) (defBody st) (dS ⟨K, T, p, S, H0, me, x0⟩ (fun cls d _ H => E cls d H) g))
    {nf : Nat} (hnf : nf = (T.names kc).length) : FnR P w K mg base (L2.CX P w) (k + 1) f (fun vs H Q E => ∃ ws rest, vs = ws ++ rest ∧ ws.length = 1 ∧ rest.length ≤ sizeLine ∧ ∀ p, H p = none → spI K T kc 2 (iniM kc nf N.length g) (ws ++ [V.ref p]) (upd H p (.tup rest)) Q E) := by
  obtain ⟨oc, od, dV, kV, doc, pm, an, cdv, ct, osl, rfl, lk, hcd, hD, _⟩ := F.ex
  rcases hD with ⟨_, rfl⟩ | ⟨e, _⟩
  · exact StX.fn_star (ps := [y]) lk hcd S StX.cxUp (fun us rest hu => hbd kV doc pm an cdv ct us rest hu) fun A outer s H vs Q E hr h => ini_body (fun H0 p me S => hb cdv rfl A outer s H H0 E p me S hr) (by omega) hnf h
  · exact absurd rfl e
end
section
variable {gu : Prop} {X : Cx} {c : Cy} {W : WX} {σ : L2.St} {H H1 H' : Hp} {O : List (Nat × Addr)} {ρ : Slots} {pt pt' : Pot} {e e2 a b tg : Expr} {es : List Expr} {p pos apos cpos : Pos} {k kc n : Nat} {x : Str} {f C : Addr} {CX : CXT} {sp : Sp} {fm : List D → M (List D)} {fa : Slots → M (List D)}
theorem makeR_at {E : XK} {pins : List (Addr × Obj)} {s : Shared} {Q : VK} {us : List Value} {vs : List V} (M : Mk X.K C f) (F : FnR X.prog X.w X.K X.mg X.base CX k f sp) (hr : Room (k + 1) X.A) (hx : PassesAt CX X σ E) (I : Inv X pins σ H s) (r : Vals vs us)
    (h : ∀ x dx, H x = none → H dx = none → dx ≠ x → sp (V.ref x :: vs) (upd (upd H dx (.own x)) x (.ins C dx [])) (fun v H2 => v = .non ∧ Q (.ref x) H2) E) : wpAny (model X.prog X.w) X.A (call (.ref C) us) (EP X pins σ Q) X.xe s := by
  have hq := h (s.heap.objs.size + 1) s.heap.objs.size (I.hok.fresh (Nat.le_succ _)) (I.hok.fresh (Nat.le_refl _)) (Nat.ne_of_lt (Nat.lt_succ_self _))
  have I2 := Inv.made (C := C) I
  have r2 : Vals (V.ref (s.heap.objs.size + 1) :: vs) (Value.ref (s.heap.objs.size + 1) :: us) := .cons rfl r
  refine wpAny_call (make_map (f := f) I.kIn M.makes M.init (beq_iff_eq.mp M.fn) (codeAny_mono (F _ X.stack _ _ (Value.ref (s.heap.objs.size + 1) :: us) _ _ E (hr.make C us []) (I2.env0.make C us []) r2 hq) fun r s' hq' => ?_))
  match r, hq' with
  | .error e, hq' => exact hx pins _ _ e s' I2 hq'
  | .ok (.ret u), hq' =>
    obtain ⟨v, H', I3, rv, ev, q3⟩ := I2.after hq'
    subst ev
    exact ⟨rv, ⟨V.ref (s.heap.objs.size + 1), H', I3, rfl, q3⟩⟩
/-- C(a, ..), the arguments in one tuple -/
def makeSE (kc : Nat) (m : List D → M (List D)) (fa : Slots → M (List D)) : Slots → M D := fun ρ => bnd (fa ρ) fun ds => if ds.length ≤ 100000 then bnd (m [.tup ds]) fun fs => ret (.obj kc fs) else fail
theorem upd_comm {H : Hp} {x y : Addr} {o u : HO} (h : x ≠ y) : upd (upd H x o) y u = upd (upd H y u) x o := by
  funext z
  by_cases h1 : z = x
  · subst h1
    rw [upd_ne h, upd_same, upd_same]
  · by_cases h2 : z = y
    · subst h2
      rw [upd_same, upd_ne h1, upd_same]
    · rw [upd_ne h2, upd_ne h1, upd_ne h1, upd_ne h2]
theorem de_makeS (M : Mk X.K C f) (F : FnR X.prog X.w X.K X.mg X.base (L2.CX X.prog X.w) k f (fun vs H Q E => ∃ ws rest, vs = ws ++ rest ∧ ws.length = 1 ∧ rest.length ≤ sizeLine ∧ ∀ p, H p = none → spI c.K c.T kc 2 fm (ws ++ [V.ref p]) (upd H p (.tup rest)) Q E))
    (hr : Room (k + 1) X.A) (tk : Takes X W) (hm : X.mg x = some (.ref C)) (hC : c.T.cls kc = C) (ha : PA X (e :: es) (dA c W fa)) (hg : Gl X x := by rfl) (hdb : (x == ("__debug__" : Str)) = false := by decide) (he : starEach (e :: es) X.env = (false, eval e X.env) :: starEach es X.env := by rfl) (hpl : (backTo pos (starEach es X.env)).any (·.1) = false := by rfl) :
    PE X (.Call (.Name x p) (e :: es) [] pos) (dE c W (makeSE kc fm fa)) := by
  refine ⟨fun pins s σ H Q I ⟨O, ρ, pt, r, q⟩ => wpAny_Call_Name_kw (ld_glob I hg hm (PySem.W.callWith_K (h₀ := X.base) I.ok.mod.kin M.kp (thn (ha.run pos pins s σ H (fun vs H1 => ∀ x dx, H1 x = none → H1 dx = none → dx ≠ x → ∃ ws rest, V.ref x :: vs = ws ++ rest ∧ ws.length = 1 ∧ rest.length ≤ sizeLine ∧ ∀ p, upd (upd H1 dx (.own x)) x (.ins C dx []) p = none → spI c.K c.T kc 2 fm (ws ++ [V.ref p]) (upd (upd (upd H1 dx (.own x)) x (.ins C dx [])) p (.tup rest)) (fun v H2 => v = .non ∧ Q (.ref x) H2) (WE W σ)) I ⟨O, ρ, pt, r, (Wg.bnd q).imp fun ds p1 H1 _ s1 q vs rvs => ?_⟩) fun us s1 ⟨vs, H1, I1, rr, q⟩ => ⟨I1.kIn, makeR_at M F hr (passAt tk σ) I1 rr q⟩) he hpl) hdb)⟩
  intro ax dx hx hdx ne
  by_cases hz : ds.length ≤ 100000
  · rw [if_pos hz] at q
    refine ⟨[V.ref ax], vs, rfl, rfl, sz5 (by rw [← RL.len rvs]; exact hz), fun l hl => ?_⟩
    have r1 := r.stp s1
    have nx : l ≠ ax := fun z => by rw [z, upd_same] at hl; cases hl
    have nd : l ≠ dx := fun z => by rw [upd_ne nx, z, upd_same] at hl; cases hl
    have l0 : H1 l = none := by rw [upd_ne nx, upd_ne nd] at hl; exact hl
    have st : Stp c.T.tb c.p H1 (upd H1 l (.tup vs)) p1 := Stp.new s1.pot l0
    have e1 : upd (upd (upd H1 dx (.own ax)) ax (.ins C dx [])) l (.tup vs) = upd (upd (upd H1 l (.tup vs)) dx (.own ax)) ax (.ins C dx []) := by
      rw [upd_comm (Ne.symm nx), upd_comm (H := H1) (Ne.symm nd)]
    rw [e1]
    exact spI_of (vs := [.ref l]) (r1.stp st) (RL.one (mk_tup r1 l0 rvs)) rfl hC (by rw [upd_ne (Ne.symm nx)]; exact hx) (by rw [upd_ne (Ne.symm nd)]; exact hdx) ne (Wg.from st q)
  · rw [if_neg hz] at q
    exact q.elim
/-! ### x in o, by the class's own __contains__ -/
def ctnM (kc : Nat) (fm : List D → M D) : D → D → M D := fun x y => match y with
  | .obj j fs => if j = kc then bnd (fm [.obj j fs, x]) fun d => match d with
    | .bl b => ret (.bl b)
    | _ => fail else fail
  | _ => fail
theorem in_own {pins : List (Addr × Obj)} {s : Shared} {ad : Addr} {v : Value} {Q : Bool → Shared → Prop} {dx : Addr} {fs : List (Str × V)} (I : Inv X pins σ H s) (ha : H ad = some (.ins C dx fs)) (hs : PySem.W.findIn X.K (.ref C) "__contains__" = some (some (.ref f))) (hf : PySem.W.isFn X.K (.ref f) = true)
    (h : wpAny (model X.prog X.w) X.A (call (.ref f) [.ref ad, v]) (fun r s' => wpAny (model X.prog X.w) X.A (truthy r) Q X.xe s') X.xe s) : wpAny (model X.prog X.w) X.A (contains (.ref ad) v) Q X.xe s := by
  obtain ⟨ox, od, J⟩ := inst_at I ha
  unfold contains
  refine wpAny_holding (wpAny_bind (wpAny_bind (J.type.here ((PySem.W.looks_findIn I.kIn hs).here ?_))))
  rw [if_neg (by simp)]
  exact wpAny_bind (PySem.W.unlessNone_K I.kIn J hs hf h)
theorem ov_ctn {fd : FuncData} {ps : List Str} {fm : List D → M D} (hs : Meth X.K C "__contains__" f) (F : FnG gu X.prog X.w X.K X.mg X.base (L2.CX X.prog X.w) k f fd ps (spF c.K c.T 2 fm)) (hr : Rm gu k X.A) (tk : Takes X W) (hb : Binds X.K fd ps []) (hC : c.T.cls kc = C) :
    OpV X c W (compareOp .In) (ctnM kc fm) := by
  refine ⟨fun σ v w H Q => ∃ ad dx fs, w = .ref ad ∧ H ad = some (.ins C dx fs) ∧ spF c.K c.T 2 fm [w, v] H (fun u H2 => ∃ bb, u = .bl bb ∧ Q (.bl bb) H2) (WE W σ), ?_, ?_⟩
  · intro pins s σ H x y v u Q I rx ry ⟨ad, dx, fs, ey, ha, sp⟩
    subst ey
    obtain rfl : u = Value.ref ad := ry
    have r2 : Vals [V.ref ad, x] [Value.ref ad, v] := .cons rfl (.cons rx .nil)
    refine wpAny_bind (in_own I ha hs.at_ hs.fn (thn (runSub (E := WE W) F hr rfl hb (passAt tk σ) I r2 sp) fun r s' ⟨z, H2, I2, rz, bb, ez, q⟩ => ?_))
    subst ez
    obtain rfl : r = Value.bool bb := rz
    exact wpAny_truthy_bool (wpAny_pure ⟨.bl bb, H2, I2, rfl, q⟩)
  · intro σ O ρ pt H Q x y v w rs rx ry q
    cases y with
    | obj j fs =>
      simp only [ctnM] at q
      by_cases hj : j = kc
      · rw [if_pos hj] at q
        have ry' := ry
        simp only [Cy.R, R] at ry
        obtain ⟨ad, dx, vs, rfl, ha, _, _⟩ := ry
        subst hj
        refine ⟨ad, dx, _, rfl, by rw [← hC]; exact Hd.le _ _ ha, ?_⟩
        refine spF_of rs (RL.cons ry' (RL.one rx)) rfl ((Wg.bnd q).imp fun d p1 H2 _ s1 q v rv => ?_)
        cases d with
        | bl bb => exact ⟨bb, by simpa [Cy.R, R] using rv, Wg.here q s1.pot _ (by simp [Cy.R, R])⟩
        | _ => exact q.elim
      · rw [if_neg hj] at q
        exact q.elim
    | _ => exact q.elim
end
end DF

set_option Elab.async false
set_option linter.all false
set_option maxRecDepth 100000
set_option maxHeartbeats 4000000
/-! DGL: methods called by keywords, defs as values. -/
namespace DF
open PySem PySem.Spec PyProof.Rows L2
section
variable {gu : Prop} {X : Cx} {c : Cy} {W : WX} {σ : L2.St} {H H1 H' : Hp} {O : List (Nat × Addr)} {ρ : Slots} {pt pt' : Pot} {e e2 a b o tg : Expr} {es : List Expr} {kws : List Keyword} {p pos apos cpos : Pos} {k kc n : Nat} {x m : Str} {f C : Addr} {CX : CXT} {sp : Sp} {fd : FuncData} {ps ks : List Str} {E : L2.St → XK}
  {g : List Value → List Value → List Value} {gV : List V → List V → List V}
/-- a def called with positional values and keywords -/
theorem runKAt {pins : List (Addr × Obj)} {s : Shared} {Q : VK} {us ws : List Value} {vs zs : List V} (F : FnG gu X.prog X.w X.K X.mg X.base CX k f fd ps sp) (hr : Rm gu k X.A) (hb : KBn X.K fd ps n ks g gV) (hx : PassesAt CX X σ (E σ)) (I : Inv X pins σ H s) (r : Vals vs us) (rz : Vals zs ws) (l1 : vs.length = n) (l2 : zs.length = ks.length) (h : sp (gV vs zs) H Q (E σ)) :
    wpAny (model X.prog X.w) X.A (call (.ref f) us (ks.zip ws)) (EP X pins σ Q) X.xe s := by
  refine wpAny_call (codeAny_mono (F.run X.A X.stack s H ⟨us, ks.zip ws⟩ _ _ Q (E σ) hr I.env0 (hb.to s us ws I.kIn (r.length.symm.trans l1) (rz.length.symm.trans l2)) (hb.rel r rz) h) fun res s' hq => ?_)
  match res, hq with
  | .error e, hq => exact hx pins H s e s' I hq
  | .ok (.ret u), hq => exact I.after hq
/-- o.m(k=e, ..) -/
def methKE (kc n mk : Nat) (fm : List D → M D) (sel : List (Bool × Nat)) (dd : List D) (fo : Slots → M D) (fk : Slots → M (List D)) : Slots → M D := fun ρ => bnd (fo ρ) fun z => match z with
  | .obj j fs => if j = kc then bnd (fk ρ) fun es => if es.length = mk ∧ (pick sel dd es).length + 1 = n then fm (.obj j fs :: pick sel dd es) else fail else fail
  | _ => fail
theorem de_methK0 {mk : Nat} {pl : Sem Bool} {fm : List D → M D} {fo : Slots → M D} {fk : Slots → M (List D)} {sel : List (Bool × Nat)} {dd : List D} {dvs : List V} (ho : PE X o (dE c W fo)) (hC : c.T.cls kc = C) (hno : m ∉ c.T.names kc) (cl : Cls X.K C) (hm : Meth X.K C m f) (F : FnG gu X.prog X.w X.K X.mg X.base (L2.CX X.prog X.w) k f fd ps (spF c.K c.T n fm)) (hr : Rm gu k X.A) (tk : Takes X W)
    (hb : KBn X.K fd ps 1 ks g (fun vs zs => vs ++ pick sel dvs zs)) (hc : Cst c dd dvs) (hkw : PK X kws (dA c W fk)) (hall : (backToKw pos (keywordEach kws X.env)).all (·.1.isSome) = true := by rfl) (hks : (backToKw pos (keywordEach kws X.env)).filterMap (·.1) = ks := by rfl) (hl : ks.length = mk := by rfl)
    (hpl : ((backTo pos (starEach [] X.env)).any (·.1) || (backToKw pos (keywordEach kws X.env)).any (·.1.isNone)) = false := by rfl)
    (ht : eval (.Call (.Attribute o m apos) [] kws pos) X.env = (eval o X.env >>= fun ov => standAt apos.atName >>= fun _ => holding [ov] (getMethod ov m pl) >>= fun z => callWith pos z.1 z.2 (backTo pos (starEach [] X.env)) (backToKw pos (keywordEach kws X.env))) := by rfl) :
    PE X (.Call (.Attribute o m apos) [] kws pos) (dE c W (methKE kc n mk fm sel dd fo fk)) := by
  subst hl
  refine ⟨fun pins s σ H Q I ⟨O, ρ, pt, r, q⟩ => PySem.W.methodCall_KW (pl := pl) (thn (ho.run pins s σ H (fun x H1 => ∃ a dx fs, x = .ref a ∧ H1 a = some (.ins C dx fs) ∧ fs.lookup m = none ∧ dA c W fk σ H1 fun zs H2 => zs.length = ks.length ∧ spF c.K c.T n fm (.ref a :: pick sel dvs zs) H2 Q (WE W σ)) I ⟨O, ρ, pt, r, (Wg.bnd q).imp fun z p1 H1 _ s1 qz v rv => ?_⟩) fun u s1 ⟨x, H1, I1, rx, ad, dx, fs, ex, ea, l, q⟩ => ?_) ht⟩
  · cases z with
    | obj j fs =>
      simp only at qz
      by_cases hj : j = kc
      · rw [if_pos hj] at qz
        subst hj
        have rv' := rv
        simp only [Cy.R, R] at rv
        obtain ⟨ad, dx, ws, rfl, ha, _, _⟩ := rv
        have r1 := r.stp s1
        refine ⟨ad, dx, _, rfl, by rw [← hC]; exact Hd.le _ _ ha, no_attr hno, ⟨O, ρ, p1, r1, (Wg.bnd qz).imp fun ds p2 H2 _ s2 q vs rvs => ?_⟩⟩
        by_cases hz : ds.length = ks.length ∧ (pick sel dd ds).length + 1 = n
        · rw [if_pos hz] at q
          refine ⟨by rw [← RL.len rvs]; exact hz.1, ?_⟩
          have r2 := r1.stp s2
          exact spF_of r2 (RL.cons (R.gr (s2.gr r1.pm) rv') (rl_pick (hc _) rvs sel)) hz.2 q
        · rw [if_neg hz] at q
          exact q.elim
      · rw [if_neg hj] at qz
        exact qz.elim
    | _ => exact qz.elim
  · subst ex
    obtain rfl : u = Value.ref ad := rx
    refine getmeth_ok I1 ea cl hm l (PySem.W.callWith_KW0 (first := [.ref ad]) (h₀ := X.base) I.ok.mod.kin hm.kp hall ?_ hpl)
    refine thn (hkw.run pos pins s1 σ H1 _ I1 q) fun ws s2 ⟨zs, H2, I2, rz, l2, q2⟩ => ⟨I2.kIn, ?_⟩
    rw [hks]
    exact runKAt (us := [.ref ad]) (vs := [.ref ad]) (E := WE W) F hr hb (passAt tk σ) I2 (.cons rfl .nil) rz rfl l2 q2
/-! ### defs as values -/
theorem de_fn {i : Nat} (h : X.mg x = some (.ref (c.T.fn i))) (hg : Gl X x := by rfl) (hd : (x == ("__debug__" : Str)) = false := by decide) : PE X (.Name x pos) (dE c W (cE (.fn i))) :=
  pe_imp (C8.pe_gc (v := .ref (c.T.fn i)) hg ⟨_, h, rfl⟩ hd) fun σ H Q ⟨O, ρ, pt, r, q⟩ => Wg.here q r.pot _ (by simp [Cy.R, R])
/-- f(e, ..), f a local name that holds a def -/
def callVE (n : Nat) (ms : Nat → Option (List D → M D)) (i : Nat) (fa : Slots → M (List D)) : Slots → M D := fun ρ => bnd (opt (valOf ρ[i]?)) fun z => match z with
  | .fn j => bnd (opt (ms j)) fun fm => bnd (fa ρ) fun ds => if ds.length = n then fm ds else fail
  | _ => fail
theorem de_callV {i : Nat} {ms : Nat → Option (List D → M D)} {fa : Slots → M (List D)} (hF : ∀ j fm, ms j = some fm → ∃ fd ps, FnG gu X.prog X.w X.K X.mg X.base (L2.CX X.prog X.w) k (c.T.fn j) fd ps (spF c.K c.T n fm) ∧ PySem.W.keepIn X.K (.ref (c.T.fn j)) = true ∧ Binds X.K fd ps []) (hr : Rm gu k X.A) (tk : Takes X W) (ha : PA X (e :: es) (dA c W fa))
    (hN : X.N[i]? = some x := by rfl) (hv : Vis X.env.scope x := by first | exact Or.inl rfl | exact Or.inr (Or.inl rfl)) (hdb : (x == ("__debug__" : Str)) = false := by decide) (hcd : (x == ("__classdict__" : Str)) = false := by decide)
    (he : starEach (e :: es) X.env = (false, eval e X.env) :: starEach es X.env := by rfl) (hpl : (backTo pos (starEach es X.env)).any (·.1) = false := by rfl) : PE X (.Call (.Name x p) (e :: es) [] pos) (dE c W (callVE n ms i fa)) := by
  refine ⟨fun pins s σ H Q I ⟨O, ρ, pt, r, q⟩ => ?_⟩
  obtain ⟨z, ez, q⟩ := Wg.opt (Wg.bnd q) r.pot
  obtain ⟨v, ev, rv⟩ := r.sl i _ (valOf_some ez)
  cases z with
  | fn j =>
    simp only [Cy.R, R] at rv
    subst rv
    obtain ⟨fm, em, q⟩ := Wg.opt (Wg.bnd q) r.pot
    obtain ⟨fd, ps, F, hk, hb⟩ := hF j fm em
    refine wpAny_Call_Name_kw (thn ((pe_var (pos := p) hN hv hdb hcd).run pins s σ H (fun v H1 => v = .ref (c.T.fn j) ∧ H1 = H) I ⟨_, ev, rfl, rfl⟩) fun u s1 ⟨v, H1, I1, r1, q1, e1⟩ => ?_)
    subst q1 e1
    obtain rfl : u = Value.ref (c.T.fn j) := r1
    refine PySem.W.callWith_K (h₀ := X.base) I.ok.mod.kin hk (thn (ha.run pos pins s1 σ H1 (fun vs H2 => spF c.K c.T n fm vs H2 Q (WE W σ)) I1 ⟨O, ρ, pt, r, (Wg.bnd q).imp fun ds p1 H2 _ s2 q vs rvs => ?_⟩) fun us s2 ⟨vs, H2, I2, rr, q2⟩ => ⟨I2.kIn, ?_⟩) he hpl
    · by_cases hz : ds.length = n
      · rw [if_pos hz] at q
        exact spF_of (r.stp s2) rvs hz q
      · rw [if_neg hz] at q
        exact q.elim
    · exact runSub (E := WE W) F hr rfl hb (passAt tk σ) I2 rr q2
  | _ => exact q.elim
end
end DF

set_option Elab.async false
set_option linter.all false
set_option maxRecDepth 100000
set_option maxHeartbeats 4000000
/-! DGM: t[::-1] of a tuple. -/
namespace SK
open PySem PySem.Spec PyProof.Rows L2 HT
theorem fm_congr {α β : Type} {f g : α → Option β} : ∀ {l : List α}, (∀ m ∈ l, f m = g m) → l.filterMap f = l.filterMap g
  | [], _ => rfl
  | a :: l, h => by
    rw [List.filterMap_cons, List.filterMap_cons, h a List.mem_cons_self, fm_congr fun m hm => h m (List.mem_cons_of_mem _ hm)]
theorem rev_pick (xs : Array Value) : ((List.range xs.size).filterMap fun (m : Nat) => xs[(((xs.size : Int) - 1) + (m : Int) * (-1)).toNat]?).toArray = xs.toList.reverse.toArray := by
  congr 1
  apply List.ext_getElem?
  intro i
  have h1 : (List.range xs.size).filterMap (fun (m : Nat) => xs[(((xs.size : Int) - 1) + (m : Int) * (-1)).toNat]?) = (List.range xs.size).map (fun (m : Nat) => xs.toList.getD (xs.size - 1 - m) .none) := by
    rw [← List.filterMap_eq_map]
    refine fm_congr fun m hm => ?_
    have hm : m < xs.size := List.mem_range.mp hm
    have e : (((xs.size : Int) - 1) + (m : Int) * (-1)).toNat = xs.size - 1 - m := by omega
    rw [e]
    have hl : xs.size - 1 - m < xs.size := by omega
    rw [Array.getElem?_eq_getElem hl]
    simp [List.getD, hl]
  rw [h1]
  by_cases hi : i < xs.size
  · rw [List.getElem?_map, List.getElem?_range hi, List.getElem?_reverse (by simpa using hi)]
    have hl : xs.size - 1 - i < xs.size := by omega
    simp [List.getD, hl]
  · rw [List.getElem?_eq_none (by simpa using hi), List.getElem?_eq_none (by simpa using hi)]
section
variable {prog : Program} {w : World} {A : Around} {E : Value → Shared → Prop} {s : Shared}
theorem applied_rev {sl : Addr} {vl vu vs : Value} {n : Nat} {Q : Int × Int × Nat → Shared → Prop} (hs : s.heap.IsSliceOf sl vl vu vs) (pl : IsPart vl none) (pu : IsPart vu none) (ps : IsPart vs (some (-1))) (h : Q ((n : Int) - 1, -1, n) s) :
    wpAny (model prog w) A (Builtin.Slice.sliceApplied (.ref sl) (pure (n : Int))) Q E s := by
  obtain ⟨os, hos, hcs, hds⟩ := id hs
  unfold Builtin.Slice.sliceApplied Builtin.Slice.sliceFields
  refine wpAny_bind (wpAny_bind (wpAny_field hos hds (x := vl) rfl (wpAny_bind (wpAny_field hos hds (x := vu) rfl (wpAny_bind (wpAny_field hos hds (x := vs) rfl (wpAny_pure ?_)))))))
  refine wpAny_bind (slicePart_ ps ?_)
  show wpAny _ _ (if ((-1 : Int) == 0) = true then _ else _) _ _ s
  rw [if_neg (by decide)]
  refine wpAny_bind (slicePart_ pl (wpAny_bind (slicePart_ pu (wpAny_bind (wpAny_pure ?_)))))
  show wpAny _ _ (match Builtin.Slice.sliceAdjust none none (-1) (n : Int) with | (lo, hi) => pure (lo, (-1 : Int), Builtin.Slice.slicePlaces lo hi (-1))) _ _ s
  have e1 : Builtin.Slice.sliceAdjust none none (-1) (n : Int) = ((n : Int) - 1, -1) := by
    unfold Builtin.Slice.sliceAdjust
    simp
  rw [e1]
  have e2 : Builtin.Slice.slicePlaces ((n : Int) - 1) (-1) (-1) = n := by
    unfold Builtin.Slice.slicePlaces
    simp
    omega
  show wpAny _ _ (pure ((n : Int) - 1, (-1 : Int), Builtin.Slice.slicePlaces ((n : Int) - 1) (-1) (-1))) _ _ s
  rw [e2]
  exact wpAny_pure h
theorem item_rev {t sl : Addr} {items : Array Value} {vl vu vs : Value} {Q : Value → Shared → Prop} (ht : IsTup s.heap t items) (hs : s.heap.IsSliceOf sl vl vu vs) (pl : IsPart vl none) (pu : IsPart vu none) (ps : IsPart vs (some (-1)))
    (h : Q (.ref s.heap.objs.size) { s with heap := s.heap.push { cls := .type "tuple", data := .seq items.toList.reverse.toArray } }) (hsz : items.size ≤ sizeLine) : wpAny (model prog w) A (getItem (.ref t) (.ref sl)) Q E s := by
  have fit : sizeOk (.seq items.toList.reverse.toArray) := by
    show items.toList.reverse.toArray.size ≤ sizeLine
    rw [List.size_toArray, List.length_reverse, Array.length_toList]
    exact hsz
  obtain ⟨os, hos, hcs, hds⟩ := id hs
  have hTs : s.TypeIs (.ref sl) "slice" := ⟨os, hos, hcs⟩
  unfold getItem
  try with_reducible refine wpAny_holding ?_
  first | refine wpAny_bind (wpAny_pure ?_) | skip
  refine wpAny_bind (wpAny_sequenceKey ht.typeIs (by decide) (wpAny_bind (wpAny_callSpecial?_slot (name := Str.ofString "__getitem__") ht.typeIs PyProof.Rows.slot_tuple_getitem (wpAny_call_entry PyProof.Rows.slot_tuple_getitem ht.typeIs entry_tuple_getitem ?_ (args_tuple_getitem _ _)))))
  show wpAny _ _ (Builtin.Tuple.tupleItemsOf (.ref t) >>= _) _ _ s
  refine wpAny_bind (tupleItemsOf_ ht (wpAny_bind (wpAny_typeOf hTs ?_)))
  rw [if_pos (by decide)]
  refine wpAny_bind (applied_rev hs pl pu ps ?_)
  show wpAny _ _ (if ((((items.size : Int) - 1) == 0 && (-1 : Int) == 1 && items.size == items.size) = true) then _ else _) _ _ s
  rw [if_neg (by simp), rev_pick]
  first
    | exact wpAny_bind (m := Builtin.Tuple.tupleExact _) (wpAny_newObj_type (wpAny_pure ⟨_, rfl, wpAny_pure h⟩) fit)
    | exact wpAny_bind (m := Builtin.Tuple.tupleExact _) (wpAny_newObj_type (wpAny_bind (wpAny_pure (wpAny_pure ⟨_, rfl, wpAny_pure h⟩))) fit)
    | exact wpAny_bind (wpAny_bind (m := Builtin.Tuple.tupleExact _) (wpAny_newObj_type (wpAny_pure (wpAny_pure ⟨_, rfl, wpAny_pure h⟩)) fit))
    | exact wpAny_bind (wpAny_bind (m := Builtin.Tuple.tupleExact _) (wpAny_newObj_type (wpAny_pure ⟨_, rfl, wpAny_pure h⟩) fit))
end
section
variable {X : Cx}
theorem pe_revT {e : Expr} {te : TE} {k : Nat} {p1 p2 p3 pos : Pos} (he : PE X e te) : PE X (.Subscript e (.Slice none none (some (.UnaryOp .USub (.Constant (.int 1) k p1) p2)) p3) pos) (fun σ H Q => te σ H fun x H1 => ∃ a xs, x = .ref a ∧ SqT X.K H1 a xs ∧ ∀ p, H1 p = none → Q (.ref p) (upd H1 p (.tup xs.reverse))) := by
  refine ⟨fun pins s σ H Q I h => Subscript_ (thn (he.run pins s σ H _ I h) fun v s1 ⟨x, H1, I1, r1, a, xs, ex, hx, q⟩ => ?_)⟩
  subst ex
  obtain rfl : v = Value.ref a := r1
  have hst : PO X (some (.UnaryOp .USub (.Constant (.int 1) k p1) p2)) (tPart (tUn (rU fun i => .int (-i)) (tC (.int 1)))) := po_some (pe_un un_neg pe_int)
  refine wpAny_Slice (thn (po_none.run pins s1 σ H1 (fun o H2 => o = none ∧ H2 = H1) I1 ⟨rfl, rfl⟩) fun vl s2 ⟨l, H2, I2, pl, el, e2⟩ => ?_)
  subst el e2
  refine thn (po_none.run pins s2 σ H2 (fun o H3 => o = none ∧ H3 = H2) I2 ⟨rfl, rfl⟩) fun vu s3 ⟨u, H3, I3, pu, eu, e3⟩ => ?_
  subst eu e3
  refine thn (hst.run pins s3 σ H3 (fun o H4 => o = some (-1) ∧ H4 = H3) I3 ⟨1, rfl, -1, rfl, rfl, rfl⟩) fun vs s4 ⟨o, H4, I4, ps, eo, e4⟩ => ?_
  subst eo e4
  have I5 : Inv X pins σ H4 { s4 with heap := s4.heap.push { cls := .type "slice", data := .fields #[vl, vu, vs] } } := I4.kept (t' := s4.toks) fun b ob q => Heap.get?_push_of_some _ q
  obtain ⟨its, r, ht, hz⟩ := I5.tuple hx
  show wpAny (model X.prog X.w) X.A (subscriptTail e (.Slice none none (some (.UnaryOp .USub (.Constant (.int 1) k p1) p2)) p3) (.ref a) (.ref s4.heap.objs.size)) (EP X pins σ Q) X.xe { s4 with heap := s4.heap.push { cls := .type "slice", data := .fields #[vl, vu, vs] } }
  refine tail_any (ops := [.ref a, .ref s4.heap.objs.size]) ht.typeIs PyProof.Rows.slot_tuple_getitem.lookup ?_ (by with_unfolding_all rfl)
  refine item_rev ht (Heap.IsSliceOf.new _ vl vu vs) pl pu ps ?_ (by rw [List.size_toArray, ← r.length]; exact hz)
  refine ⟨.ref _, _, I5.laid (t' := s4.toks) (o := .tup xs.reverse) (fun b ob q => Heap.get?_push_of_some _ q) (Nat.le_refl _) ?_, rfl, q _ (I5.hok.fresh (Nat.le_refl _))⟩
  exact ⟨by rw [List.length_reverse]; exact hz, its.reverse, r.reverse, IsTup.new _ _⟩
end
end SK
namespace DF
open PySem PySem.Spec PyProof.Rows L2
section
variable {X : Cx} {c : Cy} {W : WX} {e : Expr} {p1 p2 p3 pos : Pos} {k : Nat}
/-- t[::-1] -/
def revTE (f : Slots → M D) : Slots → M D := fun ρ => bnd (f ρ) fun d => match d with
  | .tup ds => ret (.tup ds.reverse)
  | _ => fail
theorem de_revT {f : Slots → M D} (h : PE X e (dE c W f)) (hK : c.K = X.K := by rfl) : PE X (.Subscript e (.Slice none none (some (.UnaryOp .USub (.Constant (.int 1) k p1) p2)) p3) pos) (dE c W (revTE f)) := by
  refine pe_imp (SK.pe_revT h) fun σ H Q ⟨O, ρ, pt, r, q⟩ => ⟨O, ρ, pt, r, (Wg.bnd q).imp fun d p1 H1 _ s1 q v rv => ?_⟩
  cases d with
  | tup ds =>
    simp only [Cy.R, R] at rv
    obtain ⟨a, vs, rfl, ha, rl⟩ := rv
    exact ⟨a, vs, rfl, hK ▸ Hd.le.sqt ha, fun l hl => q _ (Stp.new s1.pot hl) _ (mk_tup (r.stp s1) hl (RL.rev rl))⟩
  | _ => exact q.elim
end
end DF

set_option Elab.async false
set_option linter.all false
set_option maxRecDepth 100000
set_option maxHeartbeats 4000000
/-! DGN: x, y = e, [] and the like; several tables. -/
namespace DF
open PySem PySem.Spec PyProof.Rows L2
section
variable {X : Cx} {c : Cy} {W : WX} {σ : L2.St} {H H1 H' : Hp} {O : List (Nat × Addr)} {ρ : Slots} {pt pt' : Pot} {a b : Expr} {pos pb px py pt0 : Pos} {kt k2 i j : Nat} {pt2 : Pos} {x y : Str}
/-- x, y = e, {} -/
def parVD (i j : Nat) (f : Slots → M D) : Slots → M Out := fun ρ => bnd (f ρ) fun d => if i < ρ.length ∧ j < ρ.length then ret (.nx ((ρ.set i (some (.val d))).set j (some (.ownd [])))) else fail
/-- x, y = e, [] -/
def parVL (i j : Nat) (f : Slots → M D) : Slots → M Out := fun ρ => bnd (f ρ) fun d => if i < ρ.length ∧ j < ρ.length then ret (.nx ((ρ.set i (some (.val d))).set j (some (.own [])))) else fail
/-- x, y = (a new list), [] -/
def parLL (i j : Nat) (f : Slots → M (List D)) : Slots → M Out := fun ρ => bnd (f ρ) fun ds => if i < ρ.length ∧ j < ρ.length then ret (.nx ((ρ.set i (some (.own ds))).set j (some (.own [])))) else fail
theorem ds_parVD {f : Slots → M D} (hc : X.calm = true) (hN : X.N.Nodup) (h : PE X a (dE c W f)) (hi : X.N[i]? = some x := by rfl) (hj : X.N[j]? = some y := by rfl) (hij : i ≠ j := by decide) (hx : X.env.scope.names.lookup x = some .local := by rfl) (hy : X.env.scope.names.lookup y = some .local := by rfl)
    (hw : swappedStores [.Tuple [.Name x px, .Name y py] kt pt0] (.Tuple [a, .Dict [] [] pb] k2 pt2) X.env = pure (some [x, y]) := by rfl) (hs : swapsWithSole [.Tuple [.Name x px, .Name y py] kt pt0] (.Tuple [a, .Dict [] [] pb] k2 pt2) pos.line X.env = pure false := by rfl)
    (s1 : starEach [a, .Dict [] [] pb] X.env = (false, eval a X.env) :: starEach [.Dict [] [] pb] X.env := by rfl) (s2 : starEach [.Dict [] [] pb] X.env = (false, eval (.Dict [] [] pb) X.env) :: starEach [] X.env := by rfl) :
    PS X (.Assign [.Tuple [.Name x px, .Name y py] kt pt0] (.Tuple [a, .Dict [] [] pb] k2 pt2) pos) (dS c W (parVD i j f)) := by
  refine ps_imp (ps_par hc hN hi hj hij hx hy (pa_cons h (pa_cons pe_dnewK pa_nil s2) s1) hw hs) fun E σ H ⟨O, ρ, pt, r, h⟩ => ⟨O, ρ, pt, r, (WO.bnd r h).imp fun d p1 H1 _ s1 q v rv => ?_⟩
  intro l hl
  split at q
  · rename_i hz
    have r1 := r.stp s1
    have q1 := r1.put i (by rw [← r1.len]; exact hz.1) rv
    obtain ⟨q2, m2⟩ := q1.putOwnD (Stp.new r1.pot hl) j (by rw [List.length_set, ← r1.len]; exact hz.2) (Hd.no hl) upd_same RK.nil
    exact ⟨v, .ref l, rfl, q _ _ _ q2 (Mv.trans Mv.fewer m2)⟩
  · exact q.elim
theorem ds_parVL {f : Slots → M D} (hc : X.calm = true) (hN : X.N.Nodup) (h : PE X a (dE c W f)) (hi : X.N[i]? = some x := by rfl) (hj : X.N[j]? = some y := by rfl) (hij : i ≠ j := by decide) (hx : X.env.scope.names.lookup x = some .local := by rfl) (hy : X.env.scope.names.lookup y = some .local := by rfl)
    (hw : swappedStores [.Tuple [.Name x px, .Name y py] kt pt0] (.Tuple [a, .List [] pb] k2 pt2) X.env = pure (some [x, y]) := by rfl) (hs : swapsWithSole [.Tuple [.Name x px, .Name y py] kt pt0] (.Tuple [a, .List [] pb] k2 pt2) pos.line X.env = pure false := by rfl)
    (s1 : starEach [a, .List [] pb] X.env = (false, eval a X.env) :: starEach [.List [] pb] X.env := by rfl) (s2 : starEach [.List [] pb] X.env = (false, eval (.List [] pb) X.env) :: starEach [] X.env := by rfl) :
    PS X (.Assign [.Tuple [.Name x px, .Name y py] kt pt0] (.Tuple [a, .List [] pb] k2 pt2) pos) (dS c W (parVL i j f)) := by
  refine ps_imp (ps_par hc hN hi hj hij hx hy (pa_cons h (pa_cons (pe_lst pa_nil) pa_nil s2) s1) hw hs) fun E σ H ⟨O, ρ, pt, r, h⟩ => ⟨O, ρ, pt, r, (WO.bnd r h).imp fun d p1 H1 _ s1 q v rv => ?_⟩
  refine ⟨Nat.zero_le _, fun l hl => ?_⟩
  split at q
  · rename_i hz
    have r1 := r.stp s1
    have q1 := r1.put i (by rw [← r1.len]; exact hz.1) rv
    obtain ⟨q2, m2⟩ := q1.putOwn (Stp.new r1.pot hl) j (by rw [List.length_set, ← r1.len]; exact hz.2) (Hd.no hl) upd_same RL.nil
    exact ⟨v, .ref l, rfl, q _ _ _ q2 (Mv.trans Mv.fewer m2)⟩
  · exact q.elim
theorem ds_parLL {f : Slots → M (List D)} (hc : X.calm = true) (hN : X.N.Nodup) (h : PE X a (dL c W f)) (hi : X.N[i]? = some x := by rfl) (hj : X.N[j]? = some y := by rfl) (hij : i ≠ j := by decide) (hx : X.env.scope.names.lookup x = some .local := by rfl) (hy : X.env.scope.names.lookup y = some .local := by rfl)
    (hw : swappedStores [.Tuple [.Name x px, .Name y py] kt pt0] (.Tuple [a, .List [] pb] k2 pt2) X.env = pure (some [x, y]) := by rfl) (hs : swapsWithSole [.Tuple [.Name x px, .Name y py] kt pt0] (.Tuple [a, .List [] pb] k2 pt2) pos.line X.env = pure false := by rfl)
    (s1 : starEach [a, .List [] pb] X.env = (false, eval a X.env) :: starEach [.List [] pb] X.env := by rfl) (s2 : starEach [.List [] pb] X.env = (false, eval (.List [] pb) X.env) :: starEach [] X.env := by rfl) :
    PS X (.Assign [.Tuple [.Name x px, .Name y py] kt pt0] (.Tuple [a, .List [] pb] k2 pt2) pos) (dS c W (parLL i j f)) := by
  refine ps_imp (ps_par hc hN hi hj hij hx hy (pa_cons h (pa_cons (pe_lst pa_nil) pa_nil s2) s1) hw hs) fun E σ H ⟨O, ρ, pt, r, h⟩ => ⟨O, ρ, pt, r, ?_⟩
  unfold parLL DF.bnd at h
  cases ef : f ρ pt with
  | stuck => rw [ef] at h; exact h
  | exc _ _ _ => rw [ef] at h; exact fun cls dd H' st x => h cls dd σ H' (Fin.of_stp r st) x
  | ok ds p1 =>
    rw [ef] at h
    intro H1 s1 l vs hl h1 rl
    simp only at h
    refine ⟨Nat.zero_le _, fun l2 hl2 => ?_⟩
    split at h
    · rename_i hz
      obtain ⟨q1, m1⟩ := r.putOwn s1 i (by rw [← r.len]; exact hz.1) hl h1 rl
      obtain ⟨q2, m2⟩ := q1.putOwn (Stp.new q1.pot hl2) j (by rw [List.length_set, ← r.len]; exact hz.2) (Hd.no hl2) upd_same RL.nil
      exact ⟨.ref l, .ref l2, rfl, h _ _ _ q2 (m1.trans m2)⟩
    · exact h.elim
end
theorem nd_ix {α : Type} {l : List α} (nd : l.Nodup) {i j : Nat} {a : α} (h1 : l[i]? = some a) (h2 : l[j]? = some a) : i = j := by
  obtain ⟨l1, e1⟩ := List.getElem?_eq_some_iff.mp h1
  obtain ⟨l2, e2⟩ := List.getElem?_eq_some_iff.mp h2
  have p := List.pairwise_iff_getElem.mp nd
  rcases Nat.lt_trichotomy i j with h | h | h
  · exact absurd (e1.trans e2.symm) (p i j l1 l2 h)
  · exact h
  · exact absurd (e2.trans e1.symm) (p j i l2 l1 h)
/-- the tables lie apart -/
def fTabs (ps : List He.Defn) : Fct := fun K => decide ((ps.map fun p => (He.cT K p).2).Nodup)
section
variable {oks : List Fct} {fn : List He5.DefA} {K : PySem.W.Frag} {mg : Str → Option Value}
theorem Tx.tabs {ps : List He.Defn} (t : Tx oks fn K mg) (j : Nat) (h : oks[j]? = some (fTabs ps) := by rfl) : (ps.map fun p => (He.cT K p).2).Nodup := of_decide_eq_true (t.c.fact j h)
theorem tab_one {tf : List Tab_} {ps : List He.Defn} {qs : List Str} {i : Nat} {p : He.Defn} {q : Str} (nd : (ps.map fun p => (He.cT K p).2).Nodup) (e : tf.map (fun f => f K) = (ps.map fun p => (He.cT K p).2).zip qs) (hp : ps[i]? = some p) (hq : qs[i]? = some q) :
    ((He.cT K p).2, q) ∈ tf.map (fun f => f K) ∧ ∀ z ∈ tf.map (fun f => f K), z.1 = (He.cT K p).2 → z.2 = q := by
  have key : ∀ {as : List Addr} {qs : List Str} {i : Nat} {a : Addr} {q : Str}, as.Nodup → as[i]? = some a → qs[i]? = some q → (a, q) ∈ as.zip qs ∧ ∀ z ∈ as.zip qs, z.1 = a → z.2 = q := by
    intro as qs i a q nd ha hq
    refine ⟨List.mem_of_getElem? (i := i) (by rw [List.getElem?_zip_eq_some]; exact ⟨ha, hq⟩), fun z hz ez => ?_⟩
    obtain ⟨j, hj⟩ := List.getElem?_of_mem hz
    rw [List.getElem?_zip_eq_some] at hj
    have e : i = j := nd_ix nd ha (by rw [← ez]; exact hj.1)
    subst e
    rw [hq] at hj
    exact (Option.some.inj hj.2).symm
  rw [e]
  exact key nd (by rw [List.getElem?_map, hp]; rfl) hq
end
end DF

set_option Elab.async false
set_option linter.all false
set_option maxRecDepth 100000
set_option maxHeartbeats 4000000
/-! DGO: x not in o, by the class's own __contains__; defs as values. -/
namespace DF
open PySem PySem.Spec PyProof.Rows L2
theorem bo_sorted : bootBuiltins "sorted" = some (.builtin "sorted") := boot_sorted
section
variable {X : Cx} {c : Cy} {W : WX} {σ : L2.St} {H H1 H' : Hp} {O : List (Nat × Addr)} {ρ : Slots} {pt pt' : Pot} {gu : Prop} {k kc : Nat} {f C : Addr}
def nctnM (kc : Nat) (fm : List D → M D) : D → D → M D := fun x y => match y with
  | .obj j fs => if j = kc then bnd (fm [.obj j fs, x]) fun d => match d with
    | .bl b => ret (.bl (!b))
    | _ => fail else fail
  | _ => fail
theorem ov_nctn {fd : FuncData} {ps : List Str} {fm : List D → M D} (hs : Meth X.K C "__contains__" f) (F : FnG gu X.prog X.w X.K X.mg X.base (L2.CX X.prog X.w) k f fd ps (spF c.K c.T 2 fm)) (hr : Rm gu k X.A) (tk : Takes X W) (hb : Binds X.K fd ps []) (hC : c.T.cls kc = C) :
    OpV X c W (compareOp .NotIn) (nctnM kc fm) := by
  refine ⟨fun σ v w H Q => ∃ ad dx fs, w = .ref ad ∧ H ad = some (.ins C dx fs) ∧ spF c.K c.T 2 fm [w, v] H (fun u H2 => ∃ bb, u = .bl bb ∧ Q (.bl (!bb)) H2) (WE W σ), ?_, ?_⟩
  · intro pins s σ H x y v u Q I rx ry ⟨ad, dx, fs, ey, ha, sp⟩
    subst ey
    obtain rfl : u = Value.ref ad := ry
    have r2 : Vals [V.ref ad, x] [Value.ref ad, v] := .cons rfl (.cons rx .nil)
    refine wpAny_bind (in_own I ha hs.at_ hs.fn (thn (runSub (E := WE W) F hr rfl hb (passAt tk σ) I r2 sp) fun r s' ⟨z, H2, I2, rz, bb, ez, q⟩ => ?_))
    subst ez
    obtain rfl : r = Value.bool bb := rz
    exact wpAny_truthy_bool (wpAny_pure ⟨.bl (!bb), H2, I2, rfl, q⟩)
  · intro σ O ρ pt H Q x y v w rs rx ry q
    cases y with
    | obj j fs =>
      simp only [nctnM] at q
      by_cases hj : j = kc
      · rw [if_pos hj] at q
        have ry' := ry
        simp only [Cy.R, R] at ry
        obtain ⟨ad, dx, vs, rfl, ha, _, _⟩ := ry
        subst hj
        refine ⟨ad, dx, _, rfl, by rw [← hC]; exact Hd.le _ _ ha, ?_⟩
        refine spF_of rs (RL.cons ry' (RL.one rx)) rfl ((Wg.bnd q).imp fun d p1 H2 _ s1 q v rv => ?_)
        cases d with
        | bl bb => exact ⟨bb, by simpa [Cy.R, R] using rv, Wg.here q s1.pot _ (by simp [Cy.R, R])⟩
        | _ => exact q.elim
      · rw [if_neg hj] at q
        exact q.elim
    | _ => exact q.elim
end
abbrev frzDS (i : Nat) (g : Slots → M Out) : Slots → M Out := fun ρ => g (frzD1 i ρ)
@[simp] theorem e_frzDS (i : Nat) (g : Slots → M Out) (ρ : Slots) (pt : Pot) : frzDS i g ρ pt = g (frzD1 i ρ) pt := rfl
section
variable {X : Cx} {c : Cy} {W : WX}
/-- y = {k: v for ..} on one line, y a local -/
theorem ps_setDc {n : Nat} {yn : Str} {yp dpos apos : Pos} {kx vx tg it : Expr} {cs : List Expr} {sc : Scope} {own : List (Str × Nat)} {ti : TI} {gt : TG} {ct : TT} {tk tv : TE} (calm : X.calm = true) (nd : X.N.Nodup) (hn : X.N[n]? = some yn) (loc : X.env.scope.names.lookup yn = some .local)
    (sw : swapsWith (.DictComp kx vx [⟨tg, it, cs, 0⟩] sc dpos) (some (.Name yn yp)) apos.line X.env = pure true) (pi : PI X tg it ti) (bo : BlkOk X.N X.env.scope sc own)
    (pg : ∀ (s : Shared) (H : Hp) (C : Addr) (cl : List (Str × Addr)) (fp : List Addr), PG (X.blk s H sc (compEnvC sc cl C X.env) fp) tg gt) (pt : ∀ (s : Shared) (H : Hp) (C : Addr) (cl : List (Str × Addr)) (fp : List Addr), PTs (X.blk s H sc (compEnvC sc cl C X.env) fp) cs ct)
    (pk : ∀ (s : Shared) (H : Hp) (C : Addr) (cl : List (Str × Addr)) (fp : List Addr), PE (X.blk s H sc (compEnvC sc cl C X.env) fp) kx tk)
    (pv : ∀ (s : Shared) (H : Hp) (C : Addr) (cl : List (Str × Addr)) (fp : List Addr), PE (X.blk s H sc (compEnvC sc cl C X.env) fp) vx tv) (fs : ∀ x, foldedSetIterable it X.env x = pure x := by intro _; rfl) :
    PS X (.Assign [.Name yn yp] (.DictComp kx vx [⟨tg, it, cs, 0⟩] sc dpos) apos) (tAsg (tDc ti gt ct tk tv (own.map (·.2))) (gName n)) := ⟨fun pins s σ H E I hw => by
  rw [exec_Assign_Name_used _ _ _ _ sw]
  refine wpAny_bind (wpAny_standAt (wpAny_bind ?_))
  show wpAny _ X.A (do let _ ← comprehension (.DictComp kx vx [⟨tg, it, cs, 0⟩] sc dpos) sc X.env (firstIterPos [⟨tg, it, cs, 0⟩] dpos) _ false (eval it X.env) (some (assign (.Name yn yp) X.env))) _ _ s
  have hw : tDc ti gt ct tk tv (own.map (·.2)) σ H (fun x H1 => gName n x σ H1 E.nx) := hw
  refine wpAny_bind (thn (dc_core (Qf := fun _ z => SP X pins E .next z) calm nd I pi bo pg pt pk pv fs hw fun dd C z m J I1 q ns fk => ?_) fun _ z hz => wpAny_pure (wpAny_pure hz))
  obtain ⟨k0, k1, k2, k3, k4, k5⟩ := fk
  refine wpAny_assign_Name (store_ok2 (v := V.ref dd) I1 nd hn (.inl loc) rfl (fun z2 I2 ⟨a, same, ha⟩ => ⟨m, ns.sameBut same ?_, fun h3 sb3 => ⟨_, J, I2.turned (t' := z2.toks) (fun b o hb e => (sb3.2 b hb).trans e) k0 k1 k3 k4 k5, q⟩⟩) (.inr loc))
  exact ha.elim (fun e => by rw [e]; exact k1) (fun e q => k4 yn a e q.symm)⟩
theorem ps_dc {n : Nat} {yn : Str} {yp dpos apos : Pos} {kx vx tg it : Expr} {cs : List Expr} {sc : Scope} {own : List (Str × Nat)} {fi : Slots → M (List D)} {tgf : D → Slots → Option Slots} {t : Slots → M Bool} {fk f : Slots → M D} (calm : X.calm = true) (nd : X.N.Nodup) (hn : X.N[n]? = some yn) (loc : X.env.scope.names.lookup yn = some .local)
    (sw : swapsWith (.DictComp kx vx [⟨tg, it, cs, 0⟩] sc dpos) (some (.Name yn yp)) apos.line X.env = pure true) (pi : PI X tg it (dI c W fi)) (bo : BlkOk X.N X.env.scope sc own)
    (pg : ∀ (l : Addr) (s : Shared) (H : Hp) (C : Addr) (cl : List (Str × Addr)) (fp : List Addr), PG (X.blk s H sc (compEnvC sc cl C X.env) fp) tg (dG { c with S := l :: c.S } (own.map (·.2)) tgf))
    (pt : ∀ (l : Addr) (s : Shared) (H : Hp) (C : Addr) (cl : List (Str × Addr)) (fp : List Addr), PTs (X.blk s H sc (compEnvC sc cl C X.env) fp) cs (dT { c with S := l :: c.S } W0 t))
    (pk : ∀ (l : Addr) (s : Shared) (H : Hp) (C : Addr) (cl : List (Str × Addr)) (fp : List Addr), PE (X.blk s H sc (compEnvC sc cl C X.env) fp) kx (dE { c with S := l :: c.S } W0 fk))
    (pv : ∀ (l : Addr) (s : Shared) (H : Hp) (C : Addr) (cl : List (Str × Addr)) (fp : List Addr), PE (X.blk s H sc (compEnvC sc cl C X.env) fp) vx (dE { c with S := l :: c.S } W0 f))
    (fs : ∀ x, foldedSetIterable it X.env x = pure x := by intro _; rfl) : PS X (.Assign [.Name yn yp] (.DictComp kx vx [⟨tg, it, cs, 0⟩] sc dpos) apos) (tAsg (dD c W (dcompE fi (own.map (·.2)) tgf t fk f)) (gName n)) :=
  tAsg_imp (ps_setDc calm nd hn loc sw pi bo (fun s H C cl fp => pg_ex fun l => pg l s H C cl fp) (fun s H C cl fp => pts_ex fun l => pt l s H C cl fp) (fun s H C cl fp => pe_ex fun l => pk l s H C cl fp) (fun s H C cl fp => pe_ex fun l => pv l s H C cl fp) fs) fun σ H Q h => dcomp_use h
end
/-- the defs that are values, each with its mirror -/
inductive FnVs (gu : Prop) (P : Program) (w : World) (K : PySem.W.Frag) (mg : Str → Option Value) (base : Heap) (T : Tb) (n k : Nat) : Nat → List (List D → M D) → Prop where
  | nil {i : Nat} : FnVs gu P w K mg base T n k i []
  | cons {i j : Nat} {fd : FuncData} {ps : List Str} {m : List D → M D} {ms : List (List D → M D)} (F : FnG gu P w K mg base (L2.CX P w) j (T.fn i) fd ps (spF K T n m)) (hj : j ≤ k) (kp : PySem.W.keepIn K (.ref (T.fn i)) = true) (hb : Binds K fd ps []) (r : FnVs gu P w K mg base T n k (i + 1) ms) : FnVs gu P w K mg base T n k i (m :: ms)
theorem FnVs.at_ {gu : Prop} {P : Program} {w : World} {K : PySem.W.Frag} {mg : Str → Option Value} {base : Heap} {T : Tb} {n k : Nat} : ∀ {i : Nat} {ms : List (List D → M D)}, FnVs gu P w K mg base T n k i ms → ∀ j fm, ms[j]? = some fm → ∃ fd ps, FnG gu P w K mg base (L2.CX P w) k (T.fn (i + j)) fd ps (spF K T n fm) ∧ PySem.W.keepIn K (.ref (T.fn (i + j))) = true ∧ Binds K fd ps []
  | _, _, .nil, j, fm, h => by simp at h
  | i, _, .cons F hj kp hb r, 0, fm, h => by
    cases h
    exact ⟨_, _, ⟨F.len, fun A outer s H args us vs Q E hr => F.run A outer s H args us vs Q E (hr.mono hj)⟩, kp, hb⟩
  | i, _, .cons F hj kp hb r, j + 1, fm, h => by
    have := r.at_ j fm (by simpa using h)
    rw [show i + 1 + j = i + (j + 1) by omega] at this
    exact this
theorem FnVs.all {gu : Prop} {P : Program} {w : World} {K : PySem.W.Frag} {mg : Str → Option Value} {base : Heap} {T : Tb} {n k : Nat} {ms : List (List D → M D)} (h : FnVs gu P w K mg base T n k 0 ms) : ∀ j fm, (fun j => ms[j]?) j = some fm → ∃ fd ps, FnG gu P w K mg base (L2.CX P w) k (T.fn j) fd ps (spF K T n fm) ∧ PySem.W.keepIn K (.ref (T.fn j)) = true ∧ Binds K fd ps [] := fun j fm e => by
  have := h.at_ j fm e
  rwa [Nat.zero_add] at this
end DF

set_option Elab.async false
set_option linter.all false
set_option maxRecDepth 100000
set_option maxHeartbeats 4000000
namespace LW
open PySem L2 DF
def top (i : Nat) : Stmt := PySem.Challenge.pw_stitchsizes_k11_whole_words_of_a_book.main.body.getD i (.Pass ⟨0, 0, 0, 0⟩)
def cls_ : List (Str × List Str) := ("Kind", ["name", "takes", "makes", "back", "mirror", "yarn"]) :: ("Book", ["by_name"]) :: ("InvalidName", ["value"]) :: ("InvalidNumber", ["value"]) :: ("InvalidKind", ["value"]) :: ("InvalidBook", ["problem", "name"]) :: ("InvalidWord", ["value"]) :: ("UnknownKind", ["name"]) :: ("NoBack", ["name"]) :: ("NoMirror", ["name"]) :: ("TooMany", ["what", "limit"]) :: []
def nms_ : List Str := cls_.map (·.1)
def tabs_ : Tf_ := ([tabQ ("check_kinds", none) ((PyProof.Rows.envOfC "check_kinds" (defScope (top 31)) 0 0 .none).qual ++ "<lambda>"), tabQ ("_law_turns_right", none) ((PyProof.Rows.envOfC "_law_turns_right" (defScope (top 50)) 0 0 .none).qual ++ "<lambda>")], ["has_wrong_back", "has_wrong_mirror", "is_crossed"])
def tfs_ : List He.Defn := [("check_kinds", none), ("_law_turns_right", none)]
def TBs (K : PySem.W.Frag) (mg : Str → Option Value) (base : Heap) : Prop := ∀ (i : Nat) (p : He.Defn), tfs_[i]? = some p → LamX.TabB base mg (He.cT K p).1 (He.cT K p).2
abbrev tdef_0 : He.Defn := ("check_kinds", none)
abbrev tq_0 : Str := (PyProof.Rows.envOfC "check_kinds" (defScope (top 31)) 0 0 .none).qual ++ "<lambda>"
abbrev tdef_1 : He.Defn := ("_law_turns_right", none)
abbrev tq_1 : Str := (PyProof.Rows.envOfC "_law_turns_right" (defScope (top 50)) 0 0 .none).qual ++ "<lambda>"
def exm_NoBack : List (Option Bool) := none :: none :: some false :: some false :: some false :: some false :: some false :: some false :: some true :: some false :: some false :: []
def exm_NoMirror : List (Option Bool) := none :: none :: some false :: some false :: some false :: some false :: some false :: some false :: some false :: some true :: some false :: []
theorem nd_Kind : (["name", "takes", "makes", "back", "mirror", "yarn"] : List Str).Nodup := by decide +kernel
theorem nd_Book : (["by_name"] : List Str).Nodup := by decide +kernel
theorem no_Book_is_word : ("is_word" : Str) ∉ (["by_name"] : List Str) := by decide +kernel
theorem no_Book_want_word : ("want_word" : Str) ∉ (["by_name"] : List Str) := by decide +kernel
theorem no_Book_yarn_of : ("yarn_of" : Str) ∉ (["by_name"] : List Str) := by decide +kernel
theorem no_Book_made : ("made" : Str) ∉ (["by_name"] : List Str) := by decide +kernel
theorem no_Book_taken : ("taken" : Str) ∉ (["by_name"] : List Str) := by decide +kernel
theorem no_Book_turned : ("turned" : Str) ∉ (["by_name"] : List Str) := by decide +kernel
theorem no_Book_mirrored : ("mirrored" : Str) ∉ (["by_name"] : List Str) := by decide +kernel
theorem no_Book_kind : ("kind" : Str) ∉ (["by_name"] : List Str) := by decide +kernel
abbrev s__law_pot : Stmt := top 39
abbrev s_law : Stmt := top 53
abbrev s__law_draw : Stmt := top 40
abbrev s__law_mixed : Stmt := top 42
abbrev s__law_pick : Stmt := top 41
abbrev s__law_group : Stmt := top 43
abbrev s__law_book : Stmt := top 44
abbrev s_is_name : Stmt := top 6
abbrev s_InvalidNamezz_initzz : Stmt := inClass (top 9) 0
abbrev s_is_integer : Stmt := top 4
abbrev s_is_within : Stmt := top 5
abbrev s_InvalidNumberzz_initzz : Stmt := inClass (top 10) 0
abbrev s_InvalidKindzz_initzz : Stmt := inClass (top 11) 0
abbrev s_Kindzz_initzz : Stmt := inClass (top 25) 0
abbrev s_TooManyzz_initzz : Stmt := inClass (top 19) 0
abbrev s_InvalidBookzz_initzz : Stmt := inClass (top 12) 0
abbrev s_is_taken : Stmt := top 26
abbrev s_is_crossed : Stmt := top 30
abbrev s_is_same_size : Stmt := top 27
abbrev s_has_wrong_mirror : Stmt := top 29
abbrev s_has_wrong_back : Stmt := top 28
abbrev s_check_kinds : Stmt := top 31
abbrev s_Bookzz_initzz : Stmt := inClass (top 32) 0
abbrev s__law_real_book : Stmt := top 45
abbrev s__law_long : Stmt := top 46
abbrev s_Bookzz_containszz : Stmt := inClass (top 32) 4
abbrev s_Book_is_word : Stmt := inClass (top 32) 8
abbrev s_InvalidWordzz_initzz : Stmt := inClass (top 13) 0
abbrev s_Book_want_word : Stmt := inClass (top 32) 9
abbrev s_yarn_needed : Stmt := top 35
abbrev s_Book_yarn_of : Stmt := inClass (top 32) 12
abbrev s_loops_made : Stmt := top 34
abbrev s_Book_made : Stmt := inClass (top 32) 11
abbrev s_loops_taken : Stmt := top 33
abbrev s_Book_taken : Stmt := inClass (top 32) 10
abbrev s__law_sums_right : Stmt := top 49
abbrev s__law_backward : Stmt := top 47
abbrev s__law_heard : Stmt := top 48
abbrev s_NoBackzz_initzz : Stmt := inClass (top 16) 0
abbrev s_names_behind : Stmt := top 36
abbrev s_Book_turned : Stmt := inClass (top 32) 13
abbrev s_NoMirrorzz_initzz : Stmt := inClass (top 17) 0
abbrev s_names_in_mirror : Stmt := top 37
abbrev s_Book_mirrored : Stmt := inClass (top 32) 14
abbrev s__law_turns_right : Stmt := top 50
abbrev s_UnknownKindzz_initzz : Stmt := inClass (top 15) 0
abbrev s_Book_kind : Stmt := inClass (top 32) 6
abbrev s_Kindzz_eqzz : Stmt := inClass (top 25) 1
abbrev s__law_kinds_right : Stmt := top 51
abbrev s__law_right : Stmt := top 52
def oks : List Fct := fFree "list" ::
  fFree "divmod" ::
  fFree "int" ::
  fGlo "_law_draw" ::
  fFree "len" ::
  fGlo "_law_mixed" ::
  fGlo "_law_pick" ::
  fFree "range" ::
  fFree "zip" ::
  fGlo "_law_group" ::
  fFree "dict" ::
  fGlo "_law_book" ::
  fFree "str" ::
  fIsi (fun _ => .type "str") ["str"] ["Kind", "Book", "InvalidName", "InvalidNumber", "InvalidKind", "InvalidBook", "InvalidWord", "UnknownKind", "NoBack", "NoMirror", "TooMany"] [false, false, false, false, false, false, false, false, false, false, false] ::
  fClsI "Kind" ::
  fClsI "Book" ::
  fFree "isinstance" ::
  fInt "MOST_SIGNS" (8) ::
  fStr "LETTERS" "abcdefghijklmnopqrstuvwxyz" ::
  fFree "all" ::
  fGlo "is_name" ::
  fOex "InvalidName" ::
  fNoat "InvalidName" "value" ::
  fMeth "InvalidName" "__init__" ::
  fGlo "InvalidName" ::
  fInt "MOST_YARN" (999) ::
  fInt "MOST_LOOPS" (6) ::
  fIsi (fun _ => .type "int") ["int", "bool"] ["Kind", "Book", "InvalidName", "InvalidNumber", "InvalidKind", "InvalidBook", "InvalidWord", "UnknownKind", "NoBack", "NoMirror", "TooMany"] [false, false, false, false, false, false, false, false, false, false, false] ::
  fFree "bool" ::
  fIsi (fun _ => .type "bool") ["bool"] ["Kind", "Book", "InvalidName", "InvalidNumber", "InvalidKind", "InvalidBook", "InvalidWord", "UnknownKind", "NoBack", "NoMirror", "TooMany"] [false, false, false, false, false, false, false, false, false, false, false] ::
  fGlo "is_integer" ::
  fGlo "is_within" ::
  fOex "InvalidNumber" ::
  fNoat "InvalidNumber" "value" ::
  fMeth "InvalidNumber" "__init__" ::
  fGlo "InvalidNumber" ::
  fOex "InvalidKind" ::
  fNoat "InvalidKind" "value" ::
  fMeth "InvalidKind" "__init__" ::
  fGlo "InvalidKind" ::
  fNoat "Kind" "name" ::
  fCls "Kind" ::
  fNoat "Kind" "takes" ::
  fNoat "Kind" "makes" ::
  fNoat "Kind" "back" ::
  fNoat "Kind" "mirror" ::
  fNoat "Kind" "yarn" ::
  fGlo "Kind" ::
  fMk "Kind" ::
  fIsi (fun K => .ref (He.ga K "Kind")) [] ["Kind", "Book", "InvalidName", "InvalidNumber", "InvalidKind", "InvalidBook", "InvalidWord", "UnknownKind", "NoBack", "NoMirror", "TooMany"] [true, false, false, false, false, false, false, false, false, false, false] ::
  fInt "MOST_KINDS" (24) ::
  fOex "TooMany" ::
  fNoat "TooMany" "what" ::
  fNoat "TooMany" "limit" ::
  fMeth "TooMany" "__init__" ::
  fGlo "TooMany" ::
  fOex "InvalidBook" ::
  fNoat "InvalidBook" "problem" ::
  fNoat "InvalidBook" "name" ::
  fMeth "InvalidBook" "__init__" ::
  fGlo "InvalidBook" ::
  fFree "enumerate" ::
  fGlo "is_taken" ::
  fFree "sorted" ::
  fGlo "is_crossed" ::
  fGlo "is_same_size" ::
  fGlo "has_wrong_mirror" ::
  fGlo "has_wrong_back" ::
  fGlo "check_kinds" ::
  fNoat "Book" "by_name" ::
  fCls "Book" ::
  fGlo "Book" ::
  fMk "Book" ::
  fGlo "_law_real_book" ::
  fFree "tuple" ::
  fGlo "_law_long" ::
  fFree "sum" ::
  fIsi (fun _ => .type "tuple") ["tuple"] ["Kind", "Book", "InvalidName", "InvalidNumber", "InvalidKind", "InvalidBook", "InvalidWord", "UnknownKind", "NoBack", "NoMirror", "TooMany"] [false, false, false, false, false, false, false, false, false, false, false] ::
  fInt "MOST_NAMES" (240) ::
  fMeth "Book" "__contains__" ::
  fMeth "Book" "is_word" ::
  fOex "InvalidWord" ::
  fNoat "InvalidWord" "value" ::
  fMeth "InvalidWord" "__init__" ::
  fGlo "InvalidWord" ::
  fMeth "Book" "want_word" ::
  fGlo "yarn_needed" ::
  fMeth "Book" "yarn_of" ::
  fGlo "loops_made" ::
  fMeth "Book" "made" ::
  fGlo "loops_taken" ::
  fMeth "Book" "taken" ::
  fSys ::
  fFree "repr" ::
  fGlo "_law_sums_right" ::
  fGlo "_law_backward" ::
  fExm "NoBack" nms_ exm_NoBack ::
  fXf "NoBack" ::
  fNoat "NoBack" "name" ::
  fGlo "NoBack" ::
  fExm "NoMirror" nms_ exm_NoMirror ::
  fXf "NoMirror" ::
  fNoat "NoMirror" "name" ::
  fGlo "NoMirror" ::
  fOex "NoBack" ::
  fMeth "NoBack" "__init__" ::
  fFree "reversed" ::
  fGlo "names_behind" ::
  fMeth "Book" "turned" ::
  fGlo "_law_heard" ::
  fOex "NoMirror" ::
  fMeth "NoMirror" "__init__" ::
  fGlo "names_in_mirror" ::
  fMeth "Book" "mirrored" ::
  fGlo "_law_turns_right" ::
  fIsi (fun K => .ref (He.ga K "Book")) [] ["Kind", "Book", "InvalidName", "InvalidNumber", "InvalidKind", "InvalidBook", "InvalidWord", "UnknownKind", "NoBack", "NoMirror", "TooMany"] [false, true, false, false, false, false, false, false, false, false, false] ::
  fOex "UnknownKind" ::
  fNoat "UnknownKind" "name" ::
  fMeth "UnknownKind" "__init__" ::
  fGlo "UnknownKind" ::
  fMeth "Book" "kind" ::
  fMeth "Kind" "__eq__" ::
  fNe "Kind" ::
  fCmp "Kind" ["Kind", "Book", "InvalidName", "InvalidNumber", "InvalidKind", "InvalidBook", "InvalidWord", "UnknownKind", "NoBack", "NoMirror", "TooMany"] ::
  fGlo "_law_kinds_right" ::
  fGlo "_law_pot" ::
  fGlo "law" ::
  fFree "max" ::
  fFree "min" ::
  fFree "abs" ::
  fGlo "_law_right" ::
  fTabs tfs_ ::
  []
def d__law_draw : He5.DefA := ⟨fun K => (He.ga K "_law_draw"), "_law_draw", "_law_draw", defArgs s__law_draw, defBody s__law_draw, defScope s__law_draw, [], []⟩
def d__law_mixed : He5.DefA := ⟨fun K => (He.ga K "_law_mixed"), "_law_mixed", "_law_mixed", defArgs s__law_mixed, defBody s__law_mixed, defScope s__law_mixed, [], []⟩
def d__law_pick : He5.DefA := ⟨fun K => (He.ga K "_law_pick"), "_law_pick", "_law_pick", defArgs s__law_pick, defBody s__law_pick, defScope s__law_pick, [], []⟩
def d__law_group : He5.DefA := ⟨fun K => (He.ga K "_law_group"), "_law_group", "_law_group", defArgs s__law_group, defBody s__law_group, defScope s__law_group, [], []⟩
def d__law_book : He5.DefA := ⟨fun K => (He.ga K "_law_book"), "_law_book", "_law_book", defArgs s__law_book, defBody s__law_book, defScope s__law_book, [], []⟩
def d_is_name : He5.DefA := ⟨fun K => (He.ga K "is_name"), "is_name", "is_name", defArgs s_is_name, defBody s_is_name, defScope s_is_name, [], []⟩
def d_InvalidNamezz_initzz : He5.DefA := ⟨fun K => (He.ma K (He.ga K "InvalidName") "__init__"), "__init__", "InvalidName.__init__", defArgs s_InvalidNamezz_initzz, defBody s_InvalidNamezz_initzz, defScope s_InvalidNamezz_initzz, [], []⟩
def d_is_integer : He5.DefA := ⟨fun K => (He.ga K "is_integer"), "is_integer", "is_integer", defArgs s_is_integer, defBody s_is_integer, defScope s_is_integer, [], []⟩
def d_is_within : He5.DefA := ⟨fun K => (He.ga K "is_within"), "is_within", "is_within", defArgs s_is_within, defBody s_is_within, defScope s_is_within, [], []⟩
def d_InvalidNumberzz_initzz : He5.DefA := ⟨fun K => (He.ma K (He.ga K "InvalidNumber") "__init__"), "__init__", "InvalidNumber.__init__", defArgs s_InvalidNumberzz_initzz, defBody s_InvalidNumberzz_initzz, defScope s_InvalidNumberzz_initzz, [], []⟩
def d_InvalidKindzz_initzz : He5.DefA := ⟨fun K => (He.ma K (He.ga K "InvalidKind") "__init__"), "__init__", "InvalidKind.__init__", defArgs s_InvalidKindzz_initzz, defBody s_InvalidKindzz_initzz, defScope s_InvalidKindzz_initzz, [], []⟩
def d_Kindzz_initzz : He5.DefA := ⟨fun K => (He.ma K (He.ga K "Kind") "__init__"), "__init__", "Kind.__init__", defArgs s_Kindzz_initzz, defBody s_Kindzz_initzz, defScope s_Kindzz_initzz, [], [("back", .non), ("mirror", .non), ("yarn", .int 1)]⟩
def d_TooManyzz_initzz : He5.DefA := ⟨fun K => (He.ma K (He.ga K "TooMany") "__init__"), "__init__", "TooMany.__init__", defArgs s_TooManyzz_initzz, defBody s_TooManyzz_initzz, defScope s_TooManyzz_initzz, [], []⟩
def d_InvalidBookzz_initzz : He5.DefA := ⟨fun K => (He.ma K (He.ga K "InvalidBook") "__init__"), "__init__", "InvalidBook.__init__", defArgs s_InvalidBookzz_initzz, defBody s_InvalidBookzz_initzz, defScope s_InvalidBookzz_initzz, [], []⟩
def d_is_taken : He5.DefA := ⟨fun K => (He.ga K "is_taken"), "is_taken", "is_taken", defArgs s_is_taken, defBody s_is_taken, defScope s_is_taken, [], []⟩
def d_is_crossed : He5.DefA := ⟨fun K => (He.ga K "is_crossed"), "is_crossed", "is_crossed", defArgs s_is_crossed, defBody s_is_crossed, defScope s_is_crossed, [], []⟩
def d_is_same_size : He5.DefA := ⟨fun K => (He.ga K "is_same_size"), "is_same_size", "is_same_size", defArgs s_is_same_size, defBody s_is_same_size, defScope s_is_same_size, [], []⟩
def d_has_wrong_mirror : He5.DefA := ⟨fun K => (He.ga K "has_wrong_mirror"), "has_wrong_mirror", "has_wrong_mirror", defArgs s_has_wrong_mirror, defBody s_has_wrong_mirror, defScope s_has_wrong_mirror, [], []⟩
def d_has_wrong_back : He5.DefA := ⟨fun K => (He.ga K "has_wrong_back"), "has_wrong_back", "has_wrong_back", defArgs s_has_wrong_back, defBody s_has_wrong_back, defScope s_has_wrong_back, [], []⟩
def d_check_kinds : He5.DefA := ⟨fun K => (He.ga K "check_kinds"), "check_kinds", "check_kinds", defArgs s_check_kinds, defBody s_check_kinds, defScope s_check_kinds, [], []⟩
def d_Bookzz_initzz : He5.DefA := ⟨fun K => (He.ma K (He.ga K "Book") "__init__"), "__init__", "Book.__init__", defArgs s_Bookzz_initzz, defBody s_Bookzz_initzz, defScope s_Bookzz_initzz, [], []⟩
def d__law_real_book : He5.DefA := ⟨fun K => (He.ga K "_law_real_book"), "_law_real_book", "_law_real_book", defArgs s__law_real_book, defBody s__law_real_book, defScope s__law_real_book, [], []⟩
def d__law_long : He5.DefA := ⟨fun K => (He.ga K "_law_long"), "_law_long", "_law_long", defArgs s__law_long, defBody s__law_long, defScope s__law_long, [], []⟩
def d_Bookzz_containszz : He5.DefA := ⟨fun K => (He.ma K (He.ga K "Book") "__contains__"), "__contains__", "Book.__contains__", defArgs s_Bookzz_containszz, defBody s_Bookzz_containszz, defScope s_Bookzz_containszz, [], []⟩
def d_Book_is_word : He5.DefA := ⟨fun K => (He.ma K (He.ga K "Book") "is_word"), "is_word", "Book.is_word", defArgs s_Book_is_word, defBody s_Book_is_word, defScope s_Book_is_word, [], []⟩
def d_InvalidWordzz_initzz : He5.DefA := ⟨fun K => (He.ma K (He.ga K "InvalidWord") "__init__"), "__init__", "InvalidWord.__init__", defArgs s_InvalidWordzz_initzz, defBody s_InvalidWordzz_initzz, defScope s_InvalidWordzz_initzz, [], []⟩
def d_Book_want_word : He5.DefA := ⟨fun K => (He.ma K (He.ga K "Book") "want_word"), "want_word", "Book.want_word", defArgs s_Book_want_word, defBody s_Book_want_word, defScope s_Book_want_word, [], []⟩
def d_yarn_needed : He5.DefA := ⟨fun K => (He.ga K "yarn_needed"), "yarn_needed", "yarn_needed", defArgs s_yarn_needed, defBody s_yarn_needed, defScope s_yarn_needed, [], []⟩
def d_Book_yarn_of : He5.DefA := ⟨fun K => (He.ma K (He.ga K "Book") "yarn_of"), "yarn_of", "Book.yarn_of", defArgs s_Book_yarn_of, defBody s_Book_yarn_of, defScope s_Book_yarn_of, [], []⟩
def d_loops_made : He5.DefA := ⟨fun K => (He.ga K "loops_made"), "loops_made", "loops_made", defArgs s_loops_made, defBody s_loops_made, defScope s_loops_made, [], []⟩
def d_Book_made : He5.DefA := ⟨fun K => (He.ma K (He.ga K "Book") "made"), "made", "Book.made", defArgs s_Book_made, defBody s_Book_made, defScope s_Book_made, [], []⟩
def d_loops_taken : He5.DefA := ⟨fun K => (He.ga K "loops_taken"), "loops_taken", "loops_taken", defArgs s_loops_taken, defBody s_loops_taken, defScope s_loops_taken, [], []⟩
def d_Book_taken : He5.DefA := ⟨fun K => (He.ma K (He.ga K "Book") "taken"), "taken", "Book.taken", defArgs s_Book_taken, defBody s_Book_taken, defScope s_Book_taken, [], []⟩
def d__law_sums_right : He5.DefA := ⟨fun K => (He.ga K "_law_sums_right"), "_law_sums_right", "_law_sums_right", defArgs s__law_sums_right, defBody s__law_sums_right, defScope s__law_sums_right, [], []⟩
def d__law_backward : He5.DefA := ⟨fun K => (He.ga K "_law_backward"), "_law_backward", "_law_backward", defArgs s__law_backward, defBody s__law_backward, defScope s__law_backward, [], []⟩
def d__law_heard : He5.DefA := ⟨fun K => (He.ga K "_law_heard"), "_law_heard", "_law_heard", defArgs s__law_heard, defBody s__law_heard, defScope s__law_heard, [], []⟩
def d_NoBackzz_initzz : He5.DefA := ⟨fun K => (He.ma K (He.ga K "NoBack") "__init__"), "__init__", "NoBack.__init__", defArgs s_NoBackzz_initzz, defBody s_NoBackzz_initzz, defScope s_NoBackzz_initzz, [], []⟩
def d_names_behind : He5.DefA := ⟨fun K => (He.ga K "names_behind"), "names_behind", "names_behind", defArgs s_names_behind, defBody s_names_behind, defScope s_names_behind, [], []⟩
def d_Book_turned : He5.DefA := ⟨fun K => (He.ma K (He.ga K "Book") "turned"), "turned", "Book.turned", defArgs s_Book_turned, defBody s_Book_turned, defScope s_Book_turned, [], []⟩
def d_NoMirrorzz_initzz : He5.DefA := ⟨fun K => (He.ma K (He.ga K "NoMirror") "__init__"), "__init__", "NoMirror.__init__", defArgs s_NoMirrorzz_initzz, defBody s_NoMirrorzz_initzz, defScope s_NoMirrorzz_initzz, [], []⟩
def d_names_in_mirror : He5.DefA := ⟨fun K => (He.ga K "names_in_mirror"), "names_in_mirror", "names_in_mirror", defArgs s_names_in_mirror, defBody s_names_in_mirror, defScope s_names_in_mirror, [], []⟩
def d_Book_mirrored : He5.DefA := ⟨fun K => (He.ma K (He.ga K "Book") "mirrored"), "mirrored", "Book.mirrored", defArgs s_Book_mirrored, defBody s_Book_mirrored, defScope s_Book_mirrored, [], []⟩
def d__law_turns_right : He5.DefA := ⟨fun K => (He.ga K "_law_turns_right"), "_law_turns_right", "_law_turns_right", defArgs s__law_turns_right, defBody s__law_turns_right, defScope s__law_turns_right, [], []⟩
def d_UnknownKindzz_initzz : He5.DefA := ⟨fun K => (He.ma K (He.ga K "UnknownKind") "__init__"), "__init__", "UnknownKind.__init__", defArgs s_UnknownKindzz_initzz, defBody s_UnknownKindzz_initzz, defScope s_UnknownKindzz_initzz, [], []⟩
def d_Book_kind : He5.DefA := ⟨fun K => (He.ma K (He.ga K "Book") "kind"), "kind", "Book.kind", defArgs s_Book_kind, defBody s_Book_kind, defScope s_Book_kind, [], []⟩
def d_Kindzz_eqzz : He5.DefA := ⟨fun K => (He.ma K (He.ga K "Kind") "__eq__"), "__eq__", "Kind.__eq__", defArgs s_Kindzz_eqzz, defBody s_Kindzz_eqzz, defScope s_Kindzz_eqzz, [], []⟩
def d__law_kinds_right : He5.DefA := ⟨fun K => (He.ga K "_law_kinds_right"), "_law_kinds_right", "_law_kinds_right", defArgs s__law_kinds_right, defBody s__law_kinds_right, defScope s__law_kinds_right, [], []⟩
def d__law_right : He5.DefA := ⟨fun K => (He.ga K "_law_right"), "_law_right", "_law_right", defArgs s__law_right, defBody s__law_right, defScope s__law_right, [], []⟩
def d__law_pot : He5.DefA := ⟨fun K => (He.ga K "_law_pot"), "_law_pot", "_law_pot", defArgs s__law_pot, defBody s__law_pot, defScope s__law_pot, [], []⟩
def d_law : He5.DefA := ⟨fun K => (He.ga K "law"), "law", "law", defArgs s_law, defBody s_law, defScope s_law, [], []⟩
def fns : List He5.DefA := [d__law_draw, d__law_mixed, d__law_pick, d__law_group, d__law_book, d_is_name, d_InvalidNamezz_initzz, d_is_integer, d_is_within, d_InvalidNumberzz_initzz, d_InvalidKindzz_initzz, d_Kindzz_initzz, d_TooManyzz_initzz, d_InvalidBookzz_initzz, d_is_taken, d_is_crossed, d_is_same_size, d_has_wrong_mirror, d_has_wrong_back, d_check_kinds, d_Bookzz_initzz, d__law_real_book, d__law_long, d_Bookzz_containszz, d_Book_is_word, d_InvalidWordzz_initzz, d_Book_want_word, d_yarn_needed, d_Book_yarn_of, d_loops_made, d_Book_made, d_loops_taken, d_Book_taken, d__law_sums_right, d__law_backward, d__law_heard, d_NoBackzz_initzz, d_names_behind, d_Book_turned, d_NoMirrorzz_initzz, d_names_in_mirror, d_Book_mirrored, d__law_turns_right, d_UnknownKindzz_initzz, d_Book_kind, d_Kindzz_eqzz, d__law_kinds_right, d__law_right, d__law_pot, d_law]
abbrev TX (K : PySem.W.Frag) (mg : Str → Option Value) : Prop := Tx oks fns K mg
section
variable {P : Program} {w : World} {K : PySem.W.Frag} {mg : Str → Option Value} {base : Heap}
theorem hCs (t : TX K mg) : ∀ k, k < 2 → ClsI K ((tbOf cls_ tabs_ K).cls k)
  | 0, _ => t.clsI (x := "Kind") 14
  | 1, _ => t.clsI (x := "Book") 15
  | k + 2, h => absurd h (by omega)
def tqs_ : List Str := [tq_0, tq_1]
theorem tab_0 (t : TX K mg) : ((He.cT K tdef_0).2, tq_0) ∈ (tbOf cls_ tabs_ K).tb ∧ ∀ z ∈ (tbOf cls_ tabs_ K).tb, z.1 = (He.cT K tdef_0).2 → z.2 = tq_0 := tab_one (tf := tabs_.1) (ps := tfs_) (qs := tqs_) (i := 0) (t.tabs 131) rfl rfl rfl
theorem tab_1 (t : TX K mg) : ((He.cT K tdef_1).2, tq_1) ∈ (tbOf cls_ tabs_ K).tb ∧ ∀ z ∈ (tbOf cls_ tabs_ K).tb, z.1 = (He.cT K tdef_1).2 → z.2 = tq_1 := tab_one (tf := tabs_.1) (ps := tfs_) (qs := tqs_) (i := 1) (t.tabs 131) rfl rfl rfl
theorem u__law_draw (t : TX K mg) : FunD K "_law_draw" "_law_draw" (defArgs s__law_draw) (defBody s__law_draw) (defScope s__law_draw) [] [] (He.ga K "_law_draw") (fdAt K (He.ga K "_law_draw")) := t.c.def_ 0 (d := d__law_draw) rfl
theorem u__law_mixed (t : TX K mg) : FunD K "_law_mixed" "_law_mixed" (defArgs s__law_mixed) (defBody s__law_mixed) (defScope s__law_mixed) [] [] (He.ga K "_law_mixed") (fdAt K (He.ga K "_law_mixed")) := t.c.def_ 1 (d := d__law_mixed) rfl
theorem u__law_pick (t : TX K mg) : FunD K "_law_pick" "_law_pick" (defArgs s__law_pick) (defBody s__law_pick) (defScope s__law_pick) [] [] (He.ga K "_law_pick") (fdAt K (He.ga K "_law_pick")) := t.c.def_ 2 (d := d__law_pick) rfl
theorem u__law_group (t : TX K mg) : FunD K "_law_group" "_law_group" (defArgs s__law_group) (defBody s__law_group) (defScope s__law_group) [] [] (He.ga K "_law_group") (fdAt K (He.ga K "_law_group")) := t.c.def_ 3 (d := d__law_group) rfl
theorem u__law_book (t : TX K mg) : FunD K "_law_book" "_law_book" (defArgs s__law_book) (defBody s__law_book) (defScope s__law_book) [] [] (He.ga K "_law_book") (fdAt K (He.ga K "_law_book")) := t.c.def_ 4 (d := d__law_book) rfl
theorem u_is_name (t : TX K mg) : FunD K "is_name" "is_name" (defArgs s_is_name) (defBody s_is_name) (defScope s_is_name) [] [] (He.ga K "is_name") (fdAt K (He.ga K "is_name")) := t.c.def_ 5 (d := d_is_name) rfl
theorem u_InvalidNamezz_initzz (t : TX K mg) : FunD K "__init__" "InvalidName.__init__" (defArgs s_InvalidNamezz_initzz) (defBody s_InvalidNamezz_initzz) (defScope s_InvalidNamezz_initzz) [] [] (He.ma K (He.ga K "InvalidName") "__init__") (fdAt K (He.ma K (He.ga K "InvalidName") "__init__")) := t.c.def_ 6 (d := d_InvalidNamezz_initzz) rfl
theorem u_is_integer (t : TX K mg) : FunD K "is_integer" "is_integer" (defArgs s_is_integer) (defBody s_is_integer) (defScope s_is_integer) [] [] (He.ga K "is_integer") (fdAt K (He.ga K "is_integer")) := t.c.def_ 7 (d := d_is_integer) rfl
theorem u_is_within (t : TX K mg) : FunD K "is_within" "is_within" (defArgs s_is_within) (defBody s_is_within) (defScope s_is_within) [] [] (He.ga K "is_within") (fdAt K (He.ga K "is_within")) := t.c.def_ 8 (d := d_is_within) rfl
theorem u_InvalidNumberzz_initzz (t : TX K mg) : FunD K "__init__" "InvalidNumber.__init__" (defArgs s_InvalidNumberzz_initzz) (defBody s_InvalidNumberzz_initzz) (defScope s_InvalidNumberzz_initzz) [] [] (He.ma K (He.ga K "InvalidNumber") "__init__") (fdAt K (He.ma K (He.ga K "InvalidNumber") "__init__")) := t.c.def_ 9 (d := d_InvalidNumberzz_initzz) rfl
theorem u_InvalidKindzz_initzz (t : TX K mg) : FunD K "__init__" "InvalidKind.__init__" (defArgs s_InvalidKindzz_initzz) (defBody s_InvalidKindzz_initzz) (defScope s_InvalidKindzz_initzz) [] [] (He.ma K (He.ga K "InvalidKind") "__init__") (fdAt K (He.ma K (He.ga K "InvalidKind") "__init__")) := t.c.def_ 10 (d := d_InvalidKindzz_initzz) rfl
theorem u_Kindzz_initzz (t : TX K mg) : FunD K "__init__" "Kind.__init__" (defArgs s_Kindzz_initzz) (defBody s_Kindzz_initzz) (defScope s_Kindzz_initzz) [] [("back", .non), ("mirror", .non), ("yarn", .int 1)] (He.ma K (He.ga K "Kind") "__init__") (fdAt K (He.ma K (He.ga K "Kind") "__init__")) := t.c.def_ 11 (d := d_Kindzz_initzz) rfl
theorem u_TooManyzz_initzz (t : TX K mg) : FunD K "__init__" "TooMany.__init__" (defArgs s_TooManyzz_initzz) (defBody s_TooManyzz_initzz) (defScope s_TooManyzz_initzz) [] [] (He.ma K (He.ga K "TooMany") "__init__") (fdAt K (He.ma K (He.ga K "TooMany") "__init__")) := t.c.def_ 12 (d := d_TooManyzz_initzz) rfl
theorem u_InvalidBookzz_initzz (t : TX K mg) : FunD K "__init__" "InvalidBook.__init__" (defArgs s_InvalidBookzz_initzz) (defBody s_InvalidBookzz_initzz) (defScope s_InvalidBookzz_initzz) [] [] (He.ma K (He.ga K "InvalidBook") "__init__") (fdAt K (He.ma K (He.ga K "InvalidBook") "__init__")) := t.c.def_ 13 (d := d_InvalidBookzz_initzz) rfl
theorem u_is_taken (t : TX K mg) : FunD K "is_taken" "is_taken" (defArgs s_is_taken) (defBody s_is_taken) (defScope s_is_taken) [] [] (He.ga K "is_taken") (fdAt K (He.ga K "is_taken")) := t.c.def_ 14 (d := d_is_taken) rfl
theorem u_is_crossed (t : TX K mg) : FunD K "is_crossed" "is_crossed" (defArgs s_is_crossed) (defBody s_is_crossed) (defScope s_is_crossed) [] [] (He.ga K "is_crossed") (fdAt K (He.ga K "is_crossed")) := t.c.def_ 15 (d := d_is_crossed) rfl
theorem u_is_same_size (t : TX K mg) : FunD K "is_same_size" "is_same_size" (defArgs s_is_same_size) (defBody s_is_same_size) (defScope s_is_same_size) [] [] (He.ga K "is_same_size") (fdAt K (He.ga K "is_same_size")) := t.c.def_ 16 (d := d_is_same_size) rfl
theorem u_has_wrong_mirror (t : TX K mg) : FunD K "has_wrong_mirror" "has_wrong_mirror" (defArgs s_has_wrong_mirror) (defBody s_has_wrong_mirror) (defScope s_has_wrong_mirror) [] [] (He.ga K "has_wrong_mirror") (fdAt K (He.ga K "has_wrong_mirror")) := t.c.def_ 17 (d := d_has_wrong_mirror) rfl
theorem u_has_wrong_back (t : TX K mg) : FunD K "has_wrong_back" "has_wrong_back" (defArgs s_has_wrong_back) (defBody s_has_wrong_back) (defScope s_has_wrong_back) [] [] (He.ga K "has_wrong_back") (fdAt K (He.ga K "has_wrong_back")) := t.c.def_ 18 (d := d_has_wrong_back) rfl
theorem u_check_kinds (t : TX K mg) : FunD K "check_kinds" "check_kinds" (defArgs s_check_kinds) (defBody s_check_kinds) (defScope s_check_kinds) [] [] (He.ga K "check_kinds") (fdAt K (He.ga K "check_kinds")) := t.c.def_ 19 (d := d_check_kinds) rfl
theorem u_Bookzz_initzz (t : TX K mg) : FunD K "__init__" "Book.__init__" (defArgs s_Bookzz_initzz) (defBody s_Bookzz_initzz) (defScope s_Bookzz_initzz) [] [] (He.ma K (He.ga K "Book") "__init__") (fdAt K (He.ma K (He.ga K "Book") "__init__")) := t.c.def_ 20 (d := d_Bookzz_initzz) rfl
theorem u__law_real_book (t : TX K mg) : FunD K "_law_real_book" "_law_real_book" (defArgs s__law_real_book) (defBody s__law_real_book) (defScope s__law_real_book) [] [] (He.ga K "_law_real_book") (fdAt K (He.ga K "_law_real_book")) := t.c.def_ 21 (d := d__law_real_book) rfl
theorem u__law_long (t : TX K mg) : FunD K "_law_long" "_law_long" (defArgs s__law_long) (defBody s__law_long) (defScope s__law_long) [] [] (He.ga K "_law_long") (fdAt K (He.ga K "_law_long")) := t.c.def_ 22 (d := d__law_long) rfl
theorem u_Bookzz_containszz (t : TX K mg) : FunD K "__contains__" "Book.__contains__" (defArgs s_Bookzz_containszz) (defBody s_Bookzz_containszz) (defScope s_Bookzz_containszz) [] [] (He.ma K (He.ga K "Book") "__contains__") (fdAt K (He.ma K (He.ga K "Book") "__contains__")) := t.c.def_ 23 (d := d_Bookzz_containszz) rfl
theorem u_Book_is_word (t : TX K mg) : FunD K "is_word" "Book.is_word" (defArgs s_Book_is_word) (defBody s_Book_is_word) (defScope s_Book_is_word) [] [] (He.ma K (He.ga K "Book") "is_word") (fdAt K (He.ma K (He.ga K "Book") "is_word")) := t.c.def_ 24 (d := d_Book_is_word) rfl
theorem u_InvalidWordzz_initzz (t : TX K mg) : FunD K "__init__" "InvalidWord.__init__" (defArgs s_InvalidWordzz_initzz) (defBody s_InvalidWordzz_initzz) (defScope s_InvalidWordzz_initzz) [] [] (He.ma K (He.ga K "InvalidWord") "__init__") (fdAt K (He.ma K (He.ga K "InvalidWord") "__init__")) := t.c.def_ 25 (d := d_InvalidWordzz_initzz) rfl
theorem u_Book_want_word (t : TX K mg) : FunD K "want_word" "Book.want_word" (defArgs s_Book_want_word) (defBody s_Book_want_word) (defScope s_Book_want_word) [] [] (He.ma K (He.ga K "Book") "want_word") (fdAt K (He.ma K (He.ga K "Book") "want_word")) := t.c.def_ 26 (d := d_Book_want_word) rfl
theorem u_yarn_needed (t : TX K mg) : FunD K "yarn_needed" "yarn_needed" (defArgs s_yarn_needed) (defBody s_yarn_needed) (defScope s_yarn_needed) [] [] (He.ga K "yarn_needed") (fdAt K (He.ga K "yarn_needed")) := t.c.def_ 27 (d := d_yarn_needed) rfl
theorem u_Book_yarn_of (t : TX K mg) : FunD K "yarn_of" "Book.yarn_of" (defArgs s_Book_yarn_of) (defBody s_Book_yarn_of) (defScope s_Book_yarn_of) [] [] (He.ma K (He.ga K "Book") "yarn_of") (fdAt K (He.ma K (He.ga K "Book") "yarn_of")) := t.c.def_ 28 (d := d_Book_yarn_of) rfl
theorem u_loops_made (t : TX K mg) : FunD K "loops_made" "loops_made" (defArgs s_loops_made) (defBody s_loops_made) (defScope s_loops_made) [] [] (He.ga K "loops_made") (fdAt K (He.ga K "loops_made")) := t.c.def_ 29 (d := d_loops_made) rfl
theorem u_Book_made (t : TX K mg) : FunD K "made" "Book.made" (defArgs s_Book_made) (defBody s_Book_made) (defScope s_Book_made) [] [] (He.ma K (He.ga K "Book") "made") (fdAt K (He.ma K (He.ga K "Book") "made")) := t.c.def_ 30 (d := d_Book_made) rfl
theorem u_loops_taken (t : TX K mg) : FunD K "loops_taken" "loops_taken" (defArgs s_loops_taken) (defBody s_loops_taken) (defScope s_loops_taken) [] [] (He.ga K "loops_taken") (fdAt K (He.ga K "loops_taken")) := t.c.def_ 31 (d := d_loops_taken) rfl
theorem u_Book_taken (t : TX K mg) : FunD K "taken" "Book.taken" (defArgs s_Book_taken) (defBody s_Book_taken) (defScope s_Book_taken) [] [] (He.ma K (He.ga K "Book") "taken") (fdAt K (He.ma K (He.ga K "Book") "taken")) := t.c.def_ 32 (d := d_Book_taken) rfl
theorem u__law_sums_right (t : TX K mg) : FunD K "_law_sums_right" "_law_sums_right" (defArgs s__law_sums_right) (defBody s__law_sums_right) (defScope s__law_sums_right) [] [] (He.ga K "_law_sums_right") (fdAt K (He.ga K "_law_sums_right")) := t.c.def_ 33 (d := d__law_sums_right) rfl
theorem u__law_backward (t : TX K mg) : FunD K "_law_backward" "_law_backward" (defArgs s__law_backward) (defBody s__law_backward) (defScope s__law_backward) [] [] (He.ga K "_law_backward") (fdAt K (He.ga K "_law_backward")) := t.c.def_ 34 (d := d__law_backward) rfl
theorem u__law_heard (t : TX K mg) : FunD K "_law_heard" "_law_heard" (defArgs s__law_heard) (defBody s__law_heard) (defScope s__law_heard) [] [] (He.ga K "_law_heard") (fdAt K (He.ga K "_law_heard")) := t.c.def_ 35 (d := d__law_heard) rfl
theorem u_NoBackzz_initzz (t : TX K mg) : FunD K "__init__" "NoBack.__init__" (defArgs s_NoBackzz_initzz) (defBody s_NoBackzz_initzz) (defScope s_NoBackzz_initzz) [] [] (He.ma K (He.ga K "NoBack") "__init__") (fdAt K (He.ma K (He.ga K "NoBack") "__init__")) := t.c.def_ 36 (d := d_NoBackzz_initzz) rfl
theorem u_names_behind (t : TX K mg) : FunD K "names_behind" "names_behind" (defArgs s_names_behind) (defBody s_names_behind) (defScope s_names_behind) [] [] (He.ga K "names_behind") (fdAt K (He.ga K "names_behind")) := t.c.def_ 37 (d := d_names_behind) rfl
theorem u_Book_turned (t : TX K mg) : FunD K "turned" "Book.turned" (defArgs s_Book_turned) (defBody s_Book_turned) (defScope s_Book_turned) [] [] (He.ma K (He.ga K "Book") "turned") (fdAt K (He.ma K (He.ga K "Book") "turned")) := t.c.def_ 38 (d := d_Book_turned) rfl
theorem u_NoMirrorzz_initzz (t : TX K mg) : FunD K "__init__" "NoMirror.__init__" (defArgs s_NoMirrorzz_initzz) (defBody s_NoMirrorzz_initzz) (defScope s_NoMirrorzz_initzz) [] [] (He.ma K (He.ga K "NoMirror") "__init__") (fdAt K (He.ma K (He.ga K "NoMirror") "__init__")) := t.c.def_ 39 (d := d_NoMirrorzz_initzz) rfl
theorem u_names_in_mirror (t : TX K mg) : FunD K "names_in_mirror" "names_in_mirror" (defArgs s_names_in_mirror) (defBody s_names_in_mirror) (defScope s_names_in_mirror) [] [] (He.ga K "names_in_mirror") (fdAt K (He.ga K "names_in_mirror")) := t.c.def_ 40 (d := d_names_in_mirror) rfl
theorem u_Book_mirrored (t : TX K mg) : FunD K "mirrored" "Book.mirrored" (defArgs s_Book_mirrored) (defBody s_Book_mirrored) (defScope s_Book_mirrored) [] [] (He.ma K (He.ga K "Book") "mirrored") (fdAt K (He.ma K (He.ga K "Book") "mirrored")) := t.c.def_ 41 (d := d_Book_mirrored) rfl
theorem u__law_turns_right (t : TX K mg) : FunD K "_law_turns_right" "_law_turns_right" (defArgs s__law_turns_right) (defBody s__law_turns_right) (defScope s__law_turns_right) [] [] (He.ga K "_law_turns_right") (fdAt K (He.ga K "_law_turns_right")) := t.c.def_ 42 (d := d__law_turns_right) rfl
theorem u_UnknownKindzz_initzz (t : TX K mg) : FunD K "__init__" "UnknownKind.__init__" (defArgs s_UnknownKindzz_initzz) (defBody s_UnknownKindzz_initzz) (defScope s_UnknownKindzz_initzz) [] [] (He.ma K (He.ga K "UnknownKind") "__init__") (fdAt K (He.ma K (He.ga K "UnknownKind") "__init__")) := t.c.def_ 43 (d := d_UnknownKindzz_initzz) rfl
theorem u_Book_kind (t : TX K mg) : FunD K "kind" "Book.kind" (defArgs s_Book_kind) (defBody s_Book_kind) (defScope s_Book_kind) [] [] (He.ma K (He.ga K "Book") "kind") (fdAt K (He.ma K (He.ga K "Book") "kind")) := t.c.def_ 44 (d := d_Book_kind) rfl
theorem u_Kindzz_eqzz (t : TX K mg) : FunD K "__eq__" "Kind.__eq__" (defArgs s_Kindzz_eqzz) (defBody s_Kindzz_eqzz) (defScope s_Kindzz_eqzz) [] [] (He.ma K (He.ga K "Kind") "__eq__") (fdAt K (He.ma K (He.ga K "Kind") "__eq__")) := t.c.def_ 45 (d := d_Kindzz_eqzz) rfl
theorem u__law_kinds_right (t : TX K mg) : FunD K "_law_kinds_right" "_law_kinds_right" (defArgs s__law_kinds_right) (defBody s__law_kinds_right) (defScope s__law_kinds_right) [] [] (He.ga K "_law_kinds_right") (fdAt K (He.ga K "_law_kinds_right")) := t.c.def_ 46 (d := d__law_kinds_right) rfl
theorem u__law_right (t : TX K mg) : FunD K "_law_right" "_law_right" (defArgs s__law_right) (defBody s__law_right) (defScope s__law_right) [] [] (He.ga K "_law_right") (fdAt K (He.ga K "_law_right")) := t.c.def_ 47 (d := d__law_right) rfl
theorem u__law_pot (t : TX K mg) : FunD K "_law_pot" "_law_pot" (defArgs s__law_pot) (defBody s__law_pot) (defScope s__law_pot) [] [] (He.ga K "_law_pot") (fdAt K (He.ga K "_law_pot")) := t.c.def_ 48 (d := d__law_pot) rfl
theorem u_law (t : TX K mg) : FunD K "law" "law" (defArgs s_law) (defBody s_law) (defScope s_law) [] [] (He.ga K "law") (fdAt K (He.ga K "law")) := t.c.def_ 49 (d := d_law) rfl
theorem b__law_draw (t : TX K mg) : Binds K (fdAt K (He.ga K "_law_draw")) ["_law_pot_here", "_law_many"] [] := FunD.bindsN (u__law_draw t) fun _ _ _ _ _ _ us hl => match us, hl with | [_, _], _ => rfl
theorem sc__law_draw : FnScope ["_law_pot_here", "_law_many", "_law_digit"] ["_law_pot_here", "_law_many"] (defScope s__law_draw) := ⟨rfl, rfl, rfl, by decide +kernel, rfl, by decide +kernel, by decide +kernel⟩
def g__law_draw : Slots → M Out := (seqS (ifS (testE (binE (pu iGt) (binE ixU (bvarE 0) (cE (.int 0))) (cE (.int 0)))) (seqS (potS2 0 2 (bltE dmF (consA (binE ixU (bvarE 0) (cE (.int 0))) (consA (bvarE 1) nilA))))
  (retS (varE 2))) nilS)
  (seqS (potS 0 (binE (pu iMod) (bltE (pu1 intF) (consA (binE addU (binE (pu iMul) (binE ixU (bvarE 0) (cE (.int 1))) (cE (.int 44203))) (cE (.int 15511))) nilA)) (cE (.int 2147483587))))
  (retS (binE (pu iMod) (bltE (pu1 intF) (consA (binE (pu iDiv) (binE (pu iMod) (bltE (pu1 intF) (consA (binE (pu iMul) (binE ixU (bvarE 0) (cE (.int 1))) (binE ixU (bvarE 0) (cE (.int 1)))) nilA)) (cE (.int 2147483549))) (cE (.int 11))) nilA)) (bvarE 1)))))
def m__law_draw : List D → M D := fnM 3 g__law_draw
theorem ok__law_draw (t : TX K mg) : FnG False P w K mg base (L2.CX P w) 1 (He.ga K "_law_draw") (fdAt K (He.ga K "_law_draw")) ["_law_pot_here", "_law_many"] (spF K (tbOf cls_ tabs_ K) 2 m__law_draw) :=
  fnD (st := s__law_draw) (N := ["_law_pot_here", "_law_many", "_law_digit"]) (ps := ["_law_pot_here", "_law_many"]) (k := 0) (g := g__law_draw) (u__law_draw t) sc__law_draw (by decide) fun cdv hcv A outer s H E p S hr =>
  (dss_cons (ds_if (dt_cmp od_iGt (db_of (de_ixU hr.room (db_var 0) (db_of de_int))) (db_of de_int)) (dss_cons (ds_pot2 (i := 0) (j := 2) rfl sc__law_draw.nd (de_blt cd_divmod (t.free 1) bo_divmod (dab_cons (db_of (de_ixU hr.room (db_var 0) (db_of de_int))) (dab_cons (db_var 1) dab_nil))))
  (dss_one (ds_ret (de_var 2)))) dss_nil)
  (dss_cons (ds_pot (i := 0) (de_op od_iMod (db_of (de_blt_ty cd_int (t.free 2) bo_int (dab_cons (db_of (de_op od_addU (db_of (de_op od_iMul (db_of (de_ixU hr.room (db_var 0) (db_of de_int))) (db_of de_int))) (db_of de_int))) dab_nil))) (db_of de_int)))
  (dss_one (ds_ret (de_op od_iMod (db_of (de_blt_ty cd_int (t.free 2) bo_int (dab_cons (db_of (de_op od_iDiv (db_of (de_op od_iMod (db_of (de_blt_ty cd_int (t.free 2) bo_int (dab_cons (db_of (de_op od_iMul (db_of (de_ixU hr.room (db_var 0) (db_of de_int))) (db_of (de_ixU hr.room (db_var 0) (db_of de_int))))) dab_nil))) (db_of de_int))) (db_of de_int))) dab_nil))) (db_var 1))))))
theorem b__law_mixed (t : TX K mg) : Binds K (fdAt K (He.ga K "_law_mixed")) ["_law_pot_here", "_law_given"] [] := FunD.bindsN (u__law_mixed t) fun _ _ _ _ _ _ us hl => match us, hl with | [_, _], _ => rfl
theorem sc__law_mixed : FnScope ["_law_pot_here", "_law_given", "_law_left", "_law_mixed_here", "_law_one"] ["_law_pot_here", "_law_given"] (defScope s__law_mixed) := ⟨rfl, rfl, rfl, by decide +kernel, rfl, by decide +kernel, by decide +kernel⟩
def g__law_mixed_b1 : Slots → M Out := (apPopS 3 2 (callE 2 m__law_draw [] (consA (varE 0) (consA (bltE (pu1 lenF) (consA (bvarE 2) nilA)) nilA))))
def g__law_mixed : Slots → M Out := (seqS (parLL 2 3 (bltE listF (consA (bvarE 1) nilA)))
  (seqS (forS (itE (varE 1)) (tgN 4) g__law_mixed_b1)
  (frzS 3 (retS (varE 3)))))
def m__law_mixed : List D → M D := fnM 5 g__law_mixed
theorem ok__law_mixed (t : TX K mg) : FnG False P w K mg base (L2.CX P w) 2 (He.ga K "_law_mixed") (fdAt K (He.ga K "_law_mixed")) ["_law_pot_here", "_law_given"] (spF K (tbOf cls_ tabs_ K) 2 m__law_mixed) :=
  fnD (st := s__law_mixed) (N := ["_law_pot_here", "_law_given", "_law_left", "_law_mixed_here", "_law_one"]) (ps := ["_law_pot_here", "_law_given"]) (k := 1) (g := g__law_mixed) (u__law_mixed t) sc__law_mixed (by decide) fun cdv hcv A outer s H E p S hr =>
  (dss_cons (ds_parLL (i := 2) (j := 3) rfl sc__law_mixed.nd (dl_blt_ty cn_list (t.free 0) bo_list (dab_cons (db_var 1) dab_nil)))
  (dss_cons (ds_for (passes_of rfl) rfl (di_val (de_var 1)) (dg_name (vs := [4]) sc__law_mixed.nd (by decide)) (dss_one (ds_apPop (i := 3) (j := 2) (de_call (ok__law_draw t) (hr.mono (by decide)) (takes_of rfl rfl rfl rfl) (t.glo 3) (u__law_draw t).kp (b__law_draw t) .nil cst_nil (da_cons (de_var 0) (da_cons (de_blt cd_len (t.free 4) bo_len (dab_cons (db_var 2) dab_nil)) da_nil))))))
  (dss_one (ds_frz 3 (ds_ret (de_var 3))))))
theorem b__law_pick (t : TX K mg) : Binds K (fdAt K (He.ga K "_law_pick")) ["_law_pot_here", "_law_some"] [] := FunD.bindsN (u__law_pick t) fun _ _ _ _ _ _ us hl => match us, hl with | [_, _], _ => rfl
theorem sc__law_pick : FnScope ["_law_pot_here", "_law_some"] ["_law_pot_here", "_law_some"] (defScope s__law_pick) := ⟨rfl, rfl, rfl, by decide +kernel, rfl, by decide +kernel, by decide +kernel⟩
def g__law_pick : Slots → M Out := (retS (binE ixU (bvarE 1) (callE 2 m__law_draw [] (consA (varE 0) (consA (bltE (pu1 lenF) (consA (bvarE 1) nilA)) nilA)))))
def m__law_pick : List D → M D := fnM 2 g__law_pick
theorem ok__law_pick (t : TX K mg) : FnG False P w K mg base (L2.CX P w) 2 (He.ga K "_law_pick") (fdAt K (He.ga K "_law_pick")) ["_law_pot_here", "_law_some"] (spF K (tbOf cls_ tabs_ K) 2 m__law_pick) :=
  fnD (st := s__law_pick) (N := ["_law_pot_here", "_law_some"]) (ps := ["_law_pot_here", "_law_some"]) (k := 1) (g := g__law_pick) (u__law_pick t) sc__law_pick (by decide) fun cdv hcv A outer s H E p S hr =>
  (dss_one (ds_ret (de_ixU hr.room (db_var 1) (db_of (de_call (ok__law_draw t) (hr.mono (by decide)) (takes_of rfl rfl rfl rfl) (t.glo 3) (u__law_draw t).kp (b__law_draw t) .nil cst_nil (da_cons (de_var 0) (da_cons (de_blt cd_len (t.free 4) bo_len (dab_cons (db_var 1) dab_nil)) da_nil)))))))
theorem b__law_group (t : TX K mg) : Binds K (fdAt K (He.ga K "_law_group")) ["_law_pot_here", "_law_names", "_law_shape", "_law_both_sides"] [] := FunD.bindsN (u__law_group t) fun _ _ _ _ _ _ us hl => match us, hl with | [_, _, _, _], _ => rfl
theorem sc__law_group : FnScope ["_law_pot_here", "_law_names", "_law_shape", "_law_both_sides", "_law_way", "_law_yarns", "_law_turn", "_law_a", "_law_b", "_law_c", "_law_d", "_law_rows", "_law_found", "_law_row", "_law_thread"] ["_law_pot_here", "_law_names", "_law_shape", "_law_both_sides"] (defScope s__law_group) := ⟨rfl, rfl, rfl, by decide +kernel, rfl, by decide +kernel, by decide +kernel⟩
def g__law_group_b1 : Slots → M Out := (appS 12 (tupE (consA (binE ixU (bvarE 13) (cE (.int 0))) (consA (binE addU (bvarE 2) (tupE (consA (binE ixU (bvarE 13) (cE (.int 1))) (consA (binE ixU (bvarE 13) (cE (.int 2))) (consA (varE 14) nilA))))) nilA))))
def g__law_group_s1 : Slots → M Out := (asgS 4 (ifE (testE (varE 3)) (callE 2 m__law_draw [] (consA (varE 0) (consA (cE (.int 4)) nilA))) (callE 2 m__law_draw [] (consA (varE 0) (consA (cE (.int 7)) nilA)))))
def g__law_group_s2 : Slots → M Out := (asgS 5 (boxE (compE (itA rng1 (consA (cE (.int 4)) nilA)) [6] (tgN 6) yesT (callE 2 m__law_draw [] (consA (varE 0) (consA (cE (.int 4)) nilA))))))
def g__law_group_s3 : Slots → M Out := (ifS (andT (testE (binE (pu dEq) (bvarE 4) (cE (.int 1)))) (testE (binE (pu iGe) (bltE (pu1 lenF) (consA (bvarE 1) nilA)) (cE (.int 4))))) (seqS (unpS (tgL [(tgN 7), (tgN 8), (tgN 9), (tgN 10)]) (tupE (consA (binE ixU (bvarE 1) (cE (.int 0))) (consA (binE ixU (bvarE 1) (cE (.int 1))) (consA (binE ixU (bvarE 1) (cE (.int 2))) (consA (binE ixU (bvarE 1) (cE (.int 3))) nilA))))))
  (asgS 11 (boxE (lenA (consA (tupE (consA (varE 7) (consA (varE 8) (consA (varE 9) nilA)))) (consA (tupE (consA (varE 8) (consA (varE 7) (consA (varE 10) nilA)))) (consA (tupE (consA (varE 9) (consA (varE 10) (consA (varE 7) nilA)))) (consA (tupE (consA (varE 10) (consA (varE 9) (consA (varE 8) nilA)))) nilA)))))))) (ifS (andT (testE (binE inU (bvarE 4) (tupE (consA (cE (.int 2)) (consA (cE (.int 3)) nilA))))) (testE (binE (pu iGe) (bltE (pu1 lenF) (consA (bvarE 1) nilA)) (cE (.int 2))))) (seqS (parS 7 8 (consA (binE ixU (bvarE 1) (cE (.int 0))) (consA (binE ixU (bvarE 1) (cE (.int 1))) nilA)))
  (asgS 11 (ifE (testE (binE (pu dEq) (bvarE 4) (cE (.int 2)))) (boxE (lenA (consA (tupE (consA (varE 7) (consA (varE 8) (consA (varE 7) nilA)))) (consA (tupE (consA (varE 8) (consA (varE 7) (consA (varE 8) nilA)))) nilA)))) (boxE (lenA (consA (tupE (consA (varE 7) (consA (varE 8) (consA (varE 8) nilA)))) (consA (tupE (consA (varE 8) (consA (varE 7) (consA (varE 7) nilA)))) nilA))))))) (ifS (andT (testE (binE (pu dEq) (bvarE 4) (cE (.int 4)))) (testE (binE (pu iGe) (bltE (pu1 lenF) (consA (bvarE 1) nilA)) (cE (.int 2))))) (asgS 11 (boxE (lenA (consA (tupE (consA (binE ixU (bvarE 1) (cE (.int 0))) (consA (cE .non) (consA (binE ixU (bvarE 1) (cE (.int 1))) nilA)))) (consA (tupE (consA (binE ixU (bvarE 1) (cE (.int 1))) (consA (cE .non) (consA (binE ixU (bvarE 1) (cE (.int 0))) nilA)))) nilA))))) (asgS 11 (boxE (lenA (consA (tupE (consA (binE ixU (bvarE 1) (cE (.int 0))) (consA (ifE (testE (binE (pu iLt) (bvarE 4) (cE (.int 5)))) (binE ixU (bvarE 1) (cE (.int 0))) (cE .non)) (consA (ifE (testE (binE (pu dNe) (bvarE 4) (cE (.int 6)))) (binE ixU (bvarE 1) (cE (.int 0))) (cE .non)) nilA)))) nilA)))))))
def g__law_group_s4 : Slots → M Out := (asgL 12 (lenA nilA))
def g__law_group_s5 : Slots → M Out := (forS (itA zipA (consA (varE 11) (consA (varE 5) nilA))) (tgT [(tgN 13), (tgN 14)]) g__law_group_b1)
def g__law_group_s6 : Slots → M Out := (frzS 12 (retS (varE 12)))
def g__law_group : Slots → M Out := (seqS g__law_group_s1
  (seqS g__law_group_s2
  (seqS g__law_group_s3
  (seqS g__law_group_s4
  (seqS g__law_group_s5
  g__law_group_s6)))))
def m__law_group : List D → M D := fnM 15 g__law_group
theorem ok__law_group (t : TX K mg) : FnG False P w K mg base (L2.CX P w) 2 (He.ga K "_law_group") (fdAt K (He.ga K "_law_group")) ["_law_pot_here", "_law_names", "_law_shape", "_law_both_sides"] (spF K (tbOf cls_ tabs_ K) 4 m__law_group) :=
  fnD (st := s__law_group) (N := ["_law_pot_here", "_law_names", "_law_shape", "_law_both_sides", "_law_way", "_law_yarns", "_law_turn", "_law_a", "_law_b", "_law_c", "_law_d", "_law_rows", "_law_found", "_law_row", "_law_thread"]) (ps := ["_law_pot_here", "_law_names", "_law_shape", "_law_both_sides"]) (k := 1) (g := g__law_group) (u__law_group t) sc__law_group (by decide) fun cdv hcv A outer s H E p S hr =>
  (dss_cons (ds_asg (i := 4) sc__law_group.nd (de_if (dt_val (de_var 3)) (de_call (ok__law_draw t) (hr.mono (by decide)) (takes_of rfl rfl rfl rfl) (t.glo 3) (u__law_draw t).kp (b__law_draw t) .nil cst_nil (da_cons (de_var 0) (da_cons de_int da_nil))) (de_call (ok__law_draw t) (hr.mono (by decide)) (takes_of rfl rfl rfl rfl) (t.glo 3) (u__law_draw t).kp (b__law_draw t) .nil cst_nil (da_cons (de_var 0) (da_cons de_int da_nil)))))
  (dss_cons (ds_box (ps_lc (i := 5) rfl sc__law_group.nd rfl rfl rfl (own := [(("_law_turn" : Str), 6)]) (di_range1 (dab_cons (db_of de_int) dab_nil) (t.free 7)) (blkOk_by (by kernel_rfl)) (fun l s H C cl fp => (dg_name (vs := [6]) sc__law_group.nd (by decide))) (fun l s H C cl fp => dts_nil) (fun l s H C cl fp => (de_call (ok__law_draw t) (hr.mono (by decide)) takes0 (t.glo 3) (u__law_draw t).kp (b__law_draw t) .nil cst_nil (da_cons (de_var 0) (da_cons de_int da_nil))))))
  (dss_cons (ds_if ((dw_and (dt_cmp (od_dEq hr.room) (db_var 4) (db_of de_int)) (dw_and1 (dt_cmp od_iGe (db_of (de_blt cd_len (t.free 4) bo_len (dab_cons (db_var 1) dab_nil))) (db_of de_int))))).pt (dss_cons (ds_unp (de_tup (da_cons (de_ixU hr.room (db_var 1) (db_of de_int)) (da_cons (de_ixU hr.room (db_var 1) (db_of de_int)) (da_cons (de_ixU hr.room (db_var 1) (db_of de_int)) (da_cons (de_ixU hr.room (db_var 1) (db_of de_int)) da_nil))))) (dg_seq rfl (dgs_cons (dg_name (vs := [7, 8, 9, 10]) sc__law_group.nd (by decide)) (dgs_cons (dg_name (vs := [7, 8, 9, 10]) sc__law_group.nd (by decide)) (dgs_cons (dg_name (vs := [7, 8, 9, 10]) sc__law_group.nd (by decide)) (dgs_cons (dg_name (vs := [7, 8, 9, 10]) sc__law_group.nd (by decide)) dgs_nil))))))
  (dss_one (ds_asg (i := 11) sc__law_group.nd (de_box (dl_lst (da_cons (de_tup (da_cons (de_var 7) (da_cons (de_var 8) (da_cons (de_var 9) da_nil)))) (da_cons (de_tup (da_cons (de_var 8) (da_cons (de_var 7) (da_cons (de_var 10) da_nil)))) (da_cons (de_tup (da_cons (de_var 9) (da_cons (de_var 10) (da_cons (de_var 7) da_nil)))) (da_cons (de_tup (da_cons (de_var 10) (da_cons (de_var 9) (da_cons (de_var 8) da_nil)))) da_nil))))))))) (dss_one (ds_if ((dw_and (dt_cmp (od_inU hr.room) (db_var 4) (db_of (de_tup (da_cons de_int (da_cons de_int da_nil))))) (dw_and1 (dt_cmp od_iGe (db_of (de_blt cd_len (t.free 4) bo_len (dab_cons (db_var 1) dab_nil))) (db_of de_int))))).pt (dss_cons (ds_par (i := 7) (j := 8) rfl sc__law_group.nd (da_cons (de_ixU hr.room (db_var 1) (db_of de_int)) (da_cons (de_ixU hr.room (db_var 1) (db_of de_int)) da_nil)))
  (dss_one (ds_asg (i := 11) sc__law_group.nd (de_if (dt_cmp (od_dEq hr.room) (db_var 4) (db_of de_int)) (de_box (dl_lst (da_cons (de_tup (da_cons (de_var 7) (da_cons (de_var 8) (da_cons (de_var 7) da_nil)))) (da_cons (de_tup (da_cons (de_var 8) (da_cons (de_var 7) (da_cons (de_var 8) da_nil)))) da_nil)))) (de_box (dl_lst (da_cons (de_tup (da_cons (de_var 7) (da_cons (de_var 8) (da_cons (de_var 8) da_nil)))) (da_cons (de_tup (da_cons (de_var 8) (da_cons (de_var 7) (da_cons (de_var 7) da_nil)))) da_nil)))))))) (dss_one (ds_if ((dw_and (dt_cmp (od_dEq hr.room) (db_var 4) (db_of de_int)) (dw_and1 (dt_cmp od_iGe (db_of (de_blt cd_len (t.free 4) bo_len (dab_cons (db_var 1) dab_nil))) (db_of de_int))))).pt (dss_one (ds_asg (i := 11) sc__law_group.nd (de_box (dl_lst (da_cons (de_tup (da_cons (de_ixU hr.room (db_var 1) (db_of de_int)) (da_cons de_non (da_cons (de_ixU hr.room (db_var 1) (db_of de_int)) da_nil)))) (da_cons (de_tup (da_cons (de_ixU hr.room (db_var 1) (db_of de_int)) (da_cons de_non (da_cons (de_ixU hr.room (db_var 1) (db_of de_int)) da_nil)))) da_nil)))))) (dss_one (ds_asg (i := 11) sc__law_group.nd (de_box (dl_lst (da_cons (de_tup (da_cons (de_ixU hr.room (db_var 1) (db_of de_int)) (da_cons (de_if (dt_cmp od_iLt (db_var 4) (db_of de_int)) (de_ixU hr.room (db_var 1) (db_of de_int)) de_non) (da_cons (de_if (dt_cmp (od_dNe hr.room) (db_var 4) (db_of de_int)) (de_ixU hr.room (db_var 1) (db_of de_int)) de_non) da_nil)))) da_nil))))))))))
  (dss_cons (ds_asgL (i := 12) sc__law_group.nd (dl_lst da_nil))
  (dss_cons (ds_for (passes_of rfl) rfl (di_zip (da_cons (de_var 11) (da_cons (de_var 5) da_nil)) (t.free 8)) (dg_tup rfl (dgs_cons (dg_name (vs := [13, 14]) sc__law_group.nd (by decide)) (dgs_cons (dg_name (vs := [13, 14]) sc__law_group.nd (by decide)) dgs_nil))) (dss_one (ds_app (i := 12) (de_tup (da_cons (de_ixU hr.room (db_var 13) (db_of de_int)) (da_cons (de_op od_addU (db_var 2) (db_of (de_tup (da_cons (de_ixU hr.room (db_var 13) (db_of de_int)) (da_cons (de_ixU hr.room (db_var 13) (db_of de_int)) (da_cons (de_var 14) da_nil)))))) da_nil))))))
  (dss_one (ds_frz 12 (ds_ret (de_var 12)))))))))
theorem b__law_book (t : TX K mg) : Binds K (fdAt K (He.ga K "_law_book")) ["_law_pot_here", "_law_both_sides"] [] := FunD.bindsN (u__law_book t) fun _ _ _ _ _ _ us hl => match us, hl with | [_, _], _ => rfl
theorem sc__law_book : FnScope ["_law_pot_here", "_law_both_sides", "_law_names", "_law_found", "_law_shapes", "_law_shape", "_law_some"] ["_law_pot_here", "_law_both_sides"] (defScope s__law_book) := ⟨rfl, rfl, rfl, by decide +kernel, rfl, by decide +kernel, by decide +kernel⟩
def g__law_book_b1 : Slots → M Out := (seqS (asgS 5 (ifE (testE (binE (pu eq0D) (bvarE 3) (cE (.dct [])))) (tupE (consA (cE (.int 1)) (consA (cE (.int 1)) nilA))) (callE 2 m__law_pick [] (consA (varE 0) (consA (varE 4) nilA)))))
  (seqS (asgS 6 (callE 4 m__law_group [] (consA (varE 0) (consA (varE 2) (consA (varE 5) (consA (varE 1) nilA))))))
  (seqS (updS 3 (mkDE (varE 6)))
  (asgS 2 (slE (bvarE 2) (soO (bltE (pu1 lenF) (consA (bvarE 6) nilA))) noO)))))
def g__law_book_b2 : Slots → M Bool := (testE (binE (pu dNe) (bvarE 2) (boxE (lenA nilA))))
def g__law_book_s1 : Slots → M Out := (parVD 2 3 (callE 2 m__law_mixed [] (consA (varE 0) (consA (boxE (lenA (consA (cE (.str "k")) (consA (cE (.str "p")) (consA (cE (.str "yo")) (consA (cE (.str "ktog")) (consA (cE (.str "ssk")) (consA (cE (.str "zz")) (consA (cE (.str "abcdefgh")) (consA (cE (.str "a")) (consA (cE (.str "end")) (consA (cE (.str "to")) nilA)))))))))))) nilA))))
def g__law_book_s2 : Slots → M Out := (asgS 4 (boxE (lenA (consA (tupE (consA (cE (.int 2)) (consA (cE (.int 1)) nilA))) (consA (tupE (consA (cE (.int 0)) (consA (cE (.int 1)) nilA))) (consA (tupE (consA (cE (.int 1)) (consA (cE (.int 2)) nilA))) (consA (tupE (consA (cE (.int 1)) (consA (cE (.int 0)) nilA))) (consA (tupE (consA (cE (.int 3)) (consA (cE (.int 1)) nilA))) (consA (tupE (consA (cE (.int 1)) (consA (cE (.int 1)) nilA))) (consA (tupE (consA (cE (.int 2)) (consA (cE (.int 2)) nilA))) (consA (tupE (consA (cE (.int 6)) (consA (cE (.int 5)) nilA))) nilA)))))))))))
def g__law_book_s3 : Slots → M Out := (whileL g__law_book_b2 g__law_book_b1 11)
def g__law_book_s4 : Slots → M Out := (frzDS 3 (retS (varE 3)))
def g__law_book : Slots → M Out := (seqS g__law_book_s1
  (seqS g__law_book_s2
  (seqS g__law_book_s3
  g__law_book_s4)))
def m__law_book : List D → M D := fnM 7 g__law_book
theorem ok__law_book (t : TX K mg) : FnG False P w K mg base (L2.CX P w) 3 (He.ga K "_law_book") (fdAt K (He.ga K "_law_book")) ["_law_pot_here", "_law_both_sides"] (spF K (tbOf cls_ tabs_ K) 2 m__law_book) :=
  fnD (st := s__law_book) (N := ["_law_pot_here", "_law_both_sides", "_law_names", "_law_found", "_law_shapes", "_law_shape", "_law_some"]) (ps := ["_law_pot_here", "_law_both_sides"]) (k := 2) (g := g__law_book) (u__law_book t) sc__law_book (by decide) fun cdv hcv A outer s H E p S hr =>
  (dss_cons (ds_parVD (i := 2) (j := 3) rfl sc__law_book.nd (de_call (ok__law_mixed t) (hr.mono (by decide)) (takes_of rfl rfl rfl rfl) (t.glo 5) (u__law_mixed t).kp (b__law_mixed t) .nil cst_nil (da_cons (de_var 0) (da_cons (de_box (dl_lst (da_cons de_str (da_cons de_str (da_cons de_str (da_cons de_str (da_cons de_str (da_cons de_str (da_cons de_str (da_cons de_str (da_cons de_str (da_cons de_str da_nil)))))))))))) da_nil))))
  (dss_cons (ds_asg (i := 4) sc__law_book.nd (de_box (dl_lst (da_cons (de_tup (da_cons de_int (da_cons de_int da_nil))) (da_cons (de_tup (da_cons de_int (da_cons de_int da_nil))) (da_cons (de_tup (da_cons de_int (da_cons de_int da_nil))) (da_cons (de_tup (da_cons de_int (da_cons de_int da_nil))) (da_cons (de_tup (da_cons de_int (da_cons de_int da_nil))) (da_cons (de_tup (da_cons de_int (da_cons de_int da_nil))) (da_cons (de_tup (da_cons de_int (da_cons de_int da_nil))) (da_cons (de_tup (da_cons de_int (da_cons de_int da_nil))) da_nil)))))))))))
  (dss_cons (ds_while 11 (passes_of rfl) (dt_cmp (od_dNe hr.room) (db_var 2) (db_of (de_box (dl_lst da_nil)))) (dss_cons (ds_asg (i := 5) sc__law_book.nd (de_if (dt_cmp (od_eq0 hr.room) (db_var 3) (db_of de_dct0)) (de_tup (da_cons de_int (da_cons de_int da_nil))) (de_call (ok__law_pick t) (hr.mono (by decide)) (takes_of rfl rfl rfl rfl) (t.glo 6) (u__law_pick t).kp (b__law_pick t) .nil cst_nil (da_cons (de_var 0) (da_cons (de_var 4) da_nil)))))
  (dss_cons (ds_asg (i := 6) sc__law_book.nd (de_call (ok__law_group t) (hr.mono (by decide)) (takes_of rfl rfl rfl rfl) (t.glo 9) (u__law_group t).kp (b__law_group t) .nil cst_nil (da_cons (de_var 0) (da_cons (de_var 2) (da_cons (de_var 5) (da_cons (de_var 1) da_nil))))))
  (dss_cons (ds_upd (i := 3) (dd_dict rfl (de_var 6) (t.free 10)))
  (dss_one (ds_asg (i := 2) sc__law_book.nd (de_slice (db_var 2) (do_some (db_of (de_blt cd_len (t.free 4) bo_len (dab_cons (db_var 6) dab_nil)))) do_none)))))))
  (dss_one (ds_frzD 3 (ds_ret (de_var 3)))))))
theorem b_is_name (t : TX K mg) : Binds K (fdAt K (He.ga K "is_name")) ["value"] [] := FunD.bindsN (u_is_name t) fun _ _ _ _ _ _ us hl => match us, hl with | [_], _ => rfl
theorem sc_is_name : FnScope ["value", "sign"] ["value"] (defScope s_is_name) := ⟨rfl, rfl, rfl, by decide +kernel, rfl, by decide +kernel, by decide +kernel⟩
def g_is_name : Slots → M Out := (retS (andE (isiE 2 (ansOf ["str"] [false, false, false, false, false, false, false, false, false, false, false]) (bvarE 0)) (andE (chI (fun i j => decide (i ≤ j)) (fun i j => decide (i ≤ j)) (cE (.int 1)) (bltE (pu1 lenF) (consA (bvarE 0) nilA)) (cE (.int 8))) (bltE (pu1 allF) (consA (boxE (compE (itE (varE 0)) [1] (tgN 1) yesT (binE inU (bvarE 1) (cE (.str "abcdefghijklmnopqrstuvwxyz"))))) nilA)))))
def m_is_name : List D → M D := fnM 2 g_is_name
theorem ok_is_name (t : TX K mg) : FnG False P w K mg base (L2.CX P w) 1 (He.ga K "is_name") (fdAt K (He.ga K "is_name")) ["value"] (spF K (tbOf cls_ tabs_ K) 1 m_is_name) :=
  fnD (st := s_is_name) (N := ["value", "sign"]) (ps := ["value"]) (k := 0) (g := g_is_name) (u_is_name t) sc_is_name (by decide) fun cdv hcv A outer s H E p S hr =>
  (dss_one (ds_ret (de_and (de_isi (hCs t) (db_var 0) (pe_bty (t.free 12) bo_str) (.ty _) (t.isi (cs := cls_) (tf := tabs_) (u := fun _ => .type "str") 13 rfl) (t.free 16) bo_isinstance) (de_and (de_ch op_le op_le de_int (de_blt cd_len (t.free 4) bo_len (dab_cons (db_var 0) dab_nil)) (de_gint (t.gint 17))) (de_one (de_blt (cd_all rfl) (t.free 19) bo_all (dab_cons (db_of (de_box (dl_lc rfl sc_is_name.nd (own := [(("sign" : Str), 1)]) (di_val (de_var 0)) (blkOk_by (by kernel_rfl)) (fun l s H C cl fp => (dg_name (vs := [1]) sc_is_name.nd (by decide))) (fun l s H C cl fp => dts_nil) (fun l s H C cl fp => (de_cmp (od_inU hr.room) (db_var 1) (db_of (de_gstr (t.gstr 18)))))))) dab_nil)))))))
theorem b_InvalidNamezz_initzz (t : TX K mg) : Binds K (fdAt K (He.ma K (He.ga K "InvalidName") "__init__")) ["self", "value"] [] := FunD.bindsN (u_InvalidNamezz_initzz t) fun _ _ _ _ _ _ us hl => match us, hl with | [_, _], _ => rfl
theorem sc_InvalidNamezz_initzz : FnScope ["self", "value"] ["self", "value"] (defScope s_InvalidNamezz_initzz) := ⟨rfl, rfl, rfl, by decide +kernel, rfl, by decide +kernel, by decide +kernel⟩
theorem ok_InvalidNamezz_initzz (t : TX K mg) : FnOk P w K mg base (L2.CX P w) 1 (He.ma K (He.ga K "InvalidName") "__init__") (fdAt K (He.ma K (He.ga K "InvalidName") "__init__")) ["self", "value"] (spX (tbOf cls_ tabs_ K) 2) :=
  fnX1 (T := tbOf cls_ tabs_ K) (ec := 2) (u_InvalidNamezz_initzz t) sc_InvalidNamezz_initzz (t.oex 21) rfl (t.noat 22) fun cdv A outer s H E => pss_one (ps_xst (pv 0) (pv 1))
theorem b_is_integer (t : TX K mg) : Binds K (fdAt K (He.ga K "is_integer")) ["value"] [] := FunD.bindsN (u_is_integer t) fun _ _ _ _ _ _ us hl => match us, hl with | [_], _ => rfl
theorem sc_is_integer : FnScope ["value"] ["value"] (defScope s_is_integer) := ⟨rfl, rfl, rfl, by decide +kernel, rfl, by decide +kernel, by decide +kernel⟩
def g_is_integer : Slots → M Out := (retS (andE (isiE 2 (ansOf ["int", "bool"] [false, false, false, false, false, false, false, false, false, false, false]) (bvarE 0)) (notE (isiE 2 (ansOf ["bool"] [false, false, false, false, false, false, false, false, false, false, false]) (bvarE 0)))))
def m_is_integer : List D → M D := fnM 1 g_is_integer
theorem ok_is_integer (t : TX K mg) : FnG False P w K mg base (L2.CX P w) 1 (He.ga K "is_integer") (fdAt K (He.ga K "is_integer")) ["value"] (spF K (tbOf cls_ tabs_ K) 1 m_is_integer) :=
  fnD (st := s_is_integer) (N := ["value"]) (ps := ["value"]) (k := 0) (g := g_is_integer) (u_is_integer t) sc_is_integer (by decide) fun cdv hcv A outer s H E p S hr =>
  (dss_one (ds_ret (de_and (de_isi (hCs t) (db_var 0) (pe_bty (t.free 2) bo_int) (.ty _) (t.isi (cs := cls_) (tf := tabs_) (u := fun _ => .type "int") 27 rfl) (t.free 16) bo_isinstance) (de_one (de_not (de_isi (hCs t) (db_var 0) (pe_bty (t.free 28) bo_bool) (.ty _) (t.isi (cs := cls_) (tf := tabs_) (u := fun _ => .type "bool") 29 rfl) (t.free 16) bo_isinstance))))))
theorem b_is_within (t : TX K mg) : Binds K (fdAt K (He.ga K "is_within")) ["value", "low", "high"] [] := FunD.bindsN (u_is_within t) fun _ _ _ _ _ _ us hl => match us, hl with | [_, _, _], _ => rfl
theorem sc_is_within : FnScope ["value", "low", "high"] ["value", "low", "high"] (defScope s_is_within) := ⟨rfl, rfl, rfl, by decide +kernel, rfl, by decide +kernel, by decide +kernel⟩
def g_is_within : Slots → M Out := (retS (andE (callE 1 m_is_integer [] (consA (varE 0) nilA)) (chI (fun i j => decide (i ≤ j)) (fun i j => decide (i ≤ j)) (varE 1) (varE 0) (varE 2))))
def m_is_within : List D → M D := fnM 3 g_is_within
theorem ok_is_within (t : TX K mg) : FnG False P w K mg base (L2.CX P w) 2 (He.ga K "is_within") (fdAt K (He.ga K "is_within")) ["value", "low", "high"] (spF K (tbOf cls_ tabs_ K) 3 m_is_within) :=
  fnD (st := s_is_within) (N := ["value", "low", "high"]) (ps := ["value", "low", "high"]) (k := 1) (g := g_is_within) (u_is_within t) sc_is_within (by decide) fun cdv hcv A outer s H E p S hr =>
  (dss_one (ds_ret (de_and (de_call (ok_is_integer t) (hr.mono (by decide)) (takes_of rfl rfl rfl rfl) (t.glo 30) (u_is_integer t).kp (b_is_integer t) .nil cst_nil (da_cons (de_var 0) da_nil)) (de_one (de_ch op_le op_le (de_var 1) (de_var 0) (de_var 2))))))
theorem b_InvalidNumberzz_initzz (t : TX K mg) : Binds K (fdAt K (He.ma K (He.ga K "InvalidNumber") "__init__")) ["self", "value"] [] := FunD.bindsN (u_InvalidNumberzz_initzz t) fun _ _ _ _ _ _ us hl => match us, hl with | [_, _], _ => rfl
theorem sc_InvalidNumberzz_initzz : FnScope ["self", "value"] ["self", "value"] (defScope s_InvalidNumberzz_initzz) := ⟨rfl, rfl, rfl, by decide +kernel, rfl, by decide +kernel, by decide +kernel⟩
theorem ok_InvalidNumberzz_initzz (t : TX K mg) : FnOk P w K mg base (L2.CX P w) 1 (He.ma K (He.ga K "InvalidNumber") "__init__") (fdAt K (He.ma K (He.ga K "InvalidNumber") "__init__")) ["self", "value"] (spX (tbOf cls_ tabs_ K) 3) :=
  fnX1 (T := tbOf cls_ tabs_ K) (ec := 3) (u_InvalidNumberzz_initzz t) sc_InvalidNumberzz_initzz (t.oex 32) rfl (t.noat 33) fun cdv A outer s H E => pss_one (ps_xst (pv 0) (pv 1))
theorem b_InvalidKindzz_initzz (t : TX K mg) : Binds K (fdAt K (He.ma K (He.ga K "InvalidKind") "__init__")) ["self", "value"] [] := FunD.bindsN (u_InvalidKindzz_initzz t) fun _ _ _ _ _ _ us hl => match us, hl with | [_, _], _ => rfl
theorem sc_InvalidKindzz_initzz : FnScope ["self", "value"] ["self", "value"] (defScope s_InvalidKindzz_initzz) := ⟨rfl, rfl, rfl, by decide +kernel, rfl, by decide +kernel, by decide +kernel⟩
theorem ok_InvalidKindzz_initzz (t : TX K mg) : FnOk P w K mg base (L2.CX P w) 1 (He.ma K (He.ga K "InvalidKind") "__init__") (fdAt K (He.ma K (He.ga K "InvalidKind") "__init__")) ["self", "value"] (spX (tbOf cls_ tabs_ K) 4) :=
  fnX1 (T := tbOf cls_ tabs_ K) (ec := 4) (u_InvalidKindzz_initzz t) sc_InvalidKindzz_initzz (t.oex 36) rfl (t.noat 37) fun cdv A outer s H E => pss_one (ps_xst (pv 0) (pv 1))
theorem kb_Kindzz_initzz_4_back_mirror_yarn (t : TX K mg) : ∃ mv : List Value, KBn K (fdAt K (He.ma K (He.ga K "Kind") "__init__")) ["self", "name", "takes", "makes", "back", "mirror", "yarn"] 4 ["back", "mirror", "yarn"] (fun us ws => us ++ pick [(true, 0), (true, 1), (true, 2)] mv ws) (fun vs zs => vs ++ pick [(true, 0), (true, 1), (true, 2)] [] zs) := FunD.kbinds0 (u_Kindzz_initzz t) 4 ["back", "mirror", "yarn"] [] (fun us mv ws => us ++ pick [(true, 0), (true, 1), (true, 2)] mv ws) (by intro e; cases e) (by intro q hq; simp at hq; try (rcases hq with rfl | hq <;> simp_all)) (fun r1 r2 r3 => r1.append (vals_pick r2 r3 _)) fun D doc pm an cdv ct us mv ws h1 h2 h3 => match us, mv, ws, h1, h2, h3 with | [_, _, _, _], [], [_, _, _], _, _, _ => rfl
theorem sc_Kindzz_initzz : FnScope ["self", "name", "takes", "makes", "back", "mirror", "yarn", "value", "most"] ["self", "name", "takes", "makes", "back", "mirror", "yarn"] (defScope s_Kindzz_initzz) := ⟨rfl, rfl, rfl, by decide +kernel, rfl, by decide +kernel, by decide +kernel⟩
def g_Kindzz_initzz_b1 : Slots → M Out := (ifS (andT (testE (binE (pu notN) (bvarE 7) (cE .non))) (notT (testE (callE 1 m_is_name [] (consA (varE 7) nilA))))) (raiS 2 1 (consA (varE 7) nilA)) nilS)
def g_Kindzz_initzz_b2 : Slots → M Out := (ifS (notT (testE (callE 3 m_is_within [] (consA (varE 7) (consA (cE (.int 0)) (consA (varE 8) nilA)))))) (raiS 3 1 (consA (varE 7) nilA)) nilS)
def g_Kindzz_initzz : Slots → M Out := (seqS (ifS (notT (testE (callE 1 m_is_name [] (consA (varE 1) nilA)))) (raiS 2 1 (consA (varE 1) nilA)) nilS)
  (seqS (forS (itE (tupE (consA (varE 4) (consA (varE 5) nilA)))) (tgN 7) g_Kindzz_initzz_b1)
  (seqS (forS (itE (tupE (consA (tupE (consA (varE 2) (consA (cE (.int 6)) nilA))) (consA (tupE (consA (varE 3) (consA (cE (.int 6)) nilA))) (consA (tupE (consA (varE 6) (consA (cE (.int 999)) nilA))) nilA))))) (tgT [(tgN 7), (tgN 8)]) g_Kindzz_initzz_b2)
  (seqS (ifS (andT (testE (binE (pu dEq) (bvarE 2) (cE (.int 0)))) (testE (binE (pu dEq) (bvarE 3) (cE (.int 0))))) (raiS 4 1 (consA (varE 1) nilA)) nilS)
  (seqS (fldS 0 0 0 (varE 1))
  (seqS (fldS 0 0 1 (varE 2))
  (seqS (fldS 0 0 2 (varE 3))
  (seqS (fldS 0 0 3 (varE 4))
  (seqS (fldS 0 0 4 (varE 5))
  (fldS 0 0 5 (varE 6)))))))))))
def m_Kindzz_initzz : List D → M (List D) := iniM 0 6 8 g_Kindzz_initzz
theorem ok_Kindzz_initzz (t : TX K mg) : FnG False P w K mg base (L2.CX P w) 3 (He.ma K (He.ga K "Kind") "__init__") (fdAt K (He.ma K (He.ga K "Kind") "__init__")) ["self", "name", "takes", "makes", "back", "mirror", "yarn"] (spI K (tbOf cls_ tabs_ K) 0 7 m_Kindzz_initzz) :=
  fnI (st := s_Kindzz_initzz) (y := "self") (N := ["name", "takes", "makes", "back", "mirror", "yarn", "value", "most"]) (ps := ["name", "takes", "makes", "back", "mirror", "yarn"]) (k := 2) (kc := 0) (g := g_Kindzz_initzz) (u_Kindzz_initzz t) sc_Kindzz_initzz (by decide) (fun cdv hcv A outer s H H0 E p me S hr =>
  (dss_cons (ds_if (dt_not (dt_val (de_call (ok_is_name t) (hr.mono (by decide)) (takes_of rfl rfl rfl rfl) (t.glo 20) (u_is_name t).kp (b_is_name t) .nil cst_nil (da_cons (de_var 1) da_nil)))) (dss_one (ds_raise (ec := 2) (takes_of rfl rfl rfl rfl) (t.oex 21) (t.meth 23) (ok_InvalidNamezz_initzz t) (hr.room.mono (by decide)) (b_InvalidNamezz_initzz t) (t.glo 24) rfl (da_cons (de_var 1) da_nil))) dss_nil)
  (dss_cons (ds_for (passes_of rfl) rfl (di_val (de_tup (da_cons (de_var 4) (da_cons (de_var 5) da_nil)))) (dg_name (vs := [7]) sc_Kindzz_initzz.nd (by decide)) (dss_one (ds_if ((dw_and (dt_cmp od_notN (db_var 7) (db_of de_non)) (dw_and1 (dt_not (dt_val (de_call (ok_is_name t) (hr.mono (by decide)) (takes_of rfl rfl rfl rfl) (t.glo 20) (u_is_name t).kp (b_is_name t) .nil cst_nil (da_cons (de_var 7) da_nil))))))).pt (dss_one (ds_raise (ec := 2) (takes_of rfl rfl rfl rfl) (t.oex 21) (t.meth 23) (ok_InvalidNamezz_initzz t) (hr.room.mono (by decide)) (b_InvalidNamezz_initzz t) (t.glo 24) rfl (da_cons (de_var 7) da_nil))) dss_nil)))
  (dss_cons (ds_for (passes_of rfl) rfl (di_val (de_tup (da_cons (de_tup (da_cons (de_var 2) (da_cons (de_gint (t.gint 26)) da_nil))) (da_cons (de_tup (da_cons (de_var 3) (da_cons (de_gint (t.gint 26)) da_nil))) (da_cons (de_tup (da_cons (de_var 6) (da_cons (de_gint (t.gint 25)) da_nil))) da_nil))))) (dg_tup rfl (dgs_cons (dg_name (vs := [7, 8]) sc_Kindzz_initzz.nd (by decide)) (dgs_cons (dg_name (vs := [7, 8]) sc_Kindzz_initzz.nd (by decide)) dgs_nil))) (dss_one (ds_if (dt_not (dt_val (de_call (ok_is_within t) (hr.mono (by decide)) (takes_of rfl rfl rfl rfl) (t.glo 31) (u_is_within t).kp (b_is_within t) .nil cst_nil (da_cons (de_var 7) (da_cons de_int (da_cons (de_var 8) da_nil)))))) (dss_one (ds_raise (ec := 3) (takes_of rfl rfl rfl rfl) (t.oex 32) (t.meth 34) (ok_InvalidNumberzz_initzz t) (hr.room.mono (by decide)) (b_InvalidNumberzz_initzz t) (t.glo 35) rfl (da_cons (de_var 7) da_nil))) dss_nil)))
  (dss_cons (ds_if ((dw_and (dt_cmp (od_dEq hr.room) (db_var 2) (db_of de_int)) (dw_and1 (dt_cmp (od_dEq hr.room) (db_var 3) (db_of de_int))))).pt (dss_one (ds_raise (ec := 4) (takes_of rfl rfl rfl rfl) (t.oex 36) (t.meth 38) (ok_InvalidKindzz_initzz t) (hr.room.mono (by decide)) (b_InvalidKindzz_initzz t) (t.glo 39) rfl (da_cons (de_var 1) da_nil))) dss_nil)
  (dss_cons (ds_fld (i := 0) (kc := 0) (ix := 0) (de_var 1) rfl (t.cls 41) (t.noat 40) nd_Kind rfl (show 6 < 1000 by decide))
  (dss_cons (ds_fld (i := 0) (kc := 0) (ix := 1) (de_var 2) rfl (t.cls 41) (t.noat 42) nd_Kind rfl (show 6 < 1000 by decide))
  (dss_cons (ds_fld (i := 0) (kc := 0) (ix := 2) (de_var 3) rfl (t.cls 41) (t.noat 43) nd_Kind rfl (show 6 < 1000 by decide))
  (dss_cons (ds_fld (i := 0) (kc := 0) (ix := 3) (de_var 4) rfl (t.cls 41) (t.noat 44) nd_Kind rfl (show 6 < 1000 by decide))
  (dss_cons (ds_fld (i := 0) (kc := 0) (ix := 4) (de_var 5) rfl (t.cls 41) (t.noat 45) nd_Kind rfl (show 6 < 1000 by decide))
  (dss_one (ds_fld (i := 0) (kc := 0) (ix := 5) (de_var 6) rfl (t.cls 41) (t.noat 46) nd_Kind rfl (show 6 < 1000 by decide))))))))))))) rfl
theorem b_TooManyzz_initzz (t : TX K mg) : Binds K (fdAt K (He.ma K (He.ga K "TooMany") "__init__")) ["self", "what", "limit"] [] := FunD.bindsN (u_TooManyzz_initzz t) fun _ _ _ _ _ _ us hl => match us, hl with | [_, _, _], _ => rfl
theorem sc_TooManyzz_initzz : FnScope ["self", "what", "limit"] ["self", "what", "limit"] (defScope s_TooManyzz_initzz) := ⟨rfl, rfl, rfl, by decide +kernel, rfl, by decide +kernel, by decide +kernel⟩
theorem ok_TooManyzz_initzz (t : TX K mg) : FnOk P w K mg base (L2.CX P w) 1 (He.ma K (He.ga K "TooMany") "__init__") (fdAt K (He.ma K (He.ga K "TooMany") "__init__")) ["self", "what", "limit"] (spX (tbOf cls_ tabs_ K) 10) :=
  fnX2 (T := tbOf cls_ tabs_ K) (ec := 10) (u_TooManyzz_initzz t) sc_TooManyzz_initzz (t.oex 51) rfl (t.noat 52) (t.noat 53) (by decide +kernel) fun cdv A outer s H E => pss_cons (ps_xst (pv 0) (pv 1)) (pss_one (ps_xst (pv 0) (pv 2)))
theorem b_InvalidBookzz_initzz (t : TX K mg) : Binds K (fdAt K (He.ma K (He.ga K "InvalidBook") "__init__")) ["self", "problem", "name"] [] := FunD.bindsN (u_InvalidBookzz_initzz t) fun _ _ _ _ _ _ us hl => match us, hl with | [_, _, _], _ => rfl
theorem sc_InvalidBookzz_initzz : FnScope ["self", "problem", "name"] ["self", "problem", "name"] (defScope s_InvalidBookzz_initzz) := ⟨rfl, rfl, rfl, by decide +kernel, rfl, by decide +kernel, by decide +kernel⟩
theorem ok_InvalidBookzz_initzz (t : TX K mg) : FnOk P w K mg base (L2.CX P w) 1 (He.ma K (He.ga K "InvalidBook") "__init__") (fdAt K (He.ma K (He.ga K "InvalidBook") "__init__")) ["self", "problem", "name"] (spX (tbOf cls_ tabs_ K) 5) :=
  fnX2 (T := tbOf cls_ tabs_ K) (ec := 5) (u_InvalidBookzz_initzz t) sc_InvalidBookzz_initzz (t.oex 56) rfl (t.noat 57) (t.noat 58) (by decide +kernel) fun cdv A outer s H E => pss_cons (ps_xst (pv 0) (pv 1)) (pss_one (ps_xst (pv 0) (pv 2)))
theorem b_is_taken (t : TX K mg) : Binds K (fdAt K (He.ga K "is_taken")) ["kinds", "place"] [] := FunD.bindsN (u_is_taken t) fun _ _ _ _ _ _ us hl => match us, hl with | [_, _], _ => rfl
theorem sc_is_taken : FnScope ["kinds", "place", "kind"] ["kinds", "place"] (defScope s_is_taken) := ⟨rfl, rfl, rfl, by decide +kernel, rfl, by decide +kernel, by decide +kernel⟩
def g_is_taken : Slots → M Out := (retS (binE inU (getE 0 0 (binE ixU (bvarE 0) (bvarE 1))) (boxE (compE (itE (slE (bvarE 0) noO (soO (bvarE 1)))) [2] (tgN 2) yesT (getE 0 0 (varE 2))))))
def m_is_taken : List D → M D := fnM 3 g_is_taken
theorem ok_is_taken (t : TX K mg) : FnG False P w K mg base (L2.CX P w) 1 (He.ga K "is_taken") (fdAt K (He.ga K "is_taken")) ["kinds", "place"] (spF K (tbOf cls_ tabs_ K) 2 m_is_taken) :=
  fnD (st := s_is_taken) (N := ["kinds", "place", "kind"]) (ps := ["kinds", "place"]) (k := 0) (g := g_is_taken) (u_is_taken t) sc_is_taken (by decide) fun cdv hcv A outer s H E p S hr =>
  (dss_one (ds_ret (de_cmp (od_inU hr.room) (db_of (de_get (de_ixU hr.room (db_var 0) (db_var 1)) rfl (t.cls 41) (t.noat 40) nd_Kind rfl)) (db_of (de_box (dl_lc rfl sc_is_taken.nd (own := [(("kind" : Str), 2)]) (di_val (de_slice (db_var 0) do_none (do_some (db_var 1)))) (blkOk_by (by kernel_rfl)) (fun l s H C cl fp => (dg_name (vs := [2]) sc_is_taken.nd (by decide))) (fun l s H C cl fp => dts_nil) (fun l s H C cl fp => (de_get (de_var 2) rfl (t.cls 41) (t.noat 40) nd_Kind rfl))))))))
theorem b_is_crossed (t : TX K mg) : Binds K (fdAt K (He.ga K "is_crossed")) ["kind", "by_name"] [] := FunD.bindsN (u_is_crossed t) fun _ _ _ _ _ _ us hl => match us, hl with | [_, _], _ => rfl
theorem sc_is_crossed : FnScope ["kind", "by_name", "crossed"] ["kind", "by_name"] (defScope s_is_crossed) := ⟨rfl, rfl, rfl, by decide +kernel, rfl, by decide +kernel, by decide +kernel⟩
def g_is_crossed : Slots → M Out := (seqS (ifS (orT (testE (binE isU (getE 0 3 (varE 0)) (cE .non))) (testE (binE isU (getE 0 4 (varE 0)) (cE .non)))) (retS (cE (.bl false))) nilS)
  (seqS (asgS 2 (getE 0 4 (binE ixU (bvarE 1) (getE 0 3 (varE 0)))))
  (retS (orE (binE isU (bvarE 2) (cE .non)) (binE (pu dNe) (bvarE 2) (getE 0 3 (binE ixU (bvarE 1) (getE 0 4 (varE 0)))))))))
def m_is_crossed : List D → M D := fnM 3 g_is_crossed
theorem ok_is_crossed (t : TX K mg) : FnG False P w K mg base (L2.CX P w) 1 (He.ga K "is_crossed") (fdAt K (He.ga K "is_crossed")) ["kind", "by_name"] (spF K (tbOf cls_ tabs_ K) 2 m_is_crossed) :=
  fnD (st := s_is_crossed) (N := ["kind", "by_name", "crossed"]) (ps := ["kind", "by_name"]) (k := 0) (g := g_is_crossed) (u_is_crossed t) sc_is_crossed (by decide) fun cdv hcv A outer s H E p S hr =>
  (dss_cons (ds_if ((dw_or (dt_cmp od_isU (db_of (de_get (de_var 0) rfl (t.cls 41) (t.noat 44) nd_Kind rfl)) (db_of de_non)) (dw_or1 (dt_cmp od_isU (db_of (de_get (de_var 0) rfl (t.cls 41) (t.noat 45) nd_Kind rfl)) (db_of de_non))))).pt (dss_one (ds_ret de_bl)) dss_nil)
  (dss_cons (ds_asg (i := 2) sc_is_crossed.nd (de_get (de_ixU hr.room (db_var 1) (db_of (de_get (de_var 0) rfl (t.cls 41) (t.noat 44) nd_Kind rfl))) rfl (t.cls 41) (t.noat 45) nd_Kind rfl))
  (dss_one (ds_ret (de_or (de_cmp od_isU (db_var 2) (db_of de_non)) (de_one (de_cmp (od_dNe hr.room) (db_var 2) (db_of (de_get (de_ixU hr.room (db_var 1) (db_of (de_get (de_var 0) rfl (t.cls 41) (t.noat 45) nd_Kind rfl))) rfl (t.cls 41) (t.noat 44) nd_Kind rfl)))))))))
theorem b_is_same_size (t : TX K mg) : Binds K (fdAt K (He.ga K "is_same_size")) ["one", "other"] [] := FunD.bindsN (u_is_same_size t) fun _ _ _ _ _ _ us hl => match us, hl with | [_, _], _ => rfl
theorem sc_is_same_size : FnScope ["one", "other"] ["one", "other"] (defScope s_is_same_size) := ⟨rfl, rfl, rfl, by decide +kernel, rfl, by decide +kernel, by decide +kernel⟩
def g_is_same_size : Slots → M Out := (retS (andE (binE (pu dEq) (getE 0 1 (varE 0)) (getE 0 1 (varE 1))) (binE (pu dEq) (getE 0 2 (varE 0)) (getE 0 2 (varE 1)))))
def m_is_same_size : List D → M D := fnM 2 g_is_same_size
theorem ok_is_same_size (t : TX K mg) : FnG False P w K mg base (L2.CX P w) 1 (He.ga K "is_same_size") (fdAt K (He.ga K "is_same_size")) ["one", "other"] (spF K (tbOf cls_ tabs_ K) 2 m_is_same_size) :=
  fnD (st := s_is_same_size) (N := ["one", "other"]) (ps := ["one", "other"]) (k := 0) (g := g_is_same_size) (u_is_same_size t) sc_is_same_size (by decide) fun cdv hcv A outer s H E p S hr =>
  (dss_one (ds_ret (de_and (de_cmp (od_dEq hr.room) (db_of (de_get (de_var 0) rfl (t.cls 41) (t.noat 42) nd_Kind rfl)) (db_of (de_get (de_var 1) rfl (t.cls 41) (t.noat 42) nd_Kind rfl))) (de_one (de_cmp (od_dEq hr.room) (db_of (de_get (de_var 0) rfl (t.cls 41) (t.noat 43) nd_Kind rfl)) (db_of (de_get (de_var 1) rfl (t.cls 41) (t.noat 43) nd_Kind rfl)))))))
theorem b_has_wrong_mirror (t : TX K mg) : Binds K (fdAt K (He.ga K "has_wrong_mirror")) ["kind", "by_name"] [] := FunD.bindsN (u_has_wrong_mirror t) fun _ _ _ _ _ _ us hl => match us, hl with | [_, _], _ => rfl
theorem sc_has_wrong_mirror : FnScope ["kind", "by_name", "mirror"] ["kind", "by_name"] (defScope s_has_wrong_mirror) := ⟨rfl, rfl, rfl, by decide +kernel, rfl, by decide +kernel, by decide +kernel⟩
def g_has_wrong_mirror : Slots → M Out := (seqS (ifS (testE (binE isU (getE 0 4 (varE 0)) (cE .non))) (retS (cE (.bl false))) nilS)
  (seqS (ifS (testE (binE ninU (getE 0 4 (varE 0)) (bvarE 1))) (retS (cE (.bl true))) nilS)
  (seqS (asgS 2 (binE ixU (bvarE 1) (getE 0 4 (varE 0))))
  (retS (orE (notE (callE 2 m_is_same_size [] (consA (varE 0) (consA (varE 2) nilA)))) (binE (pu dNe) (getE 0 4 (varE 2)) (getE 0 0 (varE 0))))))))
def m_has_wrong_mirror : List D → M D := fnM 3 g_has_wrong_mirror
theorem ok_has_wrong_mirror (t : TX K mg) : FnG False P w K mg base (L2.CX P w) 2 (He.ga K "has_wrong_mirror") (fdAt K (He.ga K "has_wrong_mirror")) ["kind", "by_name"] (spF K (tbOf cls_ tabs_ K) 2 m_has_wrong_mirror) :=
  fnD (st := s_has_wrong_mirror) (N := ["kind", "by_name", "mirror"]) (ps := ["kind", "by_name"]) (k := 1) (g := g_has_wrong_mirror) (u_has_wrong_mirror t) sc_has_wrong_mirror (by decide) fun cdv hcv A outer s H E p S hr =>
  (dss_cons (ds_if (dt_cmp od_isU (db_of (de_get (de_var 0) rfl (t.cls 41) (t.noat 45) nd_Kind rfl)) (db_of de_non)) (dss_one (ds_ret de_bl)) dss_nil)
  (dss_cons (ds_if (dt_cmp (od_ninU hr.room) (db_of (de_get (de_var 0) rfl (t.cls 41) (t.noat 45) nd_Kind rfl)) (db_var 1)) (dss_one (ds_ret de_bl)) dss_nil)
  (dss_cons (ds_asg (i := 2) sc_has_wrong_mirror.nd (de_ixU hr.room (db_var 1) (db_of (de_get (de_var 0) rfl (t.cls 41) (t.noat 45) nd_Kind rfl))))
  (dss_one (ds_ret (de_or (de_not (de_call (ok_is_same_size t) (hr.mono (by decide)) (takes_of rfl rfl rfl rfl) (t.glo 65) (u_is_same_size t).kp (b_is_same_size t) .nil cst_nil (da_cons (de_var 0) (da_cons (de_var 2) da_nil)))) (de_one (de_cmp (od_dNe hr.room) (db_of (de_get (de_var 2) rfl (t.cls 41) (t.noat 45) nd_Kind rfl)) (db_of (de_get (de_var 0) rfl (t.cls 41) (t.noat 40) nd_Kind rfl))))))))))
theorem b_has_wrong_back (t : TX K mg) : Binds K (fdAt K (He.ga K "has_wrong_back")) ["kind", "by_name"] [] := FunD.bindsN (u_has_wrong_back t) fun _ _ _ _ _ _ us hl => match us, hl with | [_, _], _ => rfl
theorem sc_has_wrong_back : FnScope ["kind", "by_name", "back"] ["kind", "by_name"] (defScope s_has_wrong_back) := ⟨rfl, rfl, rfl, by decide +kernel, rfl, by decide +kernel, by decide +kernel⟩
def g_has_wrong_back : Slots → M Out := (seqS (ifS (testE (binE isU (getE 0 3 (varE 0)) (cE .non))) (retS (cE (.bl false))) nilS)
  (seqS (ifS (testE (binE ninU (getE 0 3 (varE 0)) (bvarE 1))) (retS (cE (.bl true))) nilS)
  (seqS (asgS 2 (binE ixU (bvarE 1) (getE 0 3 (varE 0))))
  (retS (orE (notE (callE 2 m_is_same_size [] (consA (varE 0) (consA (varE 2) nilA)))) (binE (pu dNe) (getE 0 3 (varE 2)) (getE 0 0 (varE 0))))))))
def m_has_wrong_back : List D → M D := fnM 3 g_has_wrong_back
theorem ok_has_wrong_back (t : TX K mg) : FnG False P w K mg base (L2.CX P w) 2 (He.ga K "has_wrong_back") (fdAt K (He.ga K "has_wrong_back")) ["kind", "by_name"] (spF K (tbOf cls_ tabs_ K) 2 m_has_wrong_back) :=
  fnD (st := s_has_wrong_back) (N := ["kind", "by_name", "back"]) (ps := ["kind", "by_name"]) (k := 1) (g := g_has_wrong_back) (u_has_wrong_back t) sc_has_wrong_back (by decide) fun cdv hcv A outer s H E p S hr =>
  (dss_cons (ds_if (dt_cmp od_isU (db_of (de_get (de_var 0) rfl (t.cls 41) (t.noat 44) nd_Kind rfl)) (db_of de_non)) (dss_one (ds_ret de_bl)) dss_nil)
  (dss_cons (ds_if (dt_cmp (od_ninU hr.room) (db_of (de_get (de_var 0) rfl (t.cls 41) (t.noat 44) nd_Kind rfl)) (db_var 1)) (dss_one (ds_ret de_bl)) dss_nil)
  (dss_cons (ds_asg (i := 2) sc_has_wrong_back.nd (de_ixU hr.room (db_var 1) (db_of (de_get (de_var 0) rfl (t.cls 41) (t.noat 44) nd_Kind rfl))))
  (dss_one (ds_ret (de_or (de_not (de_call (ok_is_same_size t) (hr.mono (by decide)) (takes_of rfl rfl rfl rfl) (t.glo 65) (u_is_same_size t).kp (b_is_same_size t) .nil cst_nil (da_cons (de_var 0) (da_cons (de_var 2) da_nil)))) (de_one (de_cmp (od_dNe hr.room) (db_of (de_get (de_var 2) rfl (t.cls 41) (t.noat 44) nd_Kind rfl)) (db_of (de_get (de_var 0) rfl (t.cls 41) (t.noat 40) nd_Kind rfl))))))))))
theorem b_check_kinds (t : TX K mg) : Binds K (fdAt K (He.ga K "check_kinds")) ["kinds"] [] := FunD.bindsN (u_check_kinds t) fun _ _ _ _ _ _ us hl => match us, hl with | [_], _ => rfl
theorem sc_check_kinds : FnScope ["kinds", "place", "kind", "found", "problem", "is_wrong"] ["kinds"] (defScope s_check_kinds) := ⟨rfl, rfl, rfl, by decide +kernel, rfl, by decide +kernel, by decide +kernel⟩
def g_check_kinds_b1 : Slots → M Out := (ifS (testE (callE 2 m_is_taken [] (consA (varE 0) (consA (varE 1) nilA)))) (raiS 5 2 (consA (cE (.str "taken")) (consA (getE 0 0 (varE 2)) nilA))) nilS)
def g_check_kinds_b2 : Slots → M Out := (frzDS 3 (ifS (testE (callVE 2 (fun j => ([m_has_wrong_back, m_has_wrong_mirror, m_is_crossed] : List (List D → M D))[j]?) 5 (consA (varE 2) (consA (varE 3) nilA)))) (raiS 5 2 (consA (varE 4) (consA (getE 0 0 (varE 2)) nilA))) nilS))
def g_check_kinds_b3 : Slots → M Out := (forS (itE (varE 0)) (tgN 2) g_check_kinds_b2)
def g_check_kinds_s1 : Slots → M Out := (forS (itA enumU (consA (varE 0) nilA)) (tgT [(tgN 1), (tgN 2)]) g_check_kinds_b1)
def g_check_kinds_s2 : Slots → M Out := (asgD 3 (dcompE (itE (boxE (sortE 0 0 (varE 0)))) [2] (tgN 2) yesT (getE 0 0 (varE 2)) (varE 2)))
def g_check_kinds_s3 : Slots → M Out := (forS (itE (tupE (consA (tupE (consA (cE (.str "back")) (consA (cE (.fn 0)) nilA))) (consA (tupE (consA (cE (.str "mirror")) (consA (cE (.fn 1)) nilA))) (consA (tupE (consA (cE (.str "both")) (consA (cE (.fn 2)) nilA))) nilA))))) (tgT [(tgN 4), (tgN 5)]) g_check_kinds_b3)
def g_check_kinds_s4 : Slots → M Out := (frzDS 3 (retS (varE 3)))
def g_check_kinds : Slots → M Out := (seqS g_check_kinds_s1
  (seqS g_check_kinds_s2
  (seqS g_check_kinds_s3
  g_check_kinds_s4)))
def m_check_kinds : List D → M D := fnM 6 g_check_kinds
theorem ok_check_kinds (t : TX K mg) (tB : TBs K mg base) : FnG False P w K mg base (L2.CX P w) 3 (He.ga K "check_kinds") (fdAt K (He.ga K "check_kinds")) ["kinds"] (spF K (tbOf cls_ tabs_ K) 1 m_check_kinds) :=
  fnD (st := s_check_kinds) (N := ["kinds", "place", "kind", "found", "problem", "is_wrong"]) (ps := ["kinds"]) (k := 2) (g := g_check_kinds) (u_check_kinds t) sc_check_kinds (by decide) fun cdv hcv A outer s H E p S hr =>
  (dss_cons (ds_for (passes_of rfl) rfl (di_enumU (da_cons (de_var 0) da_nil) (t.free 61)) (dg_tup rfl (dgs_cons (dg_name (vs := [1, 2]) sc_check_kinds.nd (by decide)) (dgs_cons (dg_name (vs := [1, 2]) sc_check_kinds.nd (by decide)) dgs_nil))) (dss_one (ds_if (dt_val (de_call (ok_is_taken t) (hr.mono (by decide)) (takes_of rfl rfl rfl rfl) (t.glo 62) (u_is_taken t).kp (b_is_taken t) .nil cst_nil (da_cons (de_var 0) (da_cons (de_var 1) da_nil)))) (dss_one (ds_raise (ec := 5) (takes_of rfl rfl rfl rfl) (t.oex 56) (t.meth 59) (ok_InvalidBookzz_initzz t) (hr.room.mono (by decide)) (b_InvalidBookzz_initzz t) (t.glo 60) rfl (da_cons de_str (da_cons (de_get (de_var 2) rfl (t.cls 41) (t.noat 40) nd_Kind rfl) da_nil)))) dss_nil)))
  (dss_cons (ds_asgD_of (ps_dc (n := 3) rfl sc_check_kinds.nd rfl rfl rfl (own := [(("kind" : Str), 2)]) (di_val (de_box (dl_sortK (kc := 0) (ix := 0) (de_var 0) (tB 0 _ rfl) (code_at (p := tdef_0) (u_check_kinds t) hcv) (tab_0 t).1 (tab_0 t).2 (hr.room.mono (by decide)) (t.cls 41) (t.noat 40) rfl nd_Kind ⟨rfl, rfl, rfl, rfl⟩ (t.free 63)))) (blkOk_by (by kernel_rfl)) (fun l s H C cl fp => (dg_name (vs := [2]) sc_check_kinds.nd (by decide))) (fun l s H C cl fp => dts_nil) (fun l s H C cl fp => (de_get (de_var 2) rfl (t.cls 41) (t.noat 40) nd_Kind rfl)) (fun l s H C cl fp => (de_var 2))))
  (dss_cons (ds_for (passes_of rfl) rfl (di_val (de_tup (da_cons (de_tup (da_cons de_str (da_cons (de_fn (i := 0) (t.glo 67)) da_nil))) (da_cons (de_tup (da_cons de_str (da_cons (de_fn (i := 1) (t.glo 66)) da_nil))) (da_cons (de_tup (da_cons de_str (da_cons (de_fn (i := 2) (t.glo 64)) da_nil))) da_nil))))) (dg_tup rfl (dgs_cons (dg_name (vs := [4, 5]) sc_check_kinds.nd (by decide)) (dgs_cons (dg_name (vs := [4, 5]) sc_check_kinds.nd (by decide)) dgs_nil))) (dss_one (ds_for (passes_of rfl) rfl (di_val (de_var 0)) (dg_name (vs := [2]) sc_check_kinds.nd (by decide)) (dss_one (ds_frzD 3 (ds_if (dt_val (de_callV (i := 5) (gu := False) (k := 2) (FnVs.all (.cons (ok_has_wrong_back t) (by decide) (u_has_wrong_back t).kp (b_has_wrong_back t) (.cons (ok_has_wrong_mirror t) (by decide) (u_has_wrong_mirror t).kp (b_has_wrong_mirror t) (.cons (ok_is_crossed t) (by decide) (u_is_crossed t).kp (b_is_crossed t) .nil)))) (hr.mono (by decide)) (takes_of rfl rfl rfl rfl) (da_cons (de_var 2) (da_cons (de_var 3) da_nil)))) (dss_one (ds_raise (ec := 5) (takes_of rfl rfl rfl rfl) (t.oex 56) (t.meth 59) (ok_InvalidBookzz_initzz t) (hr.room.mono (by decide)) (b_InvalidBookzz_initzz t) (t.glo 60) rfl (da_cons (de_var 4) (da_cons (de_get (de_var 2) rfl (t.cls 41) (t.noat 40) nd_Kind rfl) da_nil)))) dss_nil))))))
  (dss_one (ds_frzD 3 (ds_ret (de_var 3)))))))
theorem sc_Bookzz_initzz : FnScope ["self", "kinds", "kind"] ["self", "kinds"] (defScope s_Bookzz_initzz) := ⟨rfl, rfl, rfl, by decide +kernel, rfl, by decide +kernel, by decide +kernel⟩
def g_Bookzz_initzz_b1 : Slots → M Out := (ifS (notT (testE (isiE 2 (ansOf [] [true, false, false, false, false, false, false, false, false, false, false]) (bvarE 2)))) (raiS 4 1 (consA (varE 2) nilA)) nilS)
def g_Bookzz_initzz_s1 : Slots → M Out := (forS (itE (varE 1)) (tgN 2) g_Bookzz_initzz_b1)
def g_Bookzz_initzz_s2 : Slots → M Out := (ifS (testE (binE (pu iGt) (bltE (pu1 lenF) (consA (bvarE 1) nilA)) (cE (.int 24)))) (raiS 10 2 (consA (cE (.str "kinds")) (consA (cE (.int 24)) nilA))) nilS)
def g_Bookzz_initzz_s3 : Slots → M Out := (ifS (testE (binE (pu dEq) (bltE (pu1 lenF) (consA (bvarE 1) nilA)) (cE (.int 0)))) (raiS 5 2 (consA (cE (.str "none")) (consA (cE .non) nilA))) nilS)
def g_Bookzz_initzz_s4 : Slots → M Out := (fldS 0 1 0 (callE 1 m_check_kinds [] (consA (varE 1) nilA)))
def g_Bookzz_initzz : Slots → M Out := (seqS g_Bookzz_initzz_s1
  (seqS g_Bookzz_initzz_s2
  (seqS g_Bookzz_initzz_s3
  g_Bookzz_initzz_s4)))
def m_Bookzz_initzz : List D → M (List D) := iniM 1 1 2 g_Bookzz_initzz
theorem ok_Bookzz_initzz (t : TX K mg) (tB : TBs K mg base) : FnR P w K mg base (L2.CX P w) 4 (He.ma K (He.ga K "Book") "__init__") (fun vs H Q E => ∃ ws rest, vs = ws ++ rest ∧ ws.length = 1 ∧ rest.length ≤ sizeLine ∧ ∀ p, H p = none → spI K (tbOf cls_ tabs_ K) 1 2 m_Bookzz_initzz (ws ++ [V.ref p]) (upd H p (.tup rest)) Q E) :=
  fnIS (st := s_Bookzz_initzz) (y := "self") (pv := "kinds") (N := ["kinds", "kind"]) (k := 3) (kc := 1) (g := g_Bookzz_initzz) (u_Bookzz_initzz t) sc_Bookzz_initzz (by decide) (fun kV doc pm an cdv ct us rest h => StX.bind_star1 (B := fun vs => bindArgs (PySem.W.fnOf "__init__" "Book.__init__" (defArgs s_Bookzz_initzz) (defBody s_Bookzz_initzz) (defScope s_Bookzz_initzz) .none kV doc pm an cdv ct) ⟨vs, []⟩) (fun _ => rfl) (fun _ _ _ => by kernel_rfl) us rest h) (fun cdv hcv A outer s H H0 E p me S hr =>
  (dss_cons (ds_for (passes_of rfl) rfl (di_val (de_var 1)) (dg_name (vs := [2]) sc_Bookzz_initzz.nd (by decide)) (dss_one (ds_if (dt_not (dt_val (de_isi (hCs t) (db_var 2) (pe_gcl (t.glo 47)) (.own _) (t.isi (cs := cls_) (tf := tabs_) (u := fun K => .ref (He.ga K "Kind")) 49 rfl) (t.free 16) bo_isinstance))) (dss_one (ds_raise (ec := 4) (takes_of rfl rfl rfl rfl) (t.oex 36) (t.meth 38) (ok_InvalidKindzz_initzz t) (hr.mono (by decide)) (b_InvalidKindzz_initzz t) (t.glo 39) rfl (da_cons (de_var 2) da_nil))) dss_nil)))
  (dss_cons (ds_if (dt_cmp od_iGt (db_of (de_blt cd_len (t.free 4) bo_len (dab_cons (db_var 1) dab_nil))) (db_of (de_gint (t.gint 50)))) (dss_one (ds_raise (ec := 10) (takes_of rfl rfl rfl rfl) (t.oex 51) (t.meth 54) (ok_TooManyzz_initzz t) (hr.mono (by decide)) (b_TooManyzz_initzz t) (t.glo 55) rfl (da_cons de_str (da_cons (de_gint (t.gint 50)) da_nil)))) dss_nil)
  (dss_cons (ds_if (dt_cmp (od_dEq hr) (db_of (de_blt cd_len (t.free 4) bo_len (dab_cons (db_var 1) dab_nil))) (db_of de_int)) (dss_one (ds_raise (ec := 5) (takes_of rfl rfl rfl rfl) (t.oex 56) (t.meth 59) (ok_InvalidBookzz_initzz t) (hr.mono (by decide)) (b_InvalidBookzz_initzz t) (t.glo 60) rfl (da_cons de_str (da_cons de_non da_nil)))) dss_nil)
  (dss_one (ds_fld (i := 0) (kc := 1) (ix := 0) (de_call (ok_check_kinds t tB) ((Rm.of hr).mono (by decide)) (takes_of rfl rfl rfl rfl) (t.glo 68) (u_check_kinds t).kp (b_check_kinds t) .nil cst_nil (da_cons (de_var 1) da_nil)) rfl (t.cls 70) (t.noat 69) nd_Book rfl (show 1 < 1000 by decide))))))) rfl
theorem b__law_real_book (t : TX K mg) : Binds K (fdAt K (He.ga K "_law_real_book")) ["_law_book_here"] [] := FunD.bindsN (u__law_real_book t) fun _ _ _ _ _ _ us hl => match us, hl with | [_], _ => rfl
theorem sc__law_real_book : FnScope ["_law_book_here", "_law_rows", "_law_label", "_law_row", "_law_one"] ["_law_book_here"] (defScope s__law_real_book) := ⟨rfl, rfl, rfl, by decide +kernel, rfl, by decide +kernel, by decide +kernel⟩
def g__law_real_book_b1 : Slots → M Out := (appS 1 (makeKE 0 7 3 3 m_Kindzz_initzz [(true, 0), (true, 1), (true, 2)] [] (consA (varE 2) (consA (binE ixU (bvarE 3) (cE (.int 0))) (consA (binE ixU (bvarE 3) (cE (.int 1))) nilA))) (consA (binE ixU (bvarE 3) (cE (.int 2))) (consA (binE ixU (bvarE 3) (cE (.int 3))) (consA (binE ixU (bvarE 3) (cE (.int 4))) nilA)))))
def g__law_real_book_s1 : Slots → M Out := (asgL 1 (lenA nilA))
def g__law_real_book_s2 : Slots → M Out := (forS (itemsD (varE 0)) (tgT [(tgN 2), (tgN 3)]) g__law_real_book_b1)
def g__law_real_book_s3 : Slots → M Out := (asgS 4 (slE (bvarE 1) (soO (cE (.int 5))) noO))
def g__law_real_book_s4 : Slots → M Out := (retS (makeSE 1 m_Bookzz_initzz (consA (binE ixU (bvarE 1) (cE (.int 0))) (consA (binE ixU (bvarE 1) (cE (.int 1))) (consA (binE ixU (bvarE 1) (cE (.int 2))) (consA (binE ixU (bvarE 1) (cE (.int 3))) (consA (binE ixU (bvarE 1) (cE (.int 4))) (consA (binE ixU (bvarE 4) (cE (.int 0))) (consA (binE ixU (bvarE 4) (cE (.int 1))) (consA (binE ixU (bvarE 4) (cE (.int 2))) (consA (binE ixU (bvarE 4) (cE (.int 3))) (consA (binE ixU (bvarE 4) (cE (.int 4))) nilA))))))))))))
def g__law_real_book : Slots → M Out := (seqS g__law_real_book_s1
  (seqS g__law_real_book_s2
  (seqS g__law_real_book_s3
  g__law_real_book_s4)))
def m__law_real_book : List D → M D := fnM 5 g__law_real_book
theorem ok__law_real_book (t : TX K mg) (tB : TBs K mg base) : FnG False P w K mg base (L2.CX P w) 6 (He.ga K "_law_real_book") (fdAt K (He.ga K "_law_real_book")) ["_law_book_here"] (spF K (tbOf cls_ tabs_ K) 1 m__law_real_book) := by
  obtain ⟨mv_Kindzz_initzz_4_back_mirror_yarn, hk_Kindzz_initzz_4_back_mirror_yarn⟩ := kb_Kindzz_initzz_4_back_mirror_yarn t
  exact fnD (st := s__law_real_book) (N := ["_law_book_here", "_law_rows", "_law_label", "_law_row", "_law_one"]) (ps := ["_law_book_here"]) (k := 5) (g := g__law_real_book) (u__law_real_book t) sc__law_real_book (by decide) fun cdv hcv A outer s H E p S hr =>
  (dss_cons (ds_asgL (i := 1) sc__law_real_book.nd (dl_lst da_nil))
  (dss_cons (ds_for (passes_of rfl) rfl (di_items (de_var 0)) (dg_tup rfl (dgs_cons (dg_name (vs := [2, 3]) sc__law_real_book.nd (by decide)) (dgs_cons (dg_name (vs := [2, 3]) sc__law_real_book.nd (by decide)) dgs_nil))) (dss_one (ds_app (i := 1) (de_makeK (n0 := 3) (t.mk_ 48) (ok_Kindzz_initzz t) (hr.mono (by decide)) (takes_of rfl rfl rfl rfl) (t.glo 47) rfl hk_Kindzz_initzz_4_back_mirror_yarn cst_nil (da_cons (de_var 2) (da_cons (de_ixU hr.room (db_var 3) (db_of de_int)) (da_cons (de_ixU hr.room (db_var 3) (db_of de_int)) da_nil))) (dk_cons (de_ixU hr.room (db_var 3) (db_of de_int)) (dk_cons (de_ixU hr.room (db_var 3) (db_of de_int)) (dk_cons (de_ixU hr.room (db_var 3) (db_of de_int)) dk_nil)))))))
  (dss_cons (ds_asg (i := 4) sc__law_real_book.nd (de_slice (db_var 1) (do_some (db_of de_int)) do_none))
  (dss_one (ds_ret (de_makeS (t.mk_ 72) (ok_Bookzz_initzz t tB) (hr.room.mono (by decide)) (takes_of rfl rfl rfl rfl) (t.glo 71) rfl (da_cons (de_ixU hr.room (db_var 1) (db_of de_int)) (da_cons (de_ixU hr.room (db_var 1) (db_of de_int)) (da_cons (de_ixU hr.room (db_var 1) (db_of de_int)) (da_cons (de_ixU hr.room (db_var 1) (db_of de_int)) (da_cons (de_ixU hr.room (db_var 1) (db_of de_int)) (da_cons (de_ixU hr.room (db_var 4) (db_of de_int)) (da_cons (de_ixU hr.room (db_var 4) (db_of de_int)) (da_cons (de_ixU hr.room (db_var 4) (db_of de_int)) (da_cons (de_ixU hr.room (db_var 4) (db_of de_int)) (da_cons (de_ixU hr.room (db_var 4) (db_of de_int)) da_nil))))))))))))))))
theorem b__law_long (t : TX K mg) : Binds K (fdAt K (He.ga K "_law_long")) ["_law_pot_here", "_law_shop"] [] := FunD.bindsN (u__law_long t) fun _ _ _ _ _ _ us hl => match us, hl with | [_, _], _ => rfl
theorem sc__law_long : FnScope ["_law_pot_here", "_law_shop", "_law_labels", "_law_way", "_law_some", "_law_turn"] ["_law_pot_here", "_law_shop"] (defScope s__law_long) := ⟨rfl, rfl, rfl, by decide +kernel, rfl, by decide +kernel, by decide +kernel⟩
def g__law_long_s1 : Slots → M Out := (unpS (tgL [(tgN 2), (tgN 3)]) (tupE (consA (boxE (bltE sortDct (consA (bvarE 1) nilA))) (consA (callE 2 m__law_draw [] (consA (varE 0) (consA (cE (.int 6)) nilA))) nilA))))
def g__law_long_s2 : Slots → M Out := (asgS 4 (boxE (compE (itA rng1 (consA (binE addU (cE (.int 1)) (callE 2 m__law_draw [] (consA (varE 0) (consA (cE (.int 3)) nilA)))) nilA)) [5] (tgN 5) yesT (callE 2 m__law_pick [] (consA (varE 0) (consA (varE 2) nilA))))))
def g__law_long_s3 : Slots → M Out := (ifS (testE (binE (pu dEq) (bvarE 3) (cE (.int 0)))) (retS (tupE nilA)) nilS)
def g__law_long_s4 : Slots → M Out := (ifS (testE (binE (pu dEq) (bvarE 3) (cE (.int 1)))) (retS (bltE tupF (consA (binE mulU (boxE (lenA (consA (binE ixU (bvarE 4) (cE (.int 0))) nilA))) (callE 2 m__law_pick [] (consA (varE 0) (consA (boxE (lenA (consA (cE (.int 1)) (consA (cE (.int 2)) (consA (cE (.int 239)) (consA (cE (.int 240)) nilA)))))) nilA)))) nilA))) nilS)
def g__law_long_s5 : Slots → M Out := (retS (bltE tupF (consA (boxE (compE (itA rng1 (consA (binE addU (cE (.int 1)) (callE 2 m__law_draw [] (consA (varE 0) (consA (cE (.int 12)) nilA)))) nilA)) [5] (tgN 5) yesT (callE 2 m__law_pick [] (consA (varE 0) (consA (ifE (testE (binE (pu iLt) (bvarE 3) (cE (.int 4)))) (varE 4) (varE 2)) nilA))))) nilA)))
def g__law_long : Slots → M Out := (seqS g__law_long_s1
  (seqS g__law_long_s2
  (seqS g__law_long_s3
  (seqS g__law_long_s4
  g__law_long_s5))))
def m__law_long : List D → M D := fnM 6 g__law_long
theorem ok__law_long (t : TX K mg) : FnG False P w K mg base (L2.CX P w) 3 (He.ga K "_law_long") (fdAt K (He.ga K "_law_long")) ["_law_pot_here", "_law_shop"] (spF K (tbOf cls_ tabs_ K) 2 m__law_long) :=
  fnD (st := s__law_long) (N := ["_law_pot_here", "_law_shop", "_law_labels", "_law_way", "_law_some", "_law_turn"]) (ps := ["_law_pot_here", "_law_shop"]) (k := 2) (g := g__law_long) (u__law_long t) sc__law_long (by decide) fun cdv hcv A outer s H E p S hr =>
  (dss_cons (ds_unp (de_tup (da_cons (de_box (dl_blt (cn_sortD rfl) (t.free 63) bo_sorted (dab_cons (db_var 1) dab_nil))) (da_cons (de_call (ok__law_draw t) (hr.mono (by decide)) (takes_of rfl rfl rfl rfl) (t.glo 3) (u__law_draw t).kp (b__law_draw t) .nil cst_nil (da_cons (de_var 0) (da_cons de_int da_nil))) da_nil))) (dg_seq rfl (dgs_cons (dg_name (vs := [2, 3]) sc__law_long.nd (by decide)) (dgs_cons (dg_name (vs := [2, 3]) sc__law_long.nd (by decide)) dgs_nil))))
  (dss_cons (ds_asg (i := 4) sc__law_long.nd (de_box (dl_lc rfl sc__law_long.nd (own := [(("_law_turn" : Str), 5)]) (di_range1 (dab_cons (db_of (de_op od_addU (db_of de_int) (db_of (de_call (ok__law_draw t) (hr.mono (by decide)) (takes_of rfl rfl rfl rfl) (t.glo 3) (u__law_draw t).kp (b__law_draw t) .nil cst_nil (da_cons (de_var 0) (da_cons de_int da_nil)))))) dab_nil) (t.free 7)) (blkOk_by (by kernel_rfl)) (fun l s H C cl fp => (dg_name (vs := [5]) sc__law_long.nd (by decide))) (fun l s H C cl fp => dts_nil) (fun l s H C cl fp => (de_call (ok__law_pick t) (hr.mono (by decide)) takes0 (t.glo 6) (u__law_pick t).kp (b__law_pick t) .nil cst_nil (da_cons (de_var 0) (da_cons (de_var 2) da_nil)))))))
  (dss_cons (ds_if (dt_cmp (od_dEq hr.room) (db_var 3) (db_of de_int)) (dss_one (ds_ret (de_tup da_nil))) dss_nil)
  (dss_cons (ds_if (dt_cmp (od_dEq hr.room) (db_var 3) (db_of de_int)) (dss_one (ds_ret (de_blt_ty cd_tuple (t.free 74) bo_tuple (dab_cons (db_of (de_op od_mulU (db_of (de_box (dl_lst (da_cons (de_ixU hr.room (db_var 4) (db_of de_int)) da_nil)))) (db_of (de_call (ok__law_pick t) (hr.mono (by decide)) (takes_of rfl rfl rfl rfl) (t.glo 6) (u__law_pick t).kp (b__law_pick t) .nil cst_nil (da_cons (de_var 0) (da_cons (de_box (dl_lst (da_cons de_int (da_cons de_int (da_cons de_int (da_cons de_int da_nil)))))) da_nil)))))) dab_nil)))) dss_nil)
  (dss_one (ds_ret (de_blt_ty cd_tuple (t.free 74) bo_tuple (dab_cons (db_of (de_box (dl_lc rfl sc__law_long.nd (own := [(("_law_turn" : Str), 5)]) (di_range1 (dab_cons (db_of (de_op od_addU (db_of de_int) (db_of (de_call (ok__law_draw t) (hr.mono (by decide)) (takes_of rfl rfl rfl rfl) (t.glo 3) (u__law_draw t).kp (b__law_draw t) .nil cst_nil (da_cons (de_var 0) (da_cons de_int da_nil)))))) dab_nil) (t.free 7)) (blkOk_by (by kernel_rfl)) (fun l s H C cl fp => (dg_name (vs := [5]) sc__law_long.nd (by decide))) (fun l s H C cl fp => dts_nil) (fun l s H C cl fp => (de_call (ok__law_pick t) (hr.mono (by decide)) takes0 (t.glo 6) (u__law_pick t).kp (b__law_pick t) .nil cst_nil (da_cons (de_var 0) (da_cons (de_if (dt_cmp od_iLt (db_var 3) (db_of de_int)) (de_var 4) (de_var 2)) da_nil))))))) dab_nil))))))))
theorem b_Bookzz_containszz (t : TX K mg) : Binds K (fdAt K (He.ma K (He.ga K "Book") "__contains__")) ["self", "value"] [] := FunD.bindsN (u_Bookzz_containszz t) fun _ _ _ _ _ _ us hl => match us, hl with | [_, _], _ => rfl
theorem sc_Bookzz_containszz : FnScope ["self", "value"] ["self", "value"] (defScope s_Bookzz_containszz) := ⟨rfl, rfl, rfl, by decide +kernel, rfl, by decide +kernel, by decide +kernel⟩
def g_Bookzz_containszz : Slots → M Out := (retS (andE (isiE 2 (ansOf ["str"] [false, false, false, false, false, false, false, false, false, false, false]) (bvarE 1)) (binE inU (bvarE 1) (getE 1 0 (varE 0)))))
def m_Bookzz_containszz : List D → M D := fnM 2 g_Bookzz_containszz
theorem ok_Bookzz_containszz (t : TX K mg) : FnG False P w K mg base (L2.CX P w) 1 (He.ma K (He.ga K "Book") "__contains__") (fdAt K (He.ma K (He.ga K "Book") "__contains__")) ["self", "value"] (spF K (tbOf cls_ tabs_ K) 2 m_Bookzz_containszz) :=
  fnD (st := s_Bookzz_containszz) (N := ["self", "value"]) (ps := ["self", "value"]) (k := 0) (g := g_Bookzz_containszz) (u_Bookzz_containszz t) sc_Bookzz_containszz (by decide) fun cdv hcv A outer s H E p S hr =>
  (dss_one (ds_ret (de_and (de_isi (hCs t) (db_var 1) (pe_bty (t.free 12) bo_str) (.ty _) (t.isi (cs := cls_) (tf := tabs_) (u := fun _ => .type "str") 13 rfl) (t.free 16) bo_isinstance) (de_one (de_cmp (od_inU hr.room) (db_var 1) (db_of (de_get (de_var 0) rfl (t.cls 70) (t.noat 69) nd_Book rfl)))))))
theorem b_Book_is_word (t : TX K mg) : Binds K (fdAt K (He.ma K (He.ga K "Book") "is_word")) ["self", "value"] [] := FunD.bindsN (u_Book_is_word t) fun _ _ _ _ _ _ us hl => match us, hl with | [_, _], _ => rfl
theorem kb_Book_is_word_1_value (t : TX K mg) : ∃ mv : List Value, KBn K (fdAt K (He.ma K (He.ga K "Book") "is_word")) ["self", "value"] 1 ["value"] (fun us ws => us ++ pick [(true, 0)] mv ws) (fun vs zs => vs ++ pick [(true, 0)] [] zs) := kbP (u_Book_is_word t) 1 ["value"] [(true, 0)] fun _ _ _ _ _ _ us ws h1 h2 => match us, ws, h1, h2 with | [_], [_], _, _ => rfl
theorem sc_Book_is_word : FnScope ["self", "value", "name"] ["self", "value"] (defScope s_Book_is_word) := ⟨rfl, rfl, rfl, by decide +kernel, rfl, by decide +kernel, by decide +kernel⟩
def g_Book_is_word : Slots → M Out := (retS (andE (isiE 2 (ansOf ["tuple"] [false, false, false, false, false, false, false, false, false, false, false]) (bvarE 1)) (andE (binE (pu iLe) (bltE (pu1 lenF) (consA (bvarE 1) nilA)) (cE (.int 240))) (bltE (pu1 allF) (consA (boxE (compE (itE (varE 1)) [2] (tgN 2) yesT (binE (ctnM 1 m_Bookzz_containszz) (varE 2) (varE 0)))) nilA)))))
def m_Book_is_word : List D → M D := fnM 3 g_Book_is_word
theorem ok_Book_is_word (t : TX K mg) : FnG False P w K mg base (L2.CX P w) 2 (He.ma K (He.ga K "Book") "is_word") (fdAt K (He.ma K (He.ga K "Book") "is_word")) ["self", "value"] (spF K (tbOf cls_ tabs_ K) 2 m_Book_is_word) :=
  fnD (st := s_Book_is_word) (N := ["self", "value", "name"]) (ps := ["self", "value"]) (k := 1) (g := g_Book_is_word) (u_Book_is_word t) sc_Book_is_word (by decide) fun cdv hcv A outer s H E p S hr =>
  (dss_one (ds_ret (de_and (de_isi (hCs t) (db_var 1) (pe_bty (t.free 74) bo_tuple) (.ty _) (t.isi (cs := cls_) (tf := tabs_) (u := fun _ => .type "tuple") 77 rfl) (t.free 16) bo_isinstance) (de_and (de_cmp od_iLe (db_of (de_blt cd_len (t.free 4) bo_len (dab_cons (db_var 1) dab_nil))) (db_of (de_gint (t.gint 78)))) (de_one (de_blt (cd_all rfl) (t.free 19) bo_all (dab_cons (db_of (de_box (dl_lc rfl sc_Book_is_word.nd (own := [(("name" : Str), 2)]) (di_val (de_var 1)) (blkOk_by (by kernel_rfl)) (fun l s H C cl fp => (dg_name (vs := [2]) sc_Book_is_word.nd (by decide))) (fun l s H C cl fp => dts_nil) (fun l s H C cl fp => (de_cmpV (ov_ctn (t.meth 79) (ok_Bookzz_containszz t) (hr.mono (by decide)) takes0 (b_Bookzz_containszz t) rfl) (de_var 2) (de_var 0)))))) dab_nil)))))))
theorem b_InvalidWordzz_initzz (t : TX K mg) : Binds K (fdAt K (He.ma K (He.ga K "InvalidWord") "__init__")) ["self", "value"] [] := FunD.bindsN (u_InvalidWordzz_initzz t) fun _ _ _ _ _ _ us hl => match us, hl with | [_, _], _ => rfl
theorem sc_InvalidWordzz_initzz : FnScope ["self", "value"] ["self", "value"] (defScope s_InvalidWordzz_initzz) := ⟨rfl, rfl, rfl, by decide +kernel, rfl, by decide +kernel, by decide +kernel⟩
theorem ok_InvalidWordzz_initzz (t : TX K mg) : FnOk P w K mg base (L2.CX P w) 1 (He.ma K (He.ga K "InvalidWord") "__init__") (fdAt K (He.ma K (He.ga K "InvalidWord") "__init__")) ["self", "value"] (spX (tbOf cls_ tabs_ K) 6) :=
  fnX1 (T := tbOf cls_ tabs_ K) (ec := 6) (u_InvalidWordzz_initzz t) sc_InvalidWordzz_initzz (t.oex 81) rfl (t.noat 82) fun cdv A outer s H E => pss_one (ps_xst (pv 0) (pv 1))
theorem b_Book_want_word (t : TX K mg) : Binds K (fdAt K (He.ma K (He.ga K "Book") "want_word")) ["self", "word"] [] := FunD.bindsN (u_Book_want_word t) fun _ _ _ _ _ _ us hl => match us, hl with | [_, _], _ => rfl
theorem sc_Book_want_word : FnScope ["self", "word"] ["self", "word"] (defScope s_Book_want_word) := ⟨rfl, rfl, rfl, by decide +kernel, rfl, by decide +kernel, by decide +kernel⟩
def g_Book_want_word : Slots → M Out := (ifS (notT (testE (methE 1 2 m_Book_is_word [] (varE 0) (consA (varE 1) nilA)))) (raiS 6 1 (consA (varE 1) nilA)) nilS)
def m_Book_want_word : List D → M D := fnM 2 g_Book_want_word
theorem ok_Book_want_word (t : TX K mg) : FnG False P w K mg base (L2.CX P w) 3 (He.ma K (He.ga K "Book") "want_word") (fdAt K (He.ma K (He.ga K "Book") "want_word")) ["self", "word"] (spF K (tbOf cls_ tabs_ K) 2 m_Book_want_word) :=
  fnD (st := s_Book_want_word) (N := ["self", "word"]) (ps := ["self", "word"]) (k := 2) (g := g_Book_want_word) (u_Book_want_word t) sc_Book_want_word (by decide) fun cdv hcv A outer s H E p S hr =>
  (dss_one (ds_if (dt_not (dt_val (de_meth (pl := _) (de_var 0) rfl no_Book_is_word (t.cls 70) (t.meth 80) (ok_Book_is_word t) (hr.mono (by decide)) (takes_of rfl rfl rfl rfl) (b_Book_is_word t) .nil cst_nil (da_cons (de_var 1) da_nil)))) (dss_one (ds_raise (ec := 6) (takes_of rfl rfl rfl rfl) (t.oex 81) (t.meth 83) (ok_InvalidWordzz_initzz t) (hr.room.mono (by decide)) (b_InvalidWordzz_initzz t) (t.glo 84) rfl (da_cons (de_var 1) da_nil))) dss_nil))
theorem b_yarn_needed (t : TX K mg) : Binds K (fdAt K (He.ga K "yarn_needed")) ["book", "names"] [] := FunD.bindsN (u_yarn_needed t) fun _ _ _ _ _ _ us hl => match us, hl with | [_, _], _ => rfl
theorem sc_yarn_needed : FnScope ["book", "names", "name"] ["book", "names"] (defScope s_yarn_needed) := ⟨rfl, rfl, rfl, by decide +kernel, rfl, by decide +kernel, by decide +kernel⟩
def g_yarn_needed : Slots → M Out := (retS (bltE (pu1 sumF) (consA (boxE (compE (itE (varE 1)) [2] (tgN 2) yesT (getE 0 5 (binE ixU (getE 1 0 (varE 0)) (bvarE 2))))) nilA)))
def m_yarn_needed : List D → M D := fnM 3 g_yarn_needed
theorem ok_yarn_needed (t : TX K mg) : FnG False P w K mg base (L2.CX P w) 1 (He.ga K "yarn_needed") (fdAt K (He.ga K "yarn_needed")) ["book", "names"] (spF K (tbOf cls_ tabs_ K) 2 m_yarn_needed) :=
  fnD (st := s_yarn_needed) (N := ["book", "names", "name"]) (ps := ["book", "names"]) (k := 0) (g := g_yarn_needed) (u_yarn_needed t) sc_yarn_needed (by decide) fun cdv hcv A outer s H E p S hr =>
  (dss_one (ds_ret (de_blt (cd_sum rfl) (t.free 76) bo_sum (dab_cons (db_of (de_box (dl_lc rfl sc_yarn_needed.nd (own := [(("name" : Str), 2)]) (di_val (de_var 1)) (blkOk_by (by kernel_rfl)) (fun l s H C cl fp => (dg_name (vs := [2]) sc_yarn_needed.nd (by decide))) (fun l s H C cl fp => dts_nil) (fun l s H C cl fp => (de_get (de_ixU hr.room (db_of (de_get (de_var 0) rfl (t.cls 70) (t.noat 69) nd_Book rfl)) (db_var 2)) rfl (t.cls 41) (t.noat 46) nd_Kind rfl))))) dab_nil))))
theorem b_Book_yarn_of (t : TX K mg) : Binds K (fdAt K (He.ma K (He.ga K "Book") "yarn_of")) ["self", "word"] [] := FunD.bindsN (u_Book_yarn_of t) fun _ _ _ _ _ _ us hl => match us, hl with | [_, _], _ => rfl
theorem kb_Book_yarn_of_1_word (t : TX K mg) : ∃ mv : List Value, KBn K (fdAt K (He.ma K (He.ga K "Book") "yarn_of")) ["self", "word"] 1 ["word"] (fun us ws => us ++ pick [(true, 0)] mv ws) (fun vs zs => vs ++ pick [(true, 0)] [] zs) := kbP (u_Book_yarn_of t) 1 ["word"] [(true, 0)] fun _ _ _ _ _ _ us ws h1 h2 => match us, ws, h1, h2 with | [_], [_], _, _ => rfl
theorem sc_Book_yarn_of : FnScope ["self", "word"] ["self", "word"] (defScope s_Book_yarn_of) := ⟨rfl, rfl, rfl, by decide +kernel, rfl, by decide +kernel, by decide +kernel⟩
def g_Book_yarn_of : Slots → M Out := (seqS (dropS (methE 1 2 m_Book_want_word [] (varE 0) (consA (varE 1) nilA)))
  (retS (callE 2 m_yarn_needed [] (consA (varE 0) (consA (varE 1) nilA)))))
def m_Book_yarn_of : List D → M D := fnM 2 g_Book_yarn_of
theorem ok_Book_yarn_of (t : TX K mg) : FnG False P w K mg base (L2.CX P w) 4 (He.ma K (He.ga K "Book") "yarn_of") (fdAt K (He.ma K (He.ga K "Book") "yarn_of")) ["self", "word"] (spF K (tbOf cls_ tabs_ K) 2 m_Book_yarn_of) :=
  fnD (st := s_Book_yarn_of) (N := ["self", "word"]) (ps := ["self", "word"]) (k := 3) (g := g_Book_yarn_of) (u_Book_yarn_of t) sc_Book_yarn_of (by decide) fun cdv hcv A outer s H E p S hr =>
  (dss_cons (ds_expr (de_meth (pl := _) (de_var 0) rfl no_Book_want_word (t.cls 70) (t.meth 85) (ok_Book_want_word t) (hr.mono (by decide)) (takes_of rfl rfl rfl rfl) (b_Book_want_word t) .nil cst_nil (da_cons (de_var 1) da_nil)))
  (dss_one (ds_ret (de_call (ok_yarn_needed t) (hr.mono (by decide)) (takes_of rfl rfl rfl rfl) (t.glo 86) (u_yarn_needed t).kp (b_yarn_needed t) .nil cst_nil (da_cons (de_var 0) (da_cons (de_var 1) da_nil))))))
theorem b_loops_made (t : TX K mg) : Binds K (fdAt K (He.ga K "loops_made")) ["book", "names"] [] := FunD.bindsN (u_loops_made t) fun _ _ _ _ _ _ us hl => match us, hl with | [_, _], _ => rfl
theorem sc_loops_made : FnScope ["book", "names", "name"] ["book", "names"] (defScope s_loops_made) := ⟨rfl, rfl, rfl, by decide +kernel, rfl, by decide +kernel, by decide +kernel⟩
def g_loops_made : Slots → M Out := (retS (bltE (pu1 sumF) (consA (boxE (compE (itE (varE 1)) [2] (tgN 2) yesT (getE 0 2 (binE ixU (getE 1 0 (varE 0)) (bvarE 2))))) nilA)))
def m_loops_made : List D → M D := fnM 3 g_loops_made
theorem ok_loops_made (t : TX K mg) : FnG False P w K mg base (L2.CX P w) 1 (He.ga K "loops_made") (fdAt K (He.ga K "loops_made")) ["book", "names"] (spF K (tbOf cls_ tabs_ K) 2 m_loops_made) :=
  fnD (st := s_loops_made) (N := ["book", "names", "name"]) (ps := ["book", "names"]) (k := 0) (g := g_loops_made) (u_loops_made t) sc_loops_made (by decide) fun cdv hcv A outer s H E p S hr =>
  (dss_one (ds_ret (de_blt (cd_sum rfl) (t.free 76) bo_sum (dab_cons (db_of (de_box (dl_lc rfl sc_loops_made.nd (own := [(("name" : Str), 2)]) (di_val (de_var 1)) (blkOk_by (by kernel_rfl)) (fun l s H C cl fp => (dg_name (vs := [2]) sc_loops_made.nd (by decide))) (fun l s H C cl fp => dts_nil) (fun l s H C cl fp => (de_get (de_ixU hr.room (db_of (de_get (de_var 0) rfl (t.cls 70) (t.noat 69) nd_Book rfl)) (db_var 2)) rfl (t.cls 41) (t.noat 43) nd_Kind rfl))))) dab_nil))))
theorem b_Book_made (t : TX K mg) : Binds K (fdAt K (He.ma K (He.ga K "Book") "made")) ["self", "word"] [] := FunD.bindsN (u_Book_made t) fun _ _ _ _ _ _ us hl => match us, hl with | [_, _], _ => rfl
theorem kb_Book_made_1_word (t : TX K mg) : ∃ mv : List Value, KBn K (fdAt K (He.ma K (He.ga K "Book") "made")) ["self", "word"] 1 ["word"] (fun us ws => us ++ pick [(true, 0)] mv ws) (fun vs zs => vs ++ pick [(true, 0)] [] zs) := kbP (u_Book_made t) 1 ["word"] [(true, 0)] fun _ _ _ _ _ _ us ws h1 h2 => match us, ws, h1, h2 with | [_], [_], _, _ => rfl
theorem sc_Book_made : FnScope ["self", "word"] ["self", "word"] (defScope s_Book_made) := ⟨rfl, rfl, rfl, by decide +kernel, rfl, by decide +kernel, by decide +kernel⟩
def g_Book_made : Slots → M Out := (seqS (dropS (methE 1 2 m_Book_want_word [] (varE 0) (consA (varE 1) nilA)))
  (retS (callE 2 m_loops_made [] (consA (varE 0) (consA (varE 1) nilA)))))
def m_Book_made : List D → M D := fnM 2 g_Book_made
theorem ok_Book_made (t : TX K mg) : FnG False P w K mg base (L2.CX P w) 4 (He.ma K (He.ga K "Book") "made") (fdAt K (He.ma K (He.ga K "Book") "made")) ["self", "word"] (spF K (tbOf cls_ tabs_ K) 2 m_Book_made) :=
  fnD (st := s_Book_made) (N := ["self", "word"]) (ps := ["self", "word"]) (k := 3) (g := g_Book_made) (u_Book_made t) sc_Book_made (by decide) fun cdv hcv A outer s H E p S hr =>
  (dss_cons (ds_expr (de_meth (pl := _) (de_var 0) rfl no_Book_want_word (t.cls 70) (t.meth 85) (ok_Book_want_word t) (hr.mono (by decide)) (takes_of rfl rfl rfl rfl) (b_Book_want_word t) .nil cst_nil (da_cons (de_var 1) da_nil)))
  (dss_one (ds_ret (de_call (ok_loops_made t) (hr.mono (by decide)) (takes_of rfl rfl rfl rfl) (t.glo 88) (u_loops_made t).kp (b_loops_made t) .nil cst_nil (da_cons (de_var 0) (da_cons (de_var 1) da_nil))))))
theorem b_loops_taken (t : TX K mg) : Binds K (fdAt K (He.ga K "loops_taken")) ["book", "names"] [] := FunD.bindsN (u_loops_taken t) fun _ _ _ _ _ _ us hl => match us, hl with | [_, _], _ => rfl
theorem sc_loops_taken : FnScope ["book", "names", "name"] ["book", "names"] (defScope s_loops_taken) := ⟨rfl, rfl, rfl, by decide +kernel, rfl, by decide +kernel, by decide +kernel⟩
def g_loops_taken : Slots → M Out := (retS (bltE (pu1 sumF) (consA (boxE (compE (itE (varE 1)) [2] (tgN 2) yesT (getE 0 1 (binE ixU (getE 1 0 (varE 0)) (bvarE 2))))) nilA)))
def m_loops_taken : List D → M D := fnM 3 g_loops_taken
theorem ok_loops_taken (t : TX K mg) : FnG False P w K mg base (L2.CX P w) 1 (He.ga K "loops_taken") (fdAt K (He.ga K "loops_taken")) ["book", "names"] (spF K (tbOf cls_ tabs_ K) 2 m_loops_taken) :=
  fnD (st := s_loops_taken) (N := ["book", "names", "name"]) (ps := ["book", "names"]) (k := 0) (g := g_loops_taken) (u_loops_taken t) sc_loops_taken (by decide) fun cdv hcv A outer s H E p S hr =>
  (dss_one (ds_ret (de_blt (cd_sum rfl) (t.free 76) bo_sum (dab_cons (db_of (de_box (dl_lc rfl sc_loops_taken.nd (own := [(("name" : Str), 2)]) (di_val (de_var 1)) (blkOk_by (by kernel_rfl)) (fun l s H C cl fp => (dg_name (vs := [2]) sc_loops_taken.nd (by decide))) (fun l s H C cl fp => dts_nil) (fun l s H C cl fp => (de_get (de_ixU hr.room (db_of (de_get (de_var 0) rfl (t.cls 70) (t.noat 69) nd_Book rfl)) (db_var 2)) rfl (t.cls 41) (t.noat 42) nd_Kind rfl))))) dab_nil))))
theorem b_Book_taken (t : TX K mg) : Binds K (fdAt K (He.ma K (He.ga K "Book") "taken")) ["self", "word"] [] := FunD.bindsN (u_Book_taken t) fun _ _ _ _ _ _ us hl => match us, hl with | [_, _], _ => rfl
theorem kb_Book_taken_1_word (t : TX K mg) : ∃ mv : List Value, KBn K (fdAt K (He.ma K (He.ga K "Book") "taken")) ["self", "word"] 1 ["word"] (fun us ws => us ++ pick [(true, 0)] mv ws) (fun vs zs => vs ++ pick [(true, 0)] [] zs) := kbP (u_Book_taken t) 1 ["word"] [(true, 0)] fun _ _ _ _ _ _ us ws h1 h2 => match us, ws, h1, h2 with | [_], [_], _, _ => rfl
theorem sc_Book_taken : FnScope ["self", "word"] ["self", "word"] (defScope s_Book_taken) := ⟨rfl, rfl, rfl, by decide +kernel, rfl, by decide +kernel, by decide +kernel⟩
def g_Book_taken : Slots → M Out := (seqS (dropS (methE 1 2 m_Book_want_word [] (varE 0) (consA (varE 1) nilA)))
  (retS (callE 2 m_loops_taken [] (consA (varE 0) (consA (varE 1) nilA)))))
def m_Book_taken : List D → M D := fnM 2 g_Book_taken
theorem ok_Book_taken (t : TX K mg) : FnG False P w K mg base (L2.CX P w) 4 (He.ma K (He.ga K "Book") "taken") (fdAt K (He.ma K (He.ga K "Book") "taken")) ["self", "word"] (spF K (tbOf cls_ tabs_ K) 2 m_Book_taken) :=
  fnD (st := s_Book_taken) (N := ["self", "word"]) (ps := ["self", "word"]) (k := 3) (g := g_Book_taken) (u_Book_taken t) sc_Book_taken (by decide) fun cdv hcv A outer s H E p S hr =>
  (dss_cons (ds_expr (de_meth (pl := _) (de_var 0) rfl no_Book_want_word (t.cls 70) (t.meth 85) (ok_Book_want_word t) (hr.mono (by decide)) (takes_of rfl rfl rfl rfl) (b_Book_want_word t) .nil cst_nil (da_cons (de_var 1) da_nil)))
  (dss_one (ds_ret (de_call (ok_loops_taken t) (hr.mono (by decide)) (takes_of rfl rfl rfl rfl) (t.glo 90) (u_loops_taken t).kp (b_loops_taken t) .nil cst_nil (da_cons (de_var 0) (da_cons (de_var 1) da_nil))))))
theorem b__law_sums_right (t : TX K mg) : Binds K (fdAt K (He.ga K "_law_sums_right")) ["_law_shelf", "_law_shop", "_law_part"] [] := FunD.bindsN (u__law_sums_right t) fun _ _ _ _ _ _ us hl => match us, hl with | [_, _, _], _ => rfl
theorem sc__law_sums_right : FnScope ["_law_shelf", "_law_shop", "_law_part", "_law_due", "_law_label", "_law_place", "_law_told"] ["_law_shelf", "_law_shop", "_law_part"] (defScope s__law_sums_right) := ⟨rfl, rfl, rfl, by decide +kernel, rfl, by decide +kernel, by decide +kernel⟩
def g__law_sums_right_s1 : Slots → M Out := (asgS 3 (boxE (compE (itE (boxE (lenA (consA (cE (.int 0)) (consA (cE (.int 1)) (consA (cE (.int 4)) nilA)))))) [5] (tgN 5) yesT (bltE (pu1 sumF) (consA (boxE (compE (itE (varE 2)) [4] (tgN 4) yesT (binE ixU (binE ixU (bvarE 1) (bvarE 4)) (bvarE 5)))) nilA)))))
def g__law_sums_right_s2 : Slots → M Out := (ifS (testE (binE (pu dNe) (bltE (pu1 reprG) (consA (boxE (lenA (consA (methE 1 2 m_Book_taken [] (varE 0) (consA (varE 2) nilA)) (consA (methE 1 2 m_Book_made [] (varE 0) (consA (varE 2) nilA)) (consA (methE 1 2 m_Book_yarn_of [] (varE 0) (consA (varE 2) nilA)) nilA))))) nilA)) (bltE (pu1 reprG) (consA (bvarE 3) nilA)))) (retS (cE (.bl false))) nilS)
def g__law_sums_right_s3 : Slots → M Out := (asgS 6 (boxE (lenA (consA (methKE 1 2 1 m_Book_taken [(true, 0)] [] (varE 0) (consA (varE 2) nilA)) (consA (methKE 1 2 1 m_Book_made [(true, 0)] [] (varE 0) (consA (varE 2) nilA)) (consA (methKE 1 2 1 m_Book_yarn_of [(true, 0)] [] (varE 0) (consA (varE 2) nilA)) nilA))))))
def g__law_sums_right_s4 : Slots → M Out := (retS (andE (binE (pu dEq) (bvarE 6) (bvarE 3)) (andE (binE isU (methE 1 2 m_Book_is_word [] (varE 0) (consA (varE 2) nilA)) (cE (.bl true))) (binE isU (methKE 1 2 1 m_Book_is_word [(true, 0)] [] (varE 0) (consA (varE 2) nilA)) (cE (.bl true))))))
def g__law_sums_right : Slots → M Out := (seqS g__law_sums_right_s1
  (seqS g__law_sums_right_s2
  (seqS g__law_sums_right_s3
  g__law_sums_right_s4)))
def m__law_sums_right : List D → M D := fnM 7 g__law_sums_right
theorem ok__law_sums_right (t : TX K mg) : FnG True P w K mg base (L2.CX P w) 5 (He.ga K "_law_sums_right") (fdAt K (He.ga K "_law_sums_right")) ["_law_shelf", "_law_shop", "_law_part"] (spF K (tbOf cls_ tabs_ K) 3 m__law_sums_right) := by
  obtain ⟨mv_Book_yarn_of_1_word, hk_Book_yarn_of_1_word⟩ := kb_Book_yarn_of_1_word t
  obtain ⟨mv_Book_made_1_word, hk_Book_made_1_word⟩ := kb_Book_made_1_word t
  obtain ⟨mv_Book_taken_1_word, hk_Book_taken_1_word⟩ := kb_Book_taken_1_word t
  obtain ⟨mv_Book_is_word_1_value, hk_Book_is_word_1_value⟩ := kb_Book_is_word_1_value t
  exact fnD (st := s__law_sums_right) (N := ["_law_shelf", "_law_shop", "_law_part", "_law_due", "_law_label", "_law_place", "_law_told"]) (ps := ["_law_shelf", "_law_shop", "_law_part"]) (k := 4) (g := g__law_sums_right) (u__law_sums_right t) sc__law_sums_right (by decide) fun cdv hcv A outer s H E p S hr =>
  (dss_cons (ds_box (ps_lc (i := 3) rfl sc__law_sums_right.nd rfl rfl rfl (own := [(("_law_place" : Str), 5)]) (di_val (de_box (dl_lst (da_cons de_int (da_cons de_int (da_cons de_int da_nil)))))) (blkOk_by (by kernel_rfl)) (fun l s H C cl fp => (dg_name (vs := [5]) sc__law_sums_right.nd (by decide))) (fun l s H C cl fp => dts_nil) (fun l s H C cl fp => (de_blt (cd_sum rfl) (t.free 76) bo_sum (dab_cons (db_of (de_box (dl_lc rfl sc__law_sums_right.nd (own := [(("_law_label" : Str), 4)]) (di_val (de_var 2)) (blkOk_by (by kernel_rfl)) (fun l s H C cl fp => (dg_name (vs := [4]) sc__law_sums_right.nd (by decide))) (fun l s H C cl fp => dts_nil) (fun l s H C cl fp => (de_ixU hr.room (db_of (de_ixU hr.room (db_var 1) (db_var 4))) (db_var 5)))))) dab_nil)))))
  (dss_cons (ds_if (dt_cmp (od_dNe hr.room) (db_of (de_blt (cd_reprG (t.sys 92) hr) (t.free 93) bo_repr (dab_cons (db_of (de_box (dl_lst (da_cons (de_meth (pl := _) (de_var 0) rfl no_Book_taken (t.cls 70) (t.meth 91) (ok_Book_taken t) (hr.lo (by decide)) (takes_of rfl rfl rfl rfl) (b_Book_taken t) .nil cst_nil (da_cons (de_var 2) da_nil)) (da_cons (de_meth (pl := _) (de_var 0) rfl no_Book_made (t.cls 70) (t.meth 89) (ok_Book_made t) (hr.lo (by decide)) (takes_of rfl rfl rfl rfl) (b_Book_made t) .nil cst_nil (da_cons (de_var 2) da_nil)) (da_cons (de_meth (pl := _) (de_var 0) rfl no_Book_yarn_of (t.cls 70) (t.meth 87) (ok_Book_yarn_of t) (hr.lo (by decide)) (takes_of rfl rfl rfl rfl) (b_Book_yarn_of t) .nil cst_nil (da_cons (de_var 2) da_nil)) da_nil)))))) dab_nil))) (db_of (de_blt (cd_reprG (t.sys 92) hr) (t.free 93) bo_repr (dab_cons (db_var 3) dab_nil)))) (dss_one (ds_ret de_bl)) dss_nil)
  (dss_cons (ds_asg (i := 6) sc__law_sums_right.nd (de_box (dl_lst (da_cons (de_methK0 (pl := _) (de_var 0) rfl no_Book_taken (t.cls 70) (t.meth 91) (ok_Book_taken t) (hr.lo (by decide)) (takes_of rfl rfl rfl rfl) hk_Book_taken_1_word cst_nil (dk_cons (de_var 2) dk_nil)) (da_cons (de_methK0 (pl := _) (de_var 0) rfl no_Book_made (t.cls 70) (t.meth 89) (ok_Book_made t) (hr.lo (by decide)) (takes_of rfl rfl rfl rfl) hk_Book_made_1_word cst_nil (dk_cons (de_var 2) dk_nil)) (da_cons (de_methK0 (pl := _) (de_var 0) rfl no_Book_yarn_of (t.cls 70) (t.meth 87) (ok_Book_yarn_of t) (hr.lo (by decide)) (takes_of rfl rfl rfl rfl) hk_Book_yarn_of_1_word cst_nil (dk_cons (de_var 2) dk_nil)) da_nil))))))
  (dss_one (ds_ret (de_and (de_cmp (od_dEq hr.room) (db_var 6) (db_var 3)) (de_and (de_cmp od_isU (db_of (de_meth (pl := _) (de_var 0) rfl no_Book_is_word (t.cls 70) (t.meth 80) (ok_Book_is_word t) (hr.lo (by decide)) (takes_of rfl rfl rfl rfl) (b_Book_is_word t) .nil cst_nil (da_cons (de_var 2) da_nil))) (db_of de_bl)) (de_one (de_cmp od_isU (db_of (de_methK0 (pl := _) (de_var 0) rfl no_Book_is_word (t.cls 70) (t.meth 80) (ok_Book_is_word t) (hr.lo (by decide)) (takes_of rfl rfl rfl rfl) hk_Book_is_word_1_value cst_nil (dk_cons (de_var 2) dk_nil))) (db_of de_bl))))))))))
theorem b__law_backward (t : TX K mg) : Binds K (fdAt K (He.ga K "_law_backward")) ["_law_shop", "_law_part", "_law_place"] [] := FunD.bindsN (u__law_backward t) fun _ _ _ _ _ _ us hl => match us, hl with | [_, _, _], _ => rfl
theorem sc__law_backward : FnScope ["_law_shop", "_law_part", "_law_place", "_law_bare", "_law_label"] ["_law_shop", "_law_part", "_law_place"] (defScope s__law_backward) := ⟨rfl, rfl, rfl, by decide +kernel, rfl, by decide +kernel, by decide +kernel⟩
def g__law_backward : Slots → M Out := (seqS (asgS 3 (boxE (compE (itE (varE 1)) [4] (tgN 4) (testE (binE isU (binE ixU (binE ixU (bvarE 0) (bvarE 4)) (bvarE 2)) (cE .non))) (varE 4))))
  (seqS (ifS (testE (binE (pu dNe) (bvarE 3) (boxE (lenA nilA)))) (retS (tupE (consA (ifE (testE (binE (pu dEq) (bvarE 2) (cE (.int 2)))) (cE (.str "back")) (cE (.str "mirror"))) (consA (binE ixU (bvarE 3) (cE (.int 0))) nilA)))) nilS)
  (retS (tupE (consA (cE (.str "told")) (consA (bltE tupF (consA (boxE (compE (itE (revTE (varE 1))) [4] (tgN 4) yesT (binE ixU (binE ixU (bvarE 0) (bvarE 4)) (bvarE 2)))) nilA)) nilA))))))
def m__law_backward : List D → M D := fnM 5 g__law_backward
theorem ok__law_backward (t : TX K mg) : FnG False P w K mg base (L2.CX P w) 1 (He.ga K "_law_backward") (fdAt K (He.ga K "_law_backward")) ["_law_shop", "_law_part", "_law_place"] (spF K (tbOf cls_ tabs_ K) 3 m__law_backward) :=
  fnD (st := s__law_backward) (N := ["_law_shop", "_law_part", "_law_place", "_law_bare", "_law_label"]) (ps := ["_law_shop", "_law_part", "_law_place"]) (k := 0) (g := g__law_backward) (u__law_backward t) sc__law_backward (by decide) fun cdv hcv A outer s H E p S hr =>
  (dss_cons (ds_box (ps_lc (i := 3) rfl sc__law_backward.nd rfl rfl rfl (own := [(("_law_label" : Str), 4)]) (di_val (de_var 1)) (blkOk_by (by kernel_rfl)) (fun l s H C cl fp => (dg_name (vs := [4]) sc__law_backward.nd (by decide))) (fun l s H C cl fp => (dts_one (dt_cmp od_isU (db_of (de_ixU hr.room (db_of (de_ixU hr.room (db_var 0) (db_var 4))) (db_var 2))) (db_of de_non)))) (fun l s H C cl fp => (de_var 4))))
  (dss_cons (ds_if (dt_cmp (od_dNe hr.room) (db_var 3) (db_of (de_box (dl_lst da_nil)))) (dss_one (ds_ret (de_tup (da_cons (de_if (dt_cmp (od_dEq hr.room) (db_var 2) (db_of de_int)) de_str de_str) (da_cons (de_ixU hr.room (db_var 3) (db_of de_int)) da_nil))))) dss_nil)
  (dss_one (ds_ret (de_tup (da_cons de_str (da_cons (de_blt_ty cd_tuple (t.free 74) bo_tuple (dab_cons (db_of (de_box (dl_lc rfl sc__law_backward.nd (own := [(("_law_label" : Str), 4)]) (di_val (de_revT (de_var 1))) (blkOk_by (by kernel_rfl)) (fun l s H C cl fp => (dg_name (vs := [4]) sc__law_backward.nd (by decide))) (fun l s H C cl fp => dts_nil) (fun l s H C cl fp => (de_ixU hr.room (db_of (de_ixU hr.room (db_var 0) (db_var 4))) (db_var 2)))))) dab_nil)) da_nil)))))))
theorem b__law_heard (t : TX K mg) : Binds K (fdAt K (He.ga K "_law_heard")) ["_law_call"] [] := FunD.bindsN (u__law_heard t) fun _ _ _ _ _ _ us hl => match us, hl with | [_], _ => rfl
theorem sc__law_heard : FnScope ["_law_call", "e"] ["_law_call"] (defScope s__law_heard) := ⟨rfl, rfl, rfl, by decide +kernel, rfl, by decide +kernel, by decide +kernel⟩
def g__law_heard (m : M D) : Slots → M Out := (tryS 2 (retS (tupE (consA (cE (.str "told")) (consA (actE m) nilA)))) [⟨fun e => ((exm_NoBack : List (Option Bool))[e]?).join, 1, (retS (tupE (consA (cE (.str "back")) (consA (xfE 1 8 0) nilA))))⟩, ⟨fun e => ((exm_NoMirror : List (Option Bool))[e]?).join, 1, (retS (tupE (consA (cE (.str "mirror")) (consA (xfE 1 9 0) nilA))))⟩])
def hm__law_heard : M D → M D := lamM 1 g__law_heard
theorem gv__law_heard {X : Cx} (t : TX X.K X.mg) (hr0 : Rm False (0 + 1) X.A) (cdv : Value) {q : Str} : LamX.GivesTo X ["_law_call", "e"] "_law_heard" (defScope s__law_heard) (He.ga X.K "_law_heard") cdv (defBody s__law_heard) "_law_call" q (TTd X.K (tbOf cls_ tabs_ X.K) hm__law_heard) := by
  have hr : ∀ env, Rm False 0 (X.A.deeper env) := fun env => hr0.deeper env
  exact gives_of (n := 1) (N := ["_law_call", "e"]) (g := g__law_heard) rfl (fun f c2 s H p S m act =>
  (dss_one (ds_try rfl sc__law_heard.nd takes0 (fun E1 pn xe tk1 po => (dss_one (ds_ret (de_tup (da_cons de_str (da_cons (act E1 pn xe _ _ tk1) da_nil)))))) (.cons ⟨rfl, by decide, .inl (t.glo 99)⟩ rfl rfl (t.exm (cs := cls_) (tf := tabs_) (bs := exm_NoBack) 96 rfl) (fun a oe cls d pn hz hf => (dss_one (ds_ret (de_tup (da_cons de_str (da_cons (de_xf (i := 1) (ec := 8) (j := 0) (t.xf 97) (t.noat 98) rfl hz hf) da_nil)))))) (.cons ⟨rfl, by decide, .inl (t.glo 103)⟩ rfl rfl (t.exm (cs := cls_) (tf := tabs_) (bs := exm_NoMirror) 100 rfl) (fun a oe cls d pn hz hf => (dss_one (ds_ret (de_tup (da_cons de_str (da_cons (de_xf (i := 1) (ec := 9) (j := 0) (t.xf 101) (t.noat 102) rfl hz hf) da_nil)))))) .nil)))))
theorem b_NoBackzz_initzz (t : TX K mg) : Binds K (fdAt K (He.ma K (He.ga K "NoBack") "__init__")) ["self", "name"] [] := FunD.bindsN (u_NoBackzz_initzz t) fun _ _ _ _ _ _ us hl => match us, hl with | [_, _], _ => rfl
theorem sc_NoBackzz_initzz : FnScope ["self", "name"] ["self", "name"] (defScope s_NoBackzz_initzz) := ⟨rfl, rfl, rfl, by decide +kernel, rfl, by decide +kernel, by decide +kernel⟩
theorem ok_NoBackzz_initzz (t : TX K mg) : FnOk P w K mg base (L2.CX P w) 1 (He.ma K (He.ga K "NoBack") "__init__") (fdAt K (He.ma K (He.ga K "NoBack") "__init__")) ["self", "name"] (spX (tbOf cls_ tabs_ K) 8) :=
  fnX1 (T := tbOf cls_ tabs_ K) (ec := 8) (u_NoBackzz_initzz t) sc_NoBackzz_initzz (t.oex 104) rfl (t.noat 98) fun cdv A outer s H E => pss_one (ps_xst (pv 0) (pv 1))
theorem b_names_behind (t : TX K mg) : Binds K (fdAt K (He.ga K "names_behind")) ["book", "names"] [] := FunD.bindsN (u_names_behind t) fun _ _ _ _ _ _ us hl => match us, hl with | [_, _], _ => rfl
theorem sc_names_behind : FnScope ["book", "names", "name"] ["book", "names"] (defScope s_names_behind) := ⟨rfl, rfl, rfl, by decide +kernel, rfl, by decide +kernel, by decide +kernel⟩
def g_names_behind_b1 : Slots → M Out := (ifS (testE (binE isU (getE 0 3 (binE ixU (getE 1 0 (varE 0)) (bvarE 2))) (cE .non))) (raiS 8 1 (consA (varE 2) nilA)) nilS)
def g_names_behind : Slots → M Out := (seqS (forS (itE (varE 1)) (tgN 2) g_names_behind_b1)
  (retS (bltE tupF (consA (boxE (compE (revI (varE 1)) [2] (tgN 2) yesT (getE 0 3 (binE ixU (getE 1 0 (varE 0)) (bvarE 2))))) nilA))))
def m_names_behind : List D → M D := fnM 3 g_names_behind
theorem ok_names_behind (t : TX K mg) : FnG False P w K mg base (L2.CX P w) 3 (He.ga K "names_behind") (fdAt K (He.ga K "names_behind")) ["book", "names"] (spF K (tbOf cls_ tabs_ K) 2 m_names_behind) :=
  fnD (st := s_names_behind) (N := ["book", "names", "name"]) (ps := ["book", "names"]) (k := 2) (g := g_names_behind) (u_names_behind t) sc_names_behind (by decide) fun cdv hcv A outer s H E p S hr =>
  (dss_cons (ds_for (passes_of rfl) rfl (di_val (de_var 1)) (dg_name (vs := [2]) sc_names_behind.nd (by decide)) (dss_one (ds_if (dt_cmp od_isU (db_of (de_get (de_ixU hr.room (db_of (de_get (de_var 0) rfl (t.cls 70) (t.noat 69) nd_Book rfl)) (db_var 2)) rfl (t.cls 41) (t.noat 44) nd_Kind rfl)) (db_of de_non)) (dss_one (ds_raise (ec := 8) (takes_of rfl rfl rfl rfl) (t.oex 104) (t.meth 105) (ok_NoBackzz_initzz t) (hr.room.mono (by decide)) (b_NoBackzz_initzz t) (t.glo 99) rfl (da_cons (de_var 2) da_nil))) dss_nil)))
  (dss_one (ds_ret (de_blt_ty cd_tuple (t.free 74) bo_tuple (dab_cons (db_of (de_box (dl_lc rfl sc_names_behind.nd (own := [(("name" : Str), 2)]) (di_rev (de_var 1) (t.free 106)) (blkOk_by (by kernel_rfl)) (fun l s H C cl fp => (dg_name (vs := [2]) sc_names_behind.nd (by decide))) (fun l s H C cl fp => dts_nil) (fun l s H C cl fp => (de_get (de_ixU hr.room (db_of (de_get (de_var 0) rfl (t.cls 70) (t.noat 69) nd_Book rfl)) (db_var 2)) rfl (t.cls 41) (t.noat 44) nd_Kind rfl))))) dab_nil)))))
theorem b_Book_turned (t : TX K mg) : Binds K (fdAt K (He.ma K (He.ga K "Book") "turned")) ["self", "word"] [] := FunD.bindsN (u_Book_turned t) fun _ _ _ _ _ _ us hl => match us, hl with | [_, _], _ => rfl
theorem kb_Book_turned_1_word (t : TX K mg) : ∃ mv : List Value, KBn K (fdAt K (He.ma K (He.ga K "Book") "turned")) ["self", "word"] 1 ["word"] (fun us ws => us ++ pick [(true, 0)] mv ws) (fun vs zs => vs ++ pick [(true, 0)] [] zs) := kbP (u_Book_turned t) 1 ["word"] [(true, 0)] fun _ _ _ _ _ _ us ws h1 h2 => match us, ws, h1, h2 with | [_], [_], _, _ => rfl
theorem sc_Book_turned : FnScope ["self", "word"] ["self", "word"] (defScope s_Book_turned) := ⟨rfl, rfl, rfl, by decide +kernel, rfl, by decide +kernel, by decide +kernel⟩
def g_Book_turned : Slots → M Out := (seqS (dropS (methE 1 2 m_Book_want_word [] (varE 0) (consA (varE 1) nilA)))
  (retS (callE 2 m_names_behind [] (consA (varE 0) (consA (varE 1) nilA)))))
def m_Book_turned : List D → M D := fnM 2 g_Book_turned
theorem ok_Book_turned (t : TX K mg) : FnG False P w K mg base (L2.CX P w) 4 (He.ma K (He.ga K "Book") "turned") (fdAt K (He.ma K (He.ga K "Book") "turned")) ["self", "word"] (spF K (tbOf cls_ tabs_ K) 2 m_Book_turned) :=
  fnD (st := s_Book_turned) (N := ["self", "word"]) (ps := ["self", "word"]) (k := 3) (g := g_Book_turned) (u_Book_turned t) sc_Book_turned (by decide) fun cdv hcv A outer s H E p S hr =>
  (dss_cons (ds_expr (de_meth (pl := _) (de_var 0) rfl no_Book_want_word (t.cls 70) (t.meth 85) (ok_Book_want_word t) (hr.mono (by decide)) (takes_of rfl rfl rfl rfl) (b_Book_want_word t) .nil cst_nil (da_cons (de_var 1) da_nil)))
  (dss_one (ds_ret (de_call (ok_names_behind t) (hr.mono (by decide)) (takes_of rfl rfl rfl rfl) (t.glo 107) (u_names_behind t).kp (b_names_behind t) .nil cst_nil (da_cons (de_var 0) (da_cons (de_var 1) da_nil))))))
theorem b_NoMirrorzz_initzz (t : TX K mg) : Binds K (fdAt K (He.ma K (He.ga K "NoMirror") "__init__")) ["self", "name"] [] := FunD.bindsN (u_NoMirrorzz_initzz t) fun _ _ _ _ _ _ us hl => match us, hl with | [_, _], _ => rfl
theorem sc_NoMirrorzz_initzz : FnScope ["self", "name"] ["self", "name"] (defScope s_NoMirrorzz_initzz) := ⟨rfl, rfl, rfl, by decide +kernel, rfl, by decide +kernel, by decide +kernel⟩
theorem ok_NoMirrorzz_initzz (t : TX K mg) : FnOk P w K mg base (L2.CX P w) 1 (He.ma K (He.ga K "NoMirror") "__init__") (fdAt K (He.ma K (He.ga K "NoMirror") "__init__")) ["self", "name"] (spX (tbOf cls_ tabs_ K) 9) :=
  fnX1 (T := tbOf cls_ tabs_ K) (ec := 9) (u_NoMirrorzz_initzz t) sc_NoMirrorzz_initzz (t.oex 110) rfl (t.noat 102) fun cdv A outer s H E => pss_one (ps_xst (pv 0) (pv 1))
theorem b_names_in_mirror (t : TX K mg) : Binds K (fdAt K (He.ga K "names_in_mirror")) ["book", "names"] [] := FunD.bindsN (u_names_in_mirror t) fun _ _ _ _ _ _ us hl => match us, hl with | [_, _], _ => rfl
theorem sc_names_in_mirror : FnScope ["book", "names", "name"] ["book", "names"] (defScope s_names_in_mirror) := ⟨rfl, rfl, rfl, by decide +kernel, rfl, by decide +kernel, by decide +kernel⟩
def g_names_in_mirror_b1 : Slots → M Out := (ifS (testE (binE isU (getE 0 4 (binE ixU (getE 1 0 (varE 0)) (bvarE 2))) (cE .non))) (raiS 9 1 (consA (varE 2) nilA)) nilS)
def g_names_in_mirror : Slots → M Out := (seqS (forS (itE (varE 1)) (tgN 2) g_names_in_mirror_b1)
  (retS (bltE tupF (consA (boxE (compE (revI (varE 1)) [2] (tgN 2) yesT (getE 0 4 (binE ixU (getE 1 0 (varE 0)) (bvarE 2))))) nilA))))
def m_names_in_mirror : List D → M D := fnM 3 g_names_in_mirror
theorem ok_names_in_mirror (t : TX K mg) : FnG False P w K mg base (L2.CX P w) 3 (He.ga K "names_in_mirror") (fdAt K (He.ga K "names_in_mirror")) ["book", "names"] (spF K (tbOf cls_ tabs_ K) 2 m_names_in_mirror) :=
  fnD (st := s_names_in_mirror) (N := ["book", "names", "name"]) (ps := ["book", "names"]) (k := 2) (g := g_names_in_mirror) (u_names_in_mirror t) sc_names_in_mirror (by decide) fun cdv hcv A outer s H E p S hr =>
  (dss_cons (ds_for (passes_of rfl) rfl (di_val (de_var 1)) (dg_name (vs := [2]) sc_names_in_mirror.nd (by decide)) (dss_one (ds_if (dt_cmp od_isU (db_of (de_get (de_ixU hr.room (db_of (de_get (de_var 0) rfl (t.cls 70) (t.noat 69) nd_Book rfl)) (db_var 2)) rfl (t.cls 41) (t.noat 45) nd_Kind rfl)) (db_of de_non)) (dss_one (ds_raise (ec := 9) (takes_of rfl rfl rfl rfl) (t.oex 110) (t.meth 111) (ok_NoMirrorzz_initzz t) (hr.room.mono (by decide)) (b_NoMirrorzz_initzz t) (t.glo 103) rfl (da_cons (de_var 2) da_nil))) dss_nil)))
  (dss_one (ds_ret (de_blt_ty cd_tuple (t.free 74) bo_tuple (dab_cons (db_of (de_box (dl_lc rfl sc_names_in_mirror.nd (own := [(("name" : Str), 2)]) (di_rev (de_var 1) (t.free 106)) (blkOk_by (by kernel_rfl)) (fun l s H C cl fp => (dg_name (vs := [2]) sc_names_in_mirror.nd (by decide))) (fun l s H C cl fp => dts_nil) (fun l s H C cl fp => (de_get (de_ixU hr.room (db_of (de_get (de_var 0) rfl (t.cls 70) (t.noat 69) nd_Book rfl)) (db_var 2)) rfl (t.cls 41) (t.noat 45) nd_Kind rfl))))) dab_nil)))))
theorem b_Book_mirrored (t : TX K mg) : Binds K (fdAt K (He.ma K (He.ga K "Book") "mirrored")) ["self", "word"] [] := FunD.bindsN (u_Book_mirrored t) fun _ _ _ _ _ _ us hl => match us, hl with | [_, _], _ => rfl
theorem kb_Book_mirrored_1_word (t : TX K mg) : ∃ mv : List Value, KBn K (fdAt K (He.ma K (He.ga K "Book") "mirrored")) ["self", "word"] 1 ["word"] (fun us ws => us ++ pick [(true, 0)] mv ws) (fun vs zs => vs ++ pick [(true, 0)] [] zs) := kbP (u_Book_mirrored t) 1 ["word"] [(true, 0)] fun _ _ _ _ _ _ us ws h1 h2 => match us, ws, h1, h2 with | [_], [_], _, _ => rfl
theorem sc_Book_mirrored : FnScope ["self", "word"] ["self", "word"] (defScope s_Book_mirrored) := ⟨rfl, rfl, rfl, by decide +kernel, rfl, by decide +kernel, by decide +kernel⟩
def g_Book_mirrored : Slots → M Out := (seqS (dropS (methE 1 2 m_Book_want_word [] (varE 0) (consA (varE 1) nilA)))
  (retS (callE 2 m_names_in_mirror [] (consA (varE 0) (consA (varE 1) nilA)))))
def m_Book_mirrored : List D → M D := fnM 2 g_Book_mirrored
theorem ok_Book_mirrored (t : TX K mg) : FnG False P w K mg base (L2.CX P w) 4 (He.ma K (He.ga K "Book") "mirrored") (fdAt K (He.ma K (He.ga K "Book") "mirrored")) ["self", "word"] (spF K (tbOf cls_ tabs_ K) 2 m_Book_mirrored) :=
  fnD (st := s_Book_mirrored) (N := ["self", "word"]) (ps := ["self", "word"]) (k := 3) (g := g_Book_mirrored) (u_Book_mirrored t) sc_Book_mirrored (by decide) fun cdv hcv A outer s H E p S hr =>
  (dss_cons (ds_expr (de_meth (pl := _) (de_var 0) rfl no_Book_want_word (t.cls 70) (t.meth 85) (ok_Book_want_word t) (hr.mono (by decide)) (takes_of rfl rfl rfl rfl) (b_Book_want_word t) .nil cst_nil (da_cons (de_var 1) da_nil)))
  (dss_one (ds_ret (de_call (ok_names_in_mirror t) (hr.mono (by decide)) (takes_of rfl rfl rfl rfl) (t.glo 112) (u_names_in_mirror t).kp (b_names_in_mirror t) .nil cst_nil (da_cons (de_var 0) (da_cons (de_var 1) da_nil))))))
theorem b__law_turns_right (t : TX K mg) : Binds K (fdAt K (He.ga K "_law_turns_right")) ["_law_shelf", "_law_shop", "_law_part"] [] := FunD.bindsN (u__law_turns_right t) fun _ _ _ _ _ _ us hl => match us, hl with | [_, _, _], _ => rfl
theorem sc__law_turns_right : FnScope ["_law_shelf", "_law_shop", "_law_part", "_law_dues", "_law_told", "_law_crossed", "_law_forward", "_law_label"] ["_law_shelf", "_law_shop", "_law_part"] (defScope s__law_turns_right) := ⟨rfl, rfl, rfl, by decide +kernel, rfl, by decide +kernel, by decide +kernel⟩
def g__law_turns_right_s1 : Slots → M Out := (asgS 3 (boxE (lenA (consA (callE 3 m__law_backward [] (consA (varE 1) (consA (varE 2) (consA (cE (.int 2)) nilA)))) (consA (callE 3 m__law_backward [] (consA (varE 1) (consA (varE 2) (consA (cE (.int 3)) nilA)))) nilA)))))
def g__law_turns_right_s2 : Slots → M Out := (asgL 4 (lenA (consA (lamcE hm__law_heard (methE 1 2 m_Book_turned [] (varE 0) (consA (varE 2) nilA))) nilA)))
def g__law_turns_right_s3 : Slots → M Out := (appS 4 (lamcE hm__law_heard (methE 1 2 m_Book_mirrored [] (varE 0) (consA (varE 2) nilA))))
def g__law_turns_right_s4 : Slots → M Out := (ifS (testE (binE (pu dNe) (bltE (pu1 reprG) (consA (bvarE 4) nilA)) (bltE (pu1 reprG) (consA (bvarE 3) nilA)))) (retS (cE (.bl false))) nilS)
def g__law_turns_right_s5 : Slots → M Out := (ifS (andT (testE (binE (pu dEq) (binE ixU (binE ixU (bvarE 3) (cE (.int 0))) (cE (.int 0))) (cE (.str "told")))) (testE (binE (pu dNe) (methKE 1 2 1 m_Book_turned [(true, 0)] [] (varE 0) (consA (methKE 1 2 1 m_Book_turned [(true, 0)] [] (varE 0) (consA (varE 2) nilA)) nilA)) (bvarE 2)))) (retS (cE (.bl false))) nilS)
def g__law_turns_right_s6 : Slots → M Out := (ifS (andT (testE (binE (pu dEq) (binE ixU (binE ixU (bvarE 3) (cE (.int 1))) (cE (.int 0))) (cE (.str "told")))) (testE (binE (pu dNe) (methKE 1 2 1 m_Book_mirrored [(true, 0)] [] (varE 0) (consA (methKE 1 2 1 m_Book_mirrored [(true, 0)] [] (varE 0) (consA (varE 2) nilA)) nilA)) (bvarE 2)))) (retS (cE (.bl false))) nilS)
def g__law_turns_right_s7 : Slots → M Out := (ifS (orT (testE (binE (pu dNe) (binE ixU (binE ixU (bvarE 3) (cE (.int 0))) (cE (.int 0))) (cE (.str "told")))) (testE (binE (pu dNe) (binE ixU (binE ixU (bvarE 3) (cE (.int 1))) (cE (.int 0))) (cE (.str "told"))))) (retS (cE (.bl true))) nilS)
def g__law_turns_right_s8 : Slots → M Out := (asgS 5 (boxE (lenA (consA (methE 1 2 m_Book_mirrored [] (varE 0) (consA (methE 1 2 m_Book_turned [] (varE 0) (consA (varE 2) nilA)) nilA)) (consA (methE 1 2 m_Book_turned [] (varE 0) (consA (methE 1 2 m_Book_mirrored [] (varE 0) (consA (varE 2) nilA)) nilA)) nilA)))))
def g__law_turns_right_s9 : Slots → M Out := (asgS 6 (bltE tupF (consA (boxE (compE (itE (varE 2)) [7] (tgN 7) yesT (binE ixU (binE ixU (bvarE 1) (binE ixU (binE ixU (bvarE 1) (bvarE 7)) (cE (.int 2)))) (cE (.int 3))))) nilA)))
def g__law_turns_right_s10 : Slots → M Out := (retS (binE (pu dEq) (bvarE 5) (boxE (lenA (consA (varE 6) (consA (varE 6) nilA))))))
def g__law_turns_right : Slots → M Out := (seqS g__law_turns_right_s1
  (seqS g__law_turns_right_s2
  (seqS g__law_turns_right_s3
  (seqS g__law_turns_right_s4
  (seqS g__law_turns_right_s5
  (seqS g__law_turns_right_s6
  (seqS g__law_turns_right_s7
  (seqS g__law_turns_right_s8
  (seqS g__law_turns_right_s9
  g__law_turns_right_s10)))))))))
def m__law_turns_right : List D → M D := fnM 8 g__law_turns_right
theorem ok__law_turns_right (t : TX K mg) (tB : TBs K mg base) : FnG True P w K mg base (L2.CX P w) 7 (He.ga K "_law_turns_right") (fdAt K (He.ga K "_law_turns_right")) ["_law_shelf", "_law_shop", "_law_part"] (spF K (tbOf cls_ tabs_ K) 3 m__law_turns_right) := by
  obtain ⟨mv_Book_turned_1_word, hk_Book_turned_1_word⟩ := kb_Book_turned_1_word t
  obtain ⟨mv_Book_mirrored_1_word, hk_Book_mirrored_1_word⟩ := kb_Book_mirrored_1_word t
  exact fnD (st := s__law_turns_right) (N := ["_law_shelf", "_law_shop", "_law_part", "_law_dues", "_law_told", "_law_crossed", "_law_forward", "_law_label"]) (ps := ["_law_shelf", "_law_shop", "_law_part"]) (k := 6) (g := g__law_turns_right) (u__law_turns_right t) sc__law_turns_right (by decide) fun cdv hcv A outer s H E p S hr =>
  (dss_cons (ds_asg (i := 3) sc__law_turns_right.nd (de_box (dl_lst (da_cons (de_call (ok__law_backward t) (hr.lo (by decide)) (takes_of rfl rfl rfl rfl) (t.glo 95) (u__law_backward t).kp (b__law_backward t) .nil cst_nil (da_cons (de_var 1) (da_cons (de_var 2) (da_cons de_int da_nil)))) (da_cons (de_call (ok__law_backward t) (hr.lo (by decide)) (takes_of rfl rfl rfl rfl) (t.glo 95) (u__law_backward t).kp (b__law_backward t) .nil cst_nil (da_cons (de_var 1) (da_cons (de_var 2) (da_cons de_int da_nil)))) da_nil)))))
  (dss_cons (ds_asgL (i := 4) sc__law_turns_right.nd (dl_lst (da_cons (de_lam (k := 4) rfl (t.glo 109) (u__law_heard t) (b__law_heard t) sc__law_heard (fun cdv2 => gv__law_heard t (hr.lo (by decide)) cdv2) (tB 1 _ rfl) (code_at (p := tdef_1) (u__law_turns_right t) hcv) (tab_1 t).1 (tab_1 t).2 (hr.room.mono (by decide)) (fun _ _ _ _ _ => rfl) (fun S2 A2 outer2 s2 H2 E2 f2 c2 hrl => (de_meth (pl := _) (de_var 0) rfl no_Book_turned (t.cls 70) (t.meth 108) (ok_Book_turned t) ((Rm.of hrl).mono (by decide)) (takes_of rfl rfl rfl rfl) (b_Book_turned t) .nil cst_nil (da_cons (de_var 2) da_nil)))) da_nil)))
  (dss_cons (ds_app (i := 4) (de_lam (k := 4) rfl (t.glo 109) (u__law_heard t) (b__law_heard t) sc__law_heard (fun cdv2 => gv__law_heard t (hr.lo (by decide)) cdv2) (tB 1 _ rfl) (code_at (p := tdef_1) (u__law_turns_right t) hcv) (tab_1 t).1 (tab_1 t).2 (hr.room.mono (by decide)) (fun _ _ _ _ _ => rfl) (fun S2 A2 outer2 s2 H2 E2 f2 c2 hrl => (de_meth (pl := _) (de_var 0) rfl no_Book_mirrored (t.cls 70) (t.meth 113) (ok_Book_mirrored t) ((Rm.of hrl).mono (by decide)) (takes_of rfl rfl rfl rfl) (b_Book_mirrored t) .nil cst_nil (da_cons (de_var 2) da_nil)))))
  (dss_cons (ds_if (dt_cmp (od_dNe hr.room) (db_of (de_blt (cd_reprG (t.sys 92) hr) (t.free 93) bo_repr (dab_cons (db_var 4) dab_nil))) (db_of (de_blt (cd_reprG (t.sys 92) hr) (t.free 93) bo_repr (dab_cons (db_var 3) dab_nil)))) (dss_one (ds_ret de_bl)) dss_nil)
  (dss_cons (ds_if ((dw_and (dt_cmp (od_dEq hr.room) (db_of (de_ixU hr.room (db_of (de_ixU hr.room (db_var 3) (db_of de_int))) (db_of de_int))) (db_of de_str)) (dw_and1 (dt_cmp (od_dNe hr.room) (db_of (de_methK0 (pl := _) (de_var 0) rfl no_Book_turned (t.cls 70) (t.meth 108) (ok_Book_turned t) (hr.lo (by decide)) (takes_of rfl rfl rfl rfl) hk_Book_turned_1_word cst_nil (dk_cons (de_methK0 (pl := _) (de_var 0) rfl no_Book_turned (t.cls 70) (t.meth 108) (ok_Book_turned t) (hr.lo (by decide)) (takes_of rfl rfl rfl rfl) hk_Book_turned_1_word cst_nil (dk_cons (de_var 2) dk_nil)) dk_nil))) (db_var 2))))).pt (dss_one (ds_ret de_bl)) dss_nil)
  (dss_cons (ds_if ((dw_and (dt_cmp (od_dEq hr.room) (db_of (de_ixU hr.room (db_of (de_ixU hr.room (db_var 3) (db_of de_int))) (db_of de_int))) (db_of de_str)) (dw_and1 (dt_cmp (od_dNe hr.room) (db_of (de_methK0 (pl := _) (de_var 0) rfl no_Book_mirrored (t.cls 70) (t.meth 113) (ok_Book_mirrored t) (hr.lo (by decide)) (takes_of rfl rfl rfl rfl) hk_Book_mirrored_1_word cst_nil (dk_cons (de_methK0 (pl := _) (de_var 0) rfl no_Book_mirrored (t.cls 70) (t.meth 113) (ok_Book_mirrored t) (hr.lo (by decide)) (takes_of rfl rfl rfl rfl) hk_Book_mirrored_1_word cst_nil (dk_cons (de_var 2) dk_nil)) dk_nil))) (db_var 2))))).pt (dss_one (ds_ret de_bl)) dss_nil)
  (dss_cons (ds_if ((dw_or (dt_cmp (od_dNe hr.room) (db_of (de_ixU hr.room (db_of (de_ixU hr.room (db_var 3) (db_of de_int))) (db_of de_int))) (db_of de_str)) (dw_or1 (dt_cmp (od_dNe hr.room) (db_of (de_ixU hr.room (db_of (de_ixU hr.room (db_var 3) (db_of de_int))) (db_of de_int))) (db_of de_str))))).pt (dss_one (ds_ret de_bl)) dss_nil)
  (dss_cons (ds_asg (i := 5) sc__law_turns_right.nd (de_box (dl_lst (da_cons (de_meth (pl := _) (de_var 0) rfl no_Book_mirrored (t.cls 70) (t.meth 113) (ok_Book_mirrored t) (hr.lo (by decide)) (takes_of rfl rfl rfl rfl) (b_Book_mirrored t) .nil cst_nil (da_cons (de_meth (pl := _) (de_var 0) rfl no_Book_turned (t.cls 70) (t.meth 108) (ok_Book_turned t) (hr.lo (by decide)) (takes_of rfl rfl rfl rfl) (b_Book_turned t) .nil cst_nil (da_cons (de_var 2) da_nil)) da_nil)) (da_cons (de_meth (pl := _) (de_var 0) rfl no_Book_turned (t.cls 70) (t.meth 108) (ok_Book_turned t) (hr.lo (by decide)) (takes_of rfl rfl rfl rfl) (b_Book_turned t) .nil cst_nil (da_cons (de_meth (pl := _) (de_var 0) rfl no_Book_mirrored (t.cls 70) (t.meth 113) (ok_Book_mirrored t) (hr.lo (by decide)) (takes_of rfl rfl rfl rfl) (b_Book_mirrored t) .nil cst_nil (da_cons (de_var 2) da_nil)) da_nil)) da_nil)))))
  (dss_cons (ds_asg (i := 6) sc__law_turns_right.nd (de_blt_ty cd_tuple (t.free 74) bo_tuple (dab_cons (db_of (de_box (dl_lc rfl sc__law_turns_right.nd (own := [(("_law_label" : Str), 7)]) (di_val (de_var 2)) (blkOk_by (by kernel_rfl)) (fun l s H C cl fp => (dg_name (vs := [7]) sc__law_turns_right.nd (by decide))) (fun l s H C cl fp => dts_nil) (fun l s H C cl fp => (de_ixU hr.room (db_of (de_ixU hr.room (db_var 1) (db_of (de_ixU hr.room (db_of (de_ixU hr.room (db_var 1) (db_var 7))) (db_of de_int))))) (db_of de_int)))))) dab_nil)))
  (dss_one (ds_ret (de_cmp (od_dEq hr.room) (db_var 5) (db_of (de_box (dl_lst (da_cons (de_var 6) (da_cons (de_var 6) da_nil)))))))))))))))))
theorem b_UnknownKindzz_initzz (t : TX K mg) : Binds K (fdAt K (He.ma K (He.ga K "UnknownKind") "__init__")) ["self", "name"] [] := FunD.bindsN (u_UnknownKindzz_initzz t) fun _ _ _ _ _ _ us hl => match us, hl with | [_, _], _ => rfl
theorem sc_UnknownKindzz_initzz : FnScope ["self", "name"] ["self", "name"] (defScope s_UnknownKindzz_initzz) := ⟨rfl, rfl, rfl, by decide +kernel, rfl, by decide +kernel, by decide +kernel⟩
theorem ok_UnknownKindzz_initzz (t : TX K mg) : FnOk P w K mg base (L2.CX P w) 1 (He.ma K (He.ga K "UnknownKind") "__init__") (fdAt K (He.ma K (He.ga K "UnknownKind") "__init__")) ["self", "name"] (spX (tbOf cls_ tabs_ K) 7) :=
  fnX1 (T := tbOf cls_ tabs_ K) (ec := 7) (u_UnknownKindzz_initzz t) sc_UnknownKindzz_initzz (t.oex 116) rfl (t.noat 117) fun cdv A outer s H E => pss_one (ps_xst (pv 0) (pv 1))
theorem b_Book_kind (t : TX K mg) : Binds K (fdAt K (He.ma K (He.ga K "Book") "kind")) ["self", "name"] [] := FunD.bindsN (u_Book_kind t) fun _ _ _ _ _ _ us hl => match us, hl with | [_, _], _ => rfl
theorem kb_Book_kind_1_name (t : TX K mg) : ∃ mv : List Value, KBn K (fdAt K (He.ma K (He.ga K "Book") "kind")) ["self", "name"] 1 ["name"] (fun us ws => us ++ pick [(true, 0)] mv ws) (fun vs zs => vs ++ pick [(true, 0)] [] zs) := kbP (u_Book_kind t) 1 ["name"] [(true, 0)] fun _ _ _ _ _ _ us ws h1 h2 => match us, ws, h1, h2 with | [_], [_], _, _ => rfl
theorem sc_Book_kind : FnScope ["self", "name"] ["self", "name"] (defScope s_Book_kind) := ⟨rfl, rfl, rfl, by decide +kernel, rfl, by decide +kernel, by decide +kernel⟩
def g_Book_kind : Slots → M Out := (seqS (ifS (testE (binE (nctnM 1 m_Bookzz_containszz) (varE 1) (varE 0))) (raiS 7 1 (consA (varE 1) nilA)) nilS)
  (retS (binE ixU (getE 1 0 (varE 0)) (bvarE 1))))
def m_Book_kind : List D → M D := fnM 2 g_Book_kind
theorem ok_Book_kind (t : TX K mg) : FnG False P w K mg base (L2.CX P w) 3 (He.ma K (He.ga K "Book") "kind") (fdAt K (He.ma K (He.ga K "Book") "kind")) ["self", "name"] (spF K (tbOf cls_ tabs_ K) 2 m_Book_kind) :=
  fnD (st := s_Book_kind) (N := ["self", "name"]) (ps := ["self", "name"]) (k := 2) (g := g_Book_kind) (u_Book_kind t) sc_Book_kind (by decide) fun cdv hcv A outer s H E p S hr =>
  (dss_cons (ds_if (dt_cmpV (ov_nctn (t.meth 79) (ok_Bookzz_containszz t) (hr.mono (by decide)) (takes_of rfl rfl rfl rfl) (b_Bookzz_containszz t) rfl) (de_var 1) (de_var 0)) (dss_one (ds_raise (ec := 7) (takes_of rfl rfl rfl rfl) (t.oex 116) (t.meth 118) (ok_UnknownKindzz_initzz t) (hr.room.mono (by decide)) (b_UnknownKindzz_initzz t) (t.glo 119) rfl (da_cons (de_var 1) da_nil))) dss_nil)
  (dss_one (ds_ret (de_ixU hr.room (db_of (de_get (de_var 0) rfl (t.cls 70) (t.noat 69) nd_Book rfl)) (db_var 1)))))
theorem b_Kindzz_eqzz (t : TX K mg) : Binds K (fdAt K (He.ma K (He.ga K "Kind") "__eq__")) ["self", "other"] [] := FunD.bindsN (u_Kindzz_eqzz t) fun _ _ _ _ _ _ us hl => match us, hl with | [_, _], _ => rfl
theorem sc_Kindzz_eqzz : FnScope ["self", "other"] ["self", "other"] (defScope s_Kindzz_eqzz) := ⟨rfl, rfl, rfl, by decide +kernel, rfl, by decide +kernel, by decide +kernel⟩
def g_Kindzz_eqzz : Slots → M Out := (seqS (ifS (orT (notT (testE (isiE 2 (ansOf [] [true, false, false, false, false, false, false, false, false, false, false]) (bvarE 1)))) (testE (binE (pu dNe) (getE 0 0 (varE 0)) (getE 0 0 (varE 1))))) (retS (cE (.bl false))) nilS)
  (seqS (ifS (testE (binE (pu dNe) (tupE (consA (getE 0 1 (varE 0)) (consA (getE 0 2 (varE 0)) (consA (getE 0 5 (varE 0)) nilA)))) (tupE (consA (getE 0 1 (varE 1)) (consA (getE 0 2 (varE 1)) (consA (getE 0 5 (varE 1)) nilA)))))) (retS (cE (.bl false))) nilS)
  (retS (andE (binE (pu dEq) (getE 0 3 (varE 0)) (getE 0 3 (varE 1))) (binE (pu dEq) (getE 0 4 (varE 0)) (getE 0 4 (varE 1)))))))
def m_Kindzz_eqzz : List D → M D := fnM 2 g_Kindzz_eqzz
theorem ok_Kindzz_eqzz (t : TX K mg) : FnG False P w K mg base (L2.CX P w) 1 (He.ma K (He.ga K "Kind") "__eq__") (fdAt K (He.ma K (He.ga K "Kind") "__eq__")) ["self", "other"] (spF K (tbOf cls_ tabs_ K) 2 m_Kindzz_eqzz) :=
  fnD (st := s_Kindzz_eqzz) (N := ["self", "other"]) (ps := ["self", "other"]) (k := 0) (g := g_Kindzz_eqzz) (u_Kindzz_eqzz t) sc_Kindzz_eqzz (by decide) fun cdv hcv A outer s H E p S hr =>
  (dss_cons (ds_if ((dw_or (dt_not (dt_val (de_isi (hCs t) (db_var 1) (pe_gcl (t.glo 47)) (.own _) (t.isi (cs := cls_) (tf := tabs_) (u := fun K => .ref (He.ga K "Kind")) 49 rfl) (t.free 16) bo_isinstance))) (dw_or1 (dt_cmp (od_dNe hr.room) (db_of (de_get (de_var 0) rfl (t.cls 41) (t.noat 40) nd_Kind rfl)) (db_of (de_get (de_var 1) rfl (t.cls 41) (t.noat 40) nd_Kind rfl)))))).pt (dss_one (ds_ret de_bl)) dss_nil)
  (dss_cons (ds_if (dt_cmp (od_dNe hr.room) (db_of (de_tup (da_cons (de_get (de_var 0) rfl (t.cls 41) (t.noat 42) nd_Kind rfl) (da_cons (de_get (de_var 0) rfl (t.cls 41) (t.noat 43) nd_Kind rfl) (da_cons (de_get (de_var 0) rfl (t.cls 41) (t.noat 46) nd_Kind rfl) da_nil))))) (db_of (de_tup (da_cons (de_get (de_var 1) rfl (t.cls 41) (t.noat 42) nd_Kind rfl) (da_cons (de_get (de_var 1) rfl (t.cls 41) (t.noat 43) nd_Kind rfl) (da_cons (de_get (de_var 1) rfl (t.cls 41) (t.noat 46) nd_Kind rfl) da_nil)))))) (dss_one (ds_ret de_bl)) dss_nil)
  (dss_one (ds_ret (de_and (de_cmp (od_dEq hr.room) (db_of (de_get (de_var 0) rfl (t.cls 41) (t.noat 44) nd_Kind rfl)) (db_of (de_get (de_var 1) rfl (t.cls 41) (t.noat 44) nd_Kind rfl))) (de_one (de_cmp (od_dEq hr.room) (db_of (de_get (de_var 0) rfl (t.cls 41) (t.noat 45) nd_Kind rfl)) (db_of (de_get (de_var 1) rfl (t.cls 41) (t.noat 45) nd_Kind rfl)))))))))
theorem b__law_kinds_right (t : TX K mg) : Binds K (fdAt K (He.ga K "_law_kinds_right")) ["_law_shelf", "_law_shop"] [] := FunD.bindsN (u__law_kinds_right t) fun _ _ _ _ _ _ us hl => match us, hl with | [_, _], _ => rfl
theorem sc__law_kinds_right : FnScope ["_law_shelf", "_law_shop", "_law_label", "_law_one", "_law_row", "_law_told", "_law_twin"] ["_law_shelf", "_law_shop"] (defScope s__law_kinds_right) := ⟨rfl, rfl, rfl, by decide +kernel, rfl, by decide +kernel, by decide +kernel⟩
def g__law_kinds_right_b1 : Slots → M Out := (seqS (parS 3 4 (consA (methE 1 2 m_Book_kind [] (varE 0) (consA (varE 2) nilA)) (consA (binE ixU (bvarE 1) (bvarE 2)) nilA)))
  (seqS (asgS 5 (tupE (consA (getE 0 0 (varE 3)) (consA (getE 0 1 (varE 3)) (consA (getE 0 2 (varE 3)) (consA (getE 0 3 (varE 3)) (consA (getE 0 4 (varE 3)) (consA (getE 0 5 (varE 3)) nilA))))))))
  (seqS (ifS (orT (testE (binE (pu dNe) (bltE (pu1 reprG) (consA (bvarE 5) nilA)) (bltE (pu1 reprG) (consA (binE addU (tupE (consA (varE 2) nilA)) (bvarE 4)) nilA)))) (testE (binE (neM 2 0 m_Kindzz_eqzz) (methKE 1 2 1 m_Book_kind [(true, 0)] [] (varE 0) (consA (varE 2) nilA)) (varE 3)))) (retS (cE (.bl false))) nilS)
  (seqS (asgS 6 (makeKE 0 7 3 3 m_Kindzz_initzz [(true, 0), (true, 1), (true, 2)] [] (consA (varE 2) (consA (binE ixU (bvarE 4) (cE (.int 0))) (consA (binE ixU (bvarE 4) (cE (.int 1))) nilA))) (consA (binE ixU (bvarE 4) (cE (.int 2))) (consA (binE ixU (bvarE 4) (cE (.int 3))) (consA (binE ixU (bvarE 4) (cE (.int 4))) nilA)))))
  (ifS (orT (notT (testE (isiE 2 (ansOf [] [true, false, false, false, false, false, false, false, false, false, false]) (bvarE 3)))) (orT (testE (binE (neM 2 0 m_Kindzz_eqzz) (varE 3) (varE 6))) (testE (binE (neM 2 0 m_Kindzz_eqzz) (varE 6) (varE 3))))) (retS (cE (.bl false))) nilS)))))
def g__law_kinds_right : Slots → M Out := (seqS (forS (itE (boxE (bltE sortDct (consA (bvarE 1) nilA)))) (tgN 2) g__law_kinds_right_b1)
  (retS (cE (.bl true))))
def m__law_kinds_right : List D → M D := fnM 7 g__law_kinds_right
theorem ok__law_kinds_right (t : TX K mg) : FnG True P w K mg base (L2.CX P w) 5 (He.ga K "_law_kinds_right") (fdAt K (He.ga K "_law_kinds_right")) ["_law_shelf", "_law_shop"] (spF K (tbOf cls_ tabs_ K) 2 m__law_kinds_right) := by
  obtain ⟨mv_Book_kind_1_name, hk_Book_kind_1_name⟩ := kb_Book_kind_1_name t
  obtain ⟨mv_Kindzz_initzz_4_back_mirror_yarn, hk_Kindzz_initzz_4_back_mirror_yarn⟩ := kb_Kindzz_initzz_4_back_mirror_yarn t
  exact fnD (st := s__law_kinds_right) (N := ["_law_shelf", "_law_shop", "_law_label", "_law_one", "_law_row", "_law_told", "_law_twin"]) (ps := ["_law_shelf", "_law_shop"]) (k := 4) (g := g__law_kinds_right) (u__law_kinds_right t) sc__law_kinds_right (by decide) fun cdv hcv A outer s H E p S hr =>
  (dss_cons (ds_for (passes_of rfl) rfl (di_val (de_box (dl_blt (cn_sortD rfl) (t.free 63) bo_sorted (dab_cons (db_var 1) dab_nil)))) (dg_name (vs := [2]) sc__law_kinds_right.nd (by decide)) (dss_cons (ds_par (i := 3) (j := 4) rfl sc__law_kinds_right.nd (da_cons (de_meth (pl := _) (de_var 0) rfl no_Book_kind (t.cls 70) (t.meth 120) (ok_Book_kind t) (hr.lo (by decide)) (takes_of rfl rfl rfl rfl) (b_Book_kind t) .nil cst_nil (da_cons (de_var 2) da_nil)) (da_cons (de_ixU hr.room (db_var 1) (db_var 2)) da_nil)))
  (dss_cons (ds_asg (i := 5) sc__law_kinds_right.nd (de_tup (da_cons (de_get (de_var 3) rfl (t.cls 41) (t.noat 40) nd_Kind rfl) (da_cons (de_get (de_var 3) rfl (t.cls 41) (t.noat 42) nd_Kind rfl) (da_cons (de_get (de_var 3) rfl (t.cls 41) (t.noat 43) nd_Kind rfl) (da_cons (de_get (de_var 3) rfl (t.cls 41) (t.noat 44) nd_Kind rfl) (da_cons (de_get (de_var 3) rfl (t.cls 41) (t.noat 45) nd_Kind rfl) (da_cons (de_get (de_var 3) rfl (t.cls 41) (t.noat 46) nd_Kind rfl) da_nil))))))))
  (dss_cons (ds_if ((dw_or (dt_cmp (od_dNe hr.room) (db_of (de_blt (cd_reprG (t.sys 92) hr) (t.free 93) bo_repr (dab_cons (db_var 5) dab_nil))) (db_of (de_blt (cd_reprG (t.sys 92) hr) (t.free 93) bo_repr (dab_cons (db_of (de_op od_addU (db_of (de_tup (da_cons (de_var 2) da_nil))) (db_var 4))) dab_nil)))) (dw_or1 (dt_cmpV (ov_ne (hCs t) rfl rfl ((t.cmpI (cs := cls_) (tf := tabs_) 123).less (by decide)) (t.ne 122).1 (t.ne 122).2 (t.meth 121).at_ (t.meth 121).fn (ok_Kindzz_eqzz t) (hr.lo (by decide)) (b_Kindzz_eqzz t) (takes_of rfl rfl rfl rfl)) (de_methK0 (pl := _) (de_var 0) rfl no_Book_kind (t.cls 70) (t.meth 120) (ok_Book_kind t) (hr.lo (by decide)) (takes_of rfl rfl rfl rfl) hk_Book_kind_1_name cst_nil (dk_cons (de_var 2) dk_nil)) (de_var 3))))).pt (dss_one (ds_ret de_bl)) dss_nil)
  (dss_cons (ds_asg (i := 6) sc__law_kinds_right.nd (de_makeK (n0 := 3) (t.mk_ 48) (ok_Kindzz_initzz t) (hr.lo (by decide)) (takes_of rfl rfl rfl rfl) (t.glo 47) rfl hk_Kindzz_initzz_4_back_mirror_yarn cst_nil (da_cons (de_var 2) (da_cons (de_ixU hr.room (db_var 4) (db_of de_int)) (da_cons (de_ixU hr.room (db_var 4) (db_of de_int)) da_nil))) (dk_cons (de_ixU hr.room (db_var 4) (db_of de_int)) (dk_cons (de_ixU hr.room (db_var 4) (db_of de_int)) (dk_cons (de_ixU hr.room (db_var 4) (db_of de_int)) dk_nil)))))
  (dss_one (ds_if ((dw_or (dt_not (dt_val (de_isi (hCs t) (db_var 3) (pe_gcl (t.glo 47)) (.own _) (t.isi (cs := cls_) (tf := tabs_) (u := fun K => .ref (He.ga K "Kind")) 49 rfl) (t.free 16) bo_isinstance))) (dw_or (dt_cmpV (ov_ne (hCs t) rfl rfl ((t.cmpI (cs := cls_) (tf := tabs_) 123).less (by decide)) (t.ne 122).1 (t.ne 122).2 (t.meth 121).at_ (t.meth 121).fn (ok_Kindzz_eqzz t) (hr.lo (by decide)) (b_Kindzz_eqzz t) (takes_of rfl rfl rfl rfl)) (de_var 3) (de_var 6)) (dw_or1 (dt_cmpV (ov_ne (hCs t) rfl rfl ((t.cmpI (cs := cls_) (tf := tabs_) 123).less (by decide)) (t.ne 122).1 (t.ne 122).2 (t.meth 121).at_ (t.meth 121).fn (ok_Kindzz_eqzz t) (hr.lo (by decide)) (b_Kindzz_eqzz t) (takes_of rfl rfl rfl rfl)) (de_var 6) (de_var 3)))))).pt (dss_one (ds_ret de_bl)) dss_nil)))))))
  (dss_one (ds_ret de_bl)))
theorem b__law_right (t : TX K mg) : Binds K (fdAt K (He.ga K "_law_right")) ["_law_pot_here"] [] := FunD.bindsN (u__law_right t) fun _ _ _ _ _ _ us hl => match us, hl with | [_], _ => rfl
theorem sc__law_right : FnScope ["_law_pot_here", "_law_shop", "_law_shelf", "_law_turn", "_law_part", "_law_again"] ["_law_pot_here"] (defScope s__law_right) := ⟨rfl, rfl, rfl, by decide +kernel, rfl, by decide +kernel, by decide +kernel⟩
def g__law_right_b1 : Slots → M Out := (ifS (orT (notT (testE (callE 3 m__law_sums_right [] (consA (varE 2) (consA (varE 1) (consA (varE 4) nilA)))))) (notT (testE (callE 3 m__law_turns_right [] (consA (varE 2) (consA (varE 1) (consA (varE 4) nilA))))))) (retS (cE (.bl false))) nilS)
def g__law_right_b2 : Slots → M Out := (seqS (asgS 4 (callE 2 m__law_long [] (consA (varE 0) (consA (varE 1) nilA))))
  (forS (itA rng1 (consA (cE (.int 2)) nilA)) (tgN 5) g__law_right_b1))
def g__law_right_s1 : Slots → M Out := (asgS 1 (callE 2 m__law_book [] (consA (varE 0) (consA (binE (pu dEq) (callE 2 m__law_draw [] (consA (varE 0) (consA (cE (.int 2)) nilA))) (cE (.int 0))) nilA))))
def g__law_right_s2 : Slots → M Out := (asgS 2 (callE 1 m__law_real_book [] (consA (varE 1) nilA)))
def g__law_right_s3 : Slots → M Out := (forS (itA rng1 (consA (cE (.int 4)) nilA)) (tgN 3) g__law_right_b2)
def g__law_right_s4 : Slots → M Out := (retS (andE (isiE 2 (ansOf [] [false, true, false, false, false, false, false, false, false, false, false]) (bvarE 2)) (callE 2 m__law_kinds_right [] (consA (varE 2) (consA (varE 1) nilA)))))
def g__law_right : Slots → M Out := (seqS g__law_right_s1
  (seqS g__law_right_s2
  (seqS g__law_right_s3
  g__law_right_s4)))
def m__law_right : List D → M D := fnM 6 g__law_right
theorem ok__law_right (t : TX K mg) (tB : TBs K mg base) : FnG True P w K mg base (L2.CX P w) 8 (He.ga K "_law_right") (fdAt K (He.ga K "_law_right")) ["_law_pot_here"] (spF K (tbOf cls_ tabs_ K) 1 m__law_right) :=
  fnD (st := s__law_right) (N := ["_law_pot_here", "_law_shop", "_law_shelf", "_law_turn", "_law_part", "_law_again"]) (ps := ["_law_pot_here"]) (k := 7) (g := g__law_right) (u__law_right t) sc__law_right (by decide) fun cdv hcv A outer s H E p S hr =>
  (dss_cons (ds_asg (i := 1) sc__law_right.nd (de_call (ok__law_book t) (hr.lo (by decide)) (takes_of rfl rfl rfl rfl) (t.glo 11) (u__law_book t).kp (b__law_book t) .nil cst_nil (da_cons (de_var 0) (da_cons (de_cmp (od_dEq hr.room) (db_of (de_call (ok__law_draw t) (hr.lo (by decide)) (takes_of rfl rfl rfl rfl) (t.glo 3) (u__law_draw t).kp (b__law_draw t) .nil cst_nil (da_cons (de_var 0) (da_cons de_int da_nil)))) (db_of de_int)) da_nil))))
  (dss_cons (ds_asg (i := 2) sc__law_right.nd (de_call (ok__law_real_book t tB) (hr.lo (by decide)) (takes_of rfl rfl rfl rfl) (t.glo 73) (u__law_real_book t).kp (b__law_real_book t) .nil cst_nil (da_cons (de_var 1) da_nil)))
  (dss_cons (ds_for (passes_of rfl) rfl (di_range1 (dab_cons (db_of de_int) dab_nil) (t.free 7)) (dg_name (vs := [3]) sc__law_right.nd (by decide)) (dss_cons (ds_asg (i := 4) sc__law_right.nd (de_call (ok__law_long t) (hr.lo (by decide)) (takes_of rfl rfl rfl rfl) (t.glo 75) (u__law_long t).kp (b__law_long t) .nil cst_nil (da_cons (de_var 0) (da_cons (de_var 1) da_nil))))
  (dss_one (ds_for (passes_of rfl) rfl (di_range1 (dab_cons (db_of de_int) dab_nil) (t.free 7)) (dg_name (vs := [5]) sc__law_right.nd (by decide)) (dss_one (ds_if ((dw_or (dt_not (dt_val (de_call (ok__law_sums_right t) (hr.mono (by decide)) (takes_of rfl rfl rfl rfl) (t.glo 94) (u__law_sums_right t).kp (b__law_sums_right t) .nil cst_nil (da_cons (de_var 2) (da_cons (de_var 1) (da_cons (de_var 4) da_nil)))))) (dw_or1 (dt_not (dt_val (de_call (ok__law_turns_right t tB) (hr.mono (by decide)) (takes_of rfl rfl rfl rfl) (t.glo 114) (u__law_turns_right t).kp (b__law_turns_right t) .nil cst_nil (da_cons (de_var 2) (da_cons (de_var 1) (da_cons (de_var 4) da_nil))))))))).pt (dss_one (ds_ret de_bl)) dss_nil))))))
  (dss_one (ds_ret (de_and (de_isi (hCs t) (db_var 2) (pe_gcl (t.glo 71)) (.own _) (t.isi (cs := cls_) (tf := tabs_) (u := fun K => .ref (He.ga K "Book")) 115 rfl) (t.free 16) bo_isinstance) (de_one (de_call (ok__law_kinds_right t) (hr.mono (by decide)) (takes_of rfl rfl rfl rfl) (t.glo 124) (u__law_kinds_right t).kp (b__law_kinds_right t) .nil cst_nil (da_cons (de_var 2) (da_cons (de_var 1) da_nil))))))))))
end
end LW

set_option Elab.async false
set_option linter.all false
set_option maxRecDepth 100000
set_option maxHeartbeats 4000000
namespace LW
open PySem L2 DF
section
variable {P : Program} {w : World} {K : PySem.W.Frag} {mg : Str → Option Value} {base : Heap}
theorem sc__law_pot : FnScope ["_law_script", "_law_k", "_law_cell"] ["_law_script", "_law_k"] (defScope s__law_pot) := ⟨rfl, rfl, rfl, by decide +kernel, rfl, by decide +kernel, by decide +kernel⟩
theorem b__law_pot (t : TX K mg) : Binds K (fdAt K (He.ga K "_law_pot")) ["_law_script", "_law_k"] [] := FunD.bindsN (u__law_pot t) fun _ _ _ _ _ _ us hl => match us, hl with | [_, _], _ => rfl
theorem ok__law_pot (t : TX K mg) (fL : mg "len" = none) (fM : mg "max" = none) (fA : mg "abs" = none) (fI : mg "int" = none) : FnOk P w K mg base (L2.CX P w) 1 (He.ga K "_law_pot") (fdAt K (He.ga K "_law_pot")) ["_law_script", "_law_k"] (spPot K) := by
  refine (u__law_pot t).ok (k := 0) sc__law_pot (fun vs H Q E h => ?_) (fun cdv A outer s H vs Q E hr h => ?_)
  · obtain ⟨a, ns, k, rfl, _⟩ := h
    rfl
  · obtain ⟨a, ns, k, rfl, hS, h0, h1, q⟩ := h
    refine ⟨_, pss_cons (ps_set (i := 2) sc__law_pot.nd rfl (Or.inl rfl) (pe_ifExp (pt_cmpR op_lt (pv 1) (pe_callB call_len rfl fL bo_len (pa_cons (pv 0) pa_nil)) (nomark _)) (pe_ix ix_list (pv 0) (pv 1) (by intro _ _; rfl)) (pe_op op_mulW pe_int (pv 1))))
      (pss_one (ps_ret (pe_lst (pa_cons (pe_callB (call_max2 rfl) rfl fM bo_max (pa_cons pe_int (pa_cons (pe_op op_sub (pe_callB call_abs rfl fA bo_abs (pa_cons (pv 2) pa_nil)) (pe_op op_pow pe_int pe_int)) pa_nil)))
        (pa_cons (pe_op op_add (pe_op op_mod (pe_cty call_int1 fI bo_int (pa_cons (pe_op op_add (pe_op op_add (pe_op op_mulW (pe_op op_mod (pe_cty call_int1 fI bo_int (pa_cons (pe_callB call_abs rfl fA bo_abs (pa_cons (pv 2) pa_nil)) pa_nil)) pe_int) pe_int) (pe_op op_mulW pe_int (pv 1))) pe_int) pa_nil)) pe_int) pe_int) pa_nil))))), ?_⟩
    refine cell_read hS h0 h1 rfl rfl fun c => ?_
    have p1 : (0 : Int) ≤ absI c % 2147483563 := Int.emod_nonneg _ (by decide)
    have p2 : absI c % 2147483563 < 2147483563 := Int.emod_lt_of_pos _ (by decide)
    refine ⟨_, rfl, c, rfl, 10, 18, rfl, rfl, ⟨by decide, by decide, by decide⟩, _, _, rfl, rfl, 0, _, rfl, ?_⟩
    refine ⟨_, rfl, c, rfl, .inl ⟨_, rfl, _, _, rfl, rfl, (show (0 : Int) < 2147483563 by decide), _, _, rfl, rfl, small_mul p1 (by decide) (by omega) (by decide), _, rfl, _, _, rfl, rfl, small_mul (by decide) h0 (by decide) (by omega), _, _, rfl, rfl, _, _, rfl, rfl, .inl ⟨_, rfl, _, _, rfl, rfl, (show (0 : Int) < 2147483629 by decide), _, _, rfl, rfl, ?_⟩⟩⟩
    exact ⟨(show 2 ≤ sizeLine by decide), fun l hl => q _ (pot_ok c k h0 h1) l hl⟩
theorem sc_law : FnScope ["_law_script", "_law_k", "_law_pot_here", "_law_turn"] ["_law_script"] (defScope s_law) := ⟨rfl, rfl, rfl, by decide +kernel, rfl, by decide +kernel, by decide +kernel⟩
def g_law : Slots → M Out := forS (itA rng1 (consA (cE (.int 4)) nilA)) (tgN 3) (ifS (notT (testE (callE 1 m__law_right [] (consA (varE 2) nilA)))) (retS (cE (.bl false))) nilS)
/-- a def that tells True of every pot, and leaves a pot -/
def Good (m : List D → M D) : Prop := ∀ pt, Pt pt → ∃ pt', m [.pot] pt = .ok (.bl true) pt' ∧ Pt pt'
theorem g_law_ok (hm : Good m__law_right) (v : V) {pt : Pot} (hp : Pt pt) (x : Option SV) : ∃ ρ' pt', g_law [some (.raw v), x, some (.val .pot), none] pt = .ok (.nx (some (.raw v) :: ρ')) pt' ∧ ρ'.length = 3 := by
  obtain ⟨p1, e1, h1⟩ := hm pt hp
  obtain ⟨p2, e2, h2⟩ := hm p1 h1
  obtain ⟨p3, e3, h3⟩ := hm p2 h2
  obtain ⟨p4, e4, h4⟩ := hm p3 h3
  refine ⟨[x, some (.val .pot), some (.val (.int 3))], p4, ?_, rfl⟩
  have items : rng1 [.int 4] = some [.int 0, .int 1, .int 2, .int 3] := by rfl
  unfold g_law
  simp [items, e1, e2, e3, e4]
theorem ps_ex {ι : Type} {X : Cx} {st : Stmt} {t : ι → TS} (h : ∀ i, PS X st (t i)) : PS X st (fun E σ H => ∃ i, t i E σ H) := ⟨fun pins s σ H Q I ⟨i, q⟩ => (h i).run pins s σ H Q I q⟩
theorem ok_law (hm : Good m__law_right) (t : TX K mg) (tB : TBs K mg base) (fL : mg "len" = none) (fM : mg "max" = none) (fN : mg "min" = none) (fA : mg "abs" = none) (fI : mg "int" = none) (fR : mg "range" = none) (gP : mg "_law_pot" = some (.ref (He.ga K "_law_pot"))) (gR : mg "_law_right" = some (.ref (He.ga K "_law_right"))) :
    FnG True P w K mg base (L2.CX P w) 11 (He.ga K "law") (fdAt K (He.ga K "law")) ["_law_script"] (spLaw K (tbOf cls_ tabs_ K)) := by
  refine fn_okG (k := 10) (u_law t) sc_law (fun vs H Q E h => ?_) (fun cdv hcv A outer s H vs Q E hr h => ?_)
  · obtain ⟨a, ns, rfl, _⟩ := h
    rfl
  · obtain ⟨a, ns, rfl, hS, hlen, hT, q⟩ := h
    refine ⟨_, pss_cons (ps_for (passes_of rfl) rfl (pi_range1 rfl fR (pa_cons (pe_callB (call_max2 rfl) rfl fM bo_max (pa_cons pe_int (pa_cons (pe_callB (call_min2 rfl) rfl fN bo_min (pa_cons pe_int (pa_cons (pe_callB call_len rfl fL bo_len (pa_cons (pv 0) pa_nil)) pa_nil))) pa_nil))) pa_nil)) (pg_name (i := 1) sc_law.nd rfl (Or.inl rfl) (.inr rfl))
      (pss_cons (ps_set (i := 2) sc_law.nd rfl (Or.inl rfl) (pe_callA (E := WE W0) (fnOk_g (gu := True) (ok__law_pot t fL fM fA fI)) (hr.mono (by decide)) rfl gP (u__law_pot t).kp (b__law_pot t) .nil (passAt takes0) (pa_cons (pv 0) (pa_cons (pv 1) pa_nil)))) (pss_one (ps_ex (ι := Addr × Hp) (t := fun i => dS ⟨K, tbOf cls_ tabs_ K, i.1, [i.1], i.2, 0, x0⟩ W0 g_law) fun i =>
        ds_for (passes_of rfl) rfl (di_range1 (dab_cons (db_of de_int) dab_nil) fR) (dg_name (vs := [3]) sc_law.nd (by decide)) (dss_one (ds_if (dt_not (dt_val (de_call (ok__law_right t tB) (hr.mono (by decide)) takes0 gR (u__law_right t).kp (b__law_right t) .nil cst_nil (da_cons (de_var 2) da_nil)))) (dss_one (ds_ret de_bl)) dss_nil)))))) (pss_one (ps_ret pe_bl)), ?_⟩
    have cap := cap_ok (m := if ((ns.map V.int).length : Int) < 6 then ((ns.map V.int).length : Int) else 6) (by split <;> omega)
    refine ⟨_, rfl, _, _, rfl, .inl ⟨_, hS, rfl⟩, _, _, rfl, 1, _, rfl, _, rfl, cap.1, cap.2.1, ?_⟩
    refine for_range (lo := 0) (Pv := fun i σ' H' => σ'.length = 4 ∧ σ'[0]? = some (some (.ref a)) ∧ (∀ b o, H b = some o → nt o = true → H' b = some o) ∧ LamX.Tabs (tbOf cls_ tabs_ K).tb H') ⟨rfl, rfl, fun b o e _ => e, hT⟩ (fun i σ' H' hi ⟨l4, e0, g, gT⟩ => ?_) fun σ' H' _ => q H'
    obtain ⟨y0, y1, y2, y3, rfl⟩ : ∃ y0 y1 y2 y3, σ' = [y0, y1, y2, y3] := match σ', l4 with | [y0, y1, y2, y3], _ => ⟨y0, y1, y2, y3, rfl⟩
    simp only [List.getElem?_cons_zero, Option.some.injEq] at e0
    subst e0
    have i100 : i < 100 := Nat.lt_trans hi cap.2.2
    refine ⟨.ref a, rfl, .int (0 + (i : Int)), rfl, a, ns, 0 + (i : Int), rfl, sql_nt g hS, by omega, by omega, fun pt hp l hl => ?_⟩
    have gl : ∀ b o, H' b = some o → upd H' l (potO pt) b = some o := fun b o e => by rw [upd_ne (ne_of_none e hl)]; exact e
    obtain ⟨ρ', pt', eg, lg⟩ := g_law_ok hm (.ref a) hp.pt none
    have rs : RS ⟨K, tbOf cls_ tabs_ K, l, [l], upd H' l (potO pt), 0, x0⟩ [] [some (.raw (.ref a)), none, some (.val .pot), none] [some (.ref a), some (.int (0 + (i : Int))), some (.ref l), y3] (upd H' l (potO pt)) pt := by
      refine ⟨⟨upd_same, gT.ext gl⟩, fun _ _ _ e _ => e, List.mem_singleton.mpr rfl, fun b hb => ⟨potO pt, by rw [List.mem_singleton.mp hb]; exact upd_same, rfl⟩, fun _ z => (nomatch z), .nil, .nil, rfl, fun _ z => (nomatch z), fun j s hj => ?_⟩
      match j, hj with
      | 0, hj => cases hj; rfl
      | 1, hj => cases hj
      | 2, hj => cases hj; exact ⟨_, rfl, by simp [Cy.R, R]⟩
      | 3, hj => cases hj
      | j + 4, hj => simp at hj
    refine ⟨(l, upd H' l (potO pt)), [], [some (.raw (.ref a)), none, some (.val .pot), none], pt, rs, ?_⟩
    rw [eg]
    intro O' σ2 H2 rs2 _
    refine ⟨by rw [← rs2.len, List.length_cons, lg], rs2.sl 0 _ rfl, fun b o e n => ?_, rs2.pot.tab⟩
    have bl : b ≠ l := ne_of_none (g b o e n) hl
    exact rs2.ext b o bl (gl b o (g b o e n)) n
end
end LW

set_option Elab.async false
set_option linter.all false
set_option maxRecDepth 100000
set_option maxHeartbeats 4000000
/-! DGS: books worked out by simp. -/
namespace DF
open PySem L2
section
variable {α β : Type} {ρ : Slots} {pt : Pot}
theorem e_orM (g h : D → D → M D) (x y : D) : orM g h x y pt = (match g x y pt with
  | .stuck => h x y pt
  | r => r) := rfl
@[simp] theorem u_p0 : ixU .pot (.int 0) pt = .ok (.int pt.1) pt := rfl
@[simp] theorem u_p1 : ixU .pot (.int 1) pt = .ok (.int pt.2) pt := rfl
@[simp] theorem u_ixT (ds : List D) (i : Int) : ixU (.tup ds) (.int i) pt = opt (atI ds i) pt := by
  show orM ixM (pu dgD) _ _ pt = _
  rw [e_orM, e_ixT]
  cases atI ds i <;> rfl
@[simp] theorem u_ixL (ds : List D) (i : Int) : ixU (.lst ds) (.int i) pt = opt (atI ds i) pt := by
  show orM ixM (pu dgD) _ _ pt = _
  rw [e_orM, e_ixL]
  cases atI ds i <;> rfl
@[simp] theorem u_ixD (kvs : List (Key × D)) (x : Str) : ixU (.dcf kvs) (.str x) pt = opt (valD kvs (.inr x)) pt := by
  show orM ixM (pu dgD) _ _ pt = _
  rw [e_orM]
  rfl
@[simp] theorem e_at3 (a b c d : D) (ds : List D) : atI (a :: b :: c :: d :: ds) 3 = some d := by
  unfold atI ixN
  rw [if_pos (by decide), if_pos (by simp only [List.length_cons]; omega)]
  rfl
@[simp] theorem e_at4 (a b c d e : D) (ds : List D) : atI (a :: b :: c :: d :: e :: ds) 4 = some e := by
  unfold atI ixN
  rw [if_pos (by decide), if_pos (by simp only [List.length_cons]; omega)]
  rfl
@[simp] theorem u_inD (kvs : List (Key × D)) (x : Str) : inU (.str x) (.dcf kvs) pt = .ok (.bl (valD kvs (.inr x)).isSome) pt := rfl
@[simp] theorem u_ninD (kvs : List (Key × D)) (x : Str) : ninU (.str x) (.dcf kvs) pt = .ok (.bl (!(valD kvs (.inr x)).isSome)) pt := rfl
theorem u_inL (x : D) (ds : List D) (h1 : flatD x = true) (h2 : ds.all flatD = true) : inU x (.lst ds) pt = .ok (.bl (ds.any fun y => eqF y x)) pt := by
  show orM (pu inD) (pu dinD) _ _ pt = _
  have e : inD x (.lst ds) = some (.bl (ds.any fun y => eqF y x)) := by
    show ((inB x (.lst ds)).map D.bl) = _
    have e2 : inB x (.lst ds) = inL x ds := by cases x <;> rfl
    rw [e2]
    unfold inL
    rw [h1, h2]
    rfl
  rw [e_orM, e_pu, e, e_some]
theorem u_inT (x : D) (ds : List D) (h1 : flatD x = true) (h2 : ds.all flatD = true) : inU x (.tup ds) pt = .ok (.bl (ds.any fun y => eqF y x)) pt := by
  show orM (pu inD) (pu dinD) _ _ pt = _
  have e : inD x (.tup ds) = some (.bl (ds.any fun y => eqF y x)) := by
    show ((inB x (.tup ds)).map D.bl) = _
    have e2 : inB x (.tup ds) = inL x ds := by cases x <;> rfl
    rw [e2]
    unfold inL
    rw [h1, h2]
    rfl
  rw [e_orM, e_pu, e, e_some]
@[simp] theorem u_isN (x : D) : isU x .non pt = .ok (.bl (isNon x)) pt := by
  show orM (pu isN) (pu isBD) _ _ pt = _
  rw [e_orM, e_pu]
  cases x <;> rfl
@[simp] theorem u_isB (a b : Bool) : isU (.bl a) (.bl b) pt = .ok (.bl (decide (a = b))) pt := rfl
@[simp] theorem e_isNon (x : Str) : isNon (.str x) = false := rfl
@[simp] theorem e_isNon1 : isNon .non = true := rfl
@[simp] theorem e_ctn (kc : Nat) (fm : List D → M D) (x : D) (fs : List D) : ctnM kc fm x (.obj kc fs) pt = bndR (fm [.obj kc fs, x] pt) fun d => match d with
    | .bl b => ret (.bl b)
    | _ => fail := by
  show (if kc = kc then (_ : M D) else fail) pt = _
  rw [if_pos rfl]
  exact e_bnd _ _
@[simp] theorem e_nctn (kc : Nat) (fm : List D → M D) (x : D) (fs : List D) : nctnM kc fm x (.obj kc fs) pt = bndR (fm [.obj kc fs, x] pt) fun d => match d with
    | .bl b => ret (.bl (!b))
    | _ => fail := by
  show (if kc = kc then (_ : M D) else fail) pt = _
  rw [if_pos rfl]
  exact e_bnd _ _
@[simp] theorem e_dropS (f : Slots → M D) : dropS f ρ pt = bndR (f ρ pt) fun _ => ret (.nx ρ) := e_bnd _ _
@[simp] theorem e_parLL (i j : Nat) (f : Slots → M (List D)) : parLL i j f ρ pt = bndR (f ρ pt) fun ds => if i < ρ.length ∧ j < ρ.length then ret (.nx ((ρ.set i (some (.own ds))).set j (some (.own [])))) else fail := e_bnd _ _
@[simp] theorem e_parVD (i j : Nat) (f : Slots → M D) : parVD i j f ρ pt = bndR (f ρ pt) fun d => if i < ρ.length ∧ j < ρ.length then ret (.nx ((ρ.set i (some (.val d))).set j (some (.ownd [])))) else fail := e_bnd _ _
@[simp] theorem e_asgD (i : Nat) (f : Slots → M (List (Key × D))) : asgD i f ρ pt = bndR (f ρ pt) fun d => if i < ρ.length then ret (.nx (ρ.set i (some (.ownd d)))) else fail := e_bnd _ _
@[simp] theorem e_methKE (kc n mk : Nat) (fm : List D → M D) (sel : List (Bool × Nat)) (dd : List D) (fo : Slots → M D) (fk : Slots → M (List D)) (fs : List D) (h : fo ρ pt = .ok (.obj kc fs) pt) : methKE kc n mk fm sel dd fo fk ρ pt = bndR (fk ρ pt) fun es => if es.length = mk ∧ (pick sel dd es).length + 1 = n then fm (.obj kc fs :: pick sel dd es) else fail := by
  show bnd (fo ρ) _ pt = _
  rw [e_bnd, h, e_bndok]
  show (if kc = kc then (_ : M D) else fail) pt = _
  rw [if_pos rfl]
  exact e_bnd _ _
@[simp] theorem e_revT (f : Slots → M D) (ds : List D) (h : f ρ pt = .ok (.tup ds) pt) : revTE f ρ pt = .ok (.tup ds.reverse) pt := by
  show bnd (f ρ) _ pt = _
  rw [e_bnd, h, e_bndok]
  rfl
@[simp] theorem e_revI (f : Slots → M D) : revI f ρ pt = bndR (f ρ pt) fun d => opt ((seqD d).map List.reverse) := e_bnd _ _
@[simp] theorem e_seqD (ds : List D) : seqD (.tup ds) = some ds := rfl
@[simp] theorem e_updS (i : Nat) (f : Slots → M (List (Key × D))) : updS i f ρ pt = bndR (opt (owndOf ρ[i]?) pt) fun kvs => bnd (f ρ) fun more => if kvs.length + more.length ≤ 100000 then ret (.nx (ρ.set i (some (.ownd (mergeD kvs more))))) else fail := e_bnd _ _
@[simp] theorem e_owndOf (kvs : List (Key × D)) : owndOf (some (some (.ownd kvs))) = some kvs := rfl
@[simp] theorem e_bownd (kvs : List (Key × D)) : bvalOf (some (some (.ownd kvs))) = some (.dct kvs) := rfl
theorem comp_same {i : Nat} {t : Slots → M Bool} {f : Slots → M D} {F : D → D} (hi : i < ρ.length) (ht : ∀ r p, t r p = .ok true p) (items : List D) (h : ∀ d ∈ items, f (ρ.set i (some (.val d))) pt = .ok (F d) pt) (hl : items.length ≤ 100000) :
    compL (tgN i) t f ρ items [] pt = .ok (items.map F) pt := by
  have := comp_pure (ρ := ρ) (pt := pt) (t := t) (f := f) (p := fun _ => true) (F := F) hi items [] (fun d hd => ⟨ht _ _, h d hd⟩) (by simpa using hl)
  rw [List.filter_eq_self.mpr (by simp)] at this
  simpa using this
/-- a loop whose body changes nothing -/
theorem for_same {i : Nat} {g : Slots → M Out} (hi : i < ρ.length) : ∀ (items : List D) (x : Option SV), (∀ d ∈ items, g (ρ.set i (some (.val d))) pt = .ok (.nx (ρ.set i (some (.val d)))) pt) → ∃ y, forL (tgN i) g items (ρ.set i x) pt = .ok (.nx (ρ.set i y)) pt
  | [], x, _ => ⟨x, rfl⟩
  | d :: items, x, h => by
    obtain ⟨y, e⟩ := for_same hi items (some (.val d)) fun e he => h e (List.mem_cons_of_mem _ he)
    refine ⟨y, ?_⟩
    have hi' : i < (ρ.set i x).length := by simpa using hi
    rw [e_forL, e_tgN, if_pos hi', List.set_set, e_some, e_bndok, e_bnd, h d List.mem_cons_self, e_bndok, e_forK, e]
/-- a loop whose body leaves at the first bad one -/
theorem for_stop {i : Nat} {g : Slots → M Out} (hi : i < ρ.length) {bad : D → Bool} {r : D → Res Out} (hr : ∀ d k, bndR (r d) k = r d) : ∀ (items : List D) (x : Option SV), (∀ d ∈ items, bad d = false → g (ρ.set i (some (.val d))) pt = .ok (.nx (ρ.set i (some (.val d)))) pt) → (∀ d ∈ items, bad d = true → g (ρ.set i (some (.val d))) pt = r d) →
    ∀ z, items.find? bad = some z → forL (tgN i) g items (ρ.set i x) pt = r z
  | [], x, _, _, z, h => by cases h
  | d :: items, x, h1, h2, z, hz => by
    have hi' : i < (ρ.set i x).length := by simpa using hi
    rw [e_forL, e_tgN, if_pos hi', List.set_set, e_some, e_bndok, e_bnd]
    cases hb : bad d with
    | true =>
      rw [List.find?_cons, hb] at hz
      cases hz
      rw [h2 _ List.mem_cons_self hb, hr]
    | false =>
      rw [List.find?_cons, hb] at hz
      rw [h1 d List.mem_cons_self hb, e_bndok, e_forK]
      exact for_stop hi hr items _ (fun e he => h1 e (List.mem_cons_of_mem _ he)) (fun e he => h2 e (List.mem_cons_of_mem _ he)) z hz
theorem erase_perm {α : Type} : ∀ (l : List α) (i : Nat) (h : i < l.length), (l[i] :: l.eraseIdx i).Perm l
  | [], i, h => absurd h (by simp)
  | a :: l, 0, h => by simp
  | a :: l, i + 1, h => by
    have hi : i < l.length := by simpa using h
    simp only [List.getElem_cons_succ, List.eraseIdx_cons_succ]
    exact (List.Perm.swap _ _ _).trans ((erase_perm l i hi).cons _)
end
end DF

set_option Elab.async false
set_option linter.all false
set_option maxRecDepth 100000
set_option maxHeartbeats 4000000
namespace LW
open PySem L2 DF
theorem draw1 {pt : Pot} {n : Int} (h : Pt pt) (h0 : 0 < n) (h1 : n < 1073741824) : ∃ z q, m__law_draw [.pot, .int n] pt = .ok (.int z) q ∧ 0 ≤ z ∧ z < n ∧ Pt q := by
  obtain ⟨a, b, c⟩ := h
  unfold m__law_draw g__law_draw
  rw [e_fnM]
  by_cases hp : 0 < pt.1
  · refine ⟨pt.1 % n, (pt.1 / n, pt.2), ?_, Int.emod_nonneg _ (by omega), Int.emod_lt_of_pos _ h0, Int.ediv_nonneg a (Int.le_of_lt h0), b, c⟩
    simp [ini, hp, dmF, h0, h1, potS2, two, isPot, setP]
  · have hq0 : 0 ≤ (pt.2 * 44203 + 15511) % 2147483587 := Int.emod_nonneg _ (by decide)
    have hq1 : (pt.2 * 44203 + 15511) % 2147483587 < 2147483587 := Int.emod_lt_of_pos _ (by decide)
    have b1 : Bd 32 pt.2 := by unfold Bd; omega
    have b2 : Bd 16 44203 := by unfold Bd; decide
    have b3 : Bd 32 ((pt.2 * 44203 + 15511) % 2147483587) := by unfold Bd; omega
    have k1 := b1.ok b2 (by decide) (by decide) (by decide)
    have k2 := b3.ok b3 (by decide) (by decide) (by decide)
    refine ⟨((pt.2 * 44203 + 15511) % 2147483587 * ((pt.2 * 44203 + 15511) % 2147483587) % 2147483549 / 11) % n, (pt.1, (pt.2 * 44203 + 15511) % 2147483587), ?_, Int.emod_nonneg _ (by omega), Int.emod_lt_of_pos _ h0, a, hq0, by show _ < (4294967296 : Int); omega⟩
    generalize hq : (pt.2 * 44203 + 15511) % 2147483587 = q at *
    simp [ini, hp, potS, isPot, setP, intOf, intF, k1, k2, h0, hq]
theorem at_in {α : Type} {ds : List α} {z : Int} (h0 : 0 ≤ z) (h1 : z < ds.length) : ∃ d, atI ds z = some d ∧ d ∈ ds := by
  have hn : z.toNat < ds.length := by omega
  refine ⟨ds[z.toNat], ?_, List.getElem_mem hn⟩
  unfold atI ixN
  rw [if_pos h0, if_pos h1, Option.bind_some, List.getElem?_eq_getElem hn]
theorem pick1 {pt : Pot} (h : Pt pt) (ds : List D) (h0 : 0 < ds.length) (h1 : ds.length < 1000000) : ∃ d q, m__law_pick [.pot, .lst ds] pt = .ok d q ∧ d ∈ ds ∧ Pt q := by
  obtain ⟨z, q, e, z0, z1, hq⟩ := draw1 (n := (ds.length : Int)) h (by omega) (by omega)
  obtain ⟨d, ed, hd⟩ := at_in z0 z1
  refine ⟨d, q, ?_, hd, hq⟩
  unfold m__law_pick g__law_pick
  rw [e_fnM]
  simp [ini, lenF, e, ed]
/-! ### mixed -/
theorem mix_loop (g : D) : ∀ (items left mixed : List D) (x : Option SV) (pt : Pot), Pt pt → left.length = items.length → mixed.length + left.length ≤ 1000 →
    ∃ es q y, forL (tgN 4) g__law_mixed_b1 items [some (.val .pot), some (.val g), some (.own left), some (.own mixed), x] pt = .ok (.nx [some (.val .pot), some (.val g), some (.own []), some (.own es), y]) q ∧ es.Perm (mixed ++ left) ∧ Pt q
  | [], left, mixed, x, pt, h, hl, _ => by
    have e : left = [] := List.length_eq_zero_iff.mp hl
    subst e
    exact ⟨mixed, pt, x, rfl, by simp, h⟩
  | d :: items, left, mixed, x, pt, h, hl, hs => by
    simp only [List.length_cons] at hl
    obtain ⟨z, p1, e1, z0, z1, h1⟩ := draw1 (n := (left.length : Int)) h (by omega) (by omega)
    have hz : z.toNat < left.length := by omega
    obtain ⟨es, q, y, e2, pm, hq⟩ := mix_loop g items (left.eraseIdx z.toNat) (mixed ++ [left[z.toNat]]) (some (.val d)) p1 h1 (by rw [List.length_eraseIdx_of_lt hz]; omega) (by rw [List.length_eraseIdx_of_lt hz]; simp; omega)
    refine ⟨es, q, y, ?_, pm.trans ?_, hq⟩
    · have st : g__law_mixed_b1 [some (.val .pot), some (.val g), some (.own left), some (.own mixed), some (.val d)] pt = .ok (.nx [some (.val .pot), some (.val g), some (.own (left.eraseIdx z.toNat)), some (.own (mixed ++ [left[z.toNat]])), some (.val d)]) p1 := by
        have hs1 : left.length ≤ 100000 := by omega
        have hs2 : mixed.length + 1 ≤ 100000 := by omega
        simp [g__law_mixed_b1, apPopS, lenF, e1, z0, z1, hs1, hz, List.getElem?_eq_getElem hz, hs2]
      rw [e_forL]
      simp [st, e2]
    · rw [List.append_assoc]
      exact (List.Perm.refl _).append (by simpa using erase_perm _ _ hz)
theorem mixed1 {pt : Pot} (h : Pt pt) (ds : List D) (hl : ds.length ≤ 1000) : ∃ es q, m__law_mixed [.pot, .lst ds] pt = .ok (.lst es) q ∧ es.Perm ds ∧ Pt q := by
  obtain ⟨es, q, y, e, pm, hq⟩ := mix_loop (.lst ds) ds ds [] none pt h rfl (by simpa using hl)
  refine ⟨es, q, ?_, by simpa using pm, hq⟩
  unfold m__law_mixed g__law_mixed
  rw [e_fnM]
  simp [ini, listF, seqOf, e, frz1]
end LW

set_option Elab.async false
set_option linter.all false
set_option maxRecDepth 100000
set_option maxHeartbeats 4000000
/-! MB: kinds of a book as rows. -/
namespace LW
open PySem L2 DF
structure Row where
  n : Str
  t : Int
  m : Int
  b : Option Str
  i : Option Str
  y : Int
def oD : Option Str → D
  | none => .non
  | some x => .str x
@[simp] theorem oD_none : oD none = .non := rfl
@[simp] theorem oD_some (x : Str) : oD (some x) = .str x := rfl
@[simp] theorem oD_isNon (x : Option Str) : isNon (oD x) = x.isNone := by cases x <;> rfl
def rowD (r : Row) : D := .tup [.int r.t, .int r.m, oD r.b, oD r.i, .int r.y]
def kindD (r : Row) : D := .obj 0 [.str r.n, .int r.t, .int r.m, oD r.b, oD r.i, .int r.y]
def pairD (r : Row) : D := .tup [.str r.n, rowD r]
/-- back and mirror of a row are rows of the book, and tell of it -/
structure Cl (rs : List Row) (r : Row) : Prop where
  bk : ∀ b, r.b = some b → ∃ s ∈ rs, s.n = b ∧ s.t = r.t ∧ s.m = r.m ∧ s.b = some r.n
  mi : ∀ i, r.i = some i → ∃ s ∈ rs, s.n = i ∧ s.t = r.t ∧ s.m = r.m ∧ s.i = some r.n
  cr : ∀ b i, r.b = some b → r.i = some i → ∃ s ∈ rs, ∃ u ∈ rs, ∃ x, s.n = b ∧ u.n = i ∧ s.i = some x ∧ u.b = some x
theorem Cl.mono {rs ss : List Row} {r : Row} (c : Cl rs r) (h : ∀ q ∈ rs, q ∈ ss) : Cl ss r := by
  refine ⟨fun b e => ?_, fun i e => ?_, fun b i e f => ?_⟩
  · obtain ⟨s, hs, q⟩ := c.bk b e
    exact ⟨s, h s hs, q⟩
  · obtain ⟨s, hs, q⟩ := c.mi i e
    exact ⟨s, h s hs, q⟩
  · obtain ⟨s, hs, u, hu, q⟩ := c.cr b i e f
    exact ⟨s, h s hs, u, h u hu, q⟩
/-- a valid size -/
structure Sz (t m : Int) : Prop where
  t0 : 0 ≤ t
  t6 : t ≤ 6
  m0 : 0 ≤ m
  m6 : m ≤ 6
  ne : ¬ (t = 0 ∧ m = 0)
def shopD (rs : List Row) : List (Key × D) := rs.map fun r => (.inr r.n, rowD r)
def foundD (rs : List Row) : List (Key × D) := rs.map fun r => (.inr r.n, kindD r)
def look (rs : List Row) (x : Str) : Option Row := rs.find? fun r => decide (r.n = x)
theorem val_map (F : Row → D) (x : Str) : ∀ rs : List Row, valD (rs.map fun r => (.inr r.n, F r)) (.inr x) = (look rs x).map F
  | [] => rfl
  | r :: rs => by
    have ih := val_map F x rs
    unfold valD look at ih ⊢
    rw [List.map_cons, List.find?_cons, List.find?_cons]
    have e : decide ((Sum.inr r.n : Key) = Sum.inr x) = decide (r.n = x) := key_rr _ _
    rw [e]
    cases decide (r.n = x) with
    | true => rfl
    | false => exact ih
theorem val_shop (rs : List Row) (x : Str) : valD (shopD rs) (.inr x) = (look rs x).map rowD := val_map rowD x rs
theorem val_found (rs : List Row) (x : Str) : valD (foundD rs) (.inr x) = (look rs x).map kindD := val_map kindD x rs
theorem look_mem {rs : List Row} {x : Str} {r : Row} (h : look rs x = some r) : r ∈ rs ∧ r.n = x := ⟨List.mem_of_find?_eq_some h, by simpa using List.find?_some h⟩
theorem look_of {rs : List Row} (nd : (rs.map (·.n)).Nodup) : ∀ {r : Row}, r ∈ rs → look rs r.n = some r := by
  induction rs with
  | nil => intro r h; cases h
  | cons a rs ih =>
    intro r h
    rw [List.map_cons, List.nodup_cons] at nd
    unfold look
    rw [List.find?_cons]
    rcases List.mem_cons.mp h with rfl | h
    · simp
    · have ne : a.n ≠ r.n := fun e => nd.1 (e ▸ List.mem_map.mpr ⟨r, h, rfl⟩)
      rw [decide_eq_false ne]
      exact ih nd.2 h
theorem look_perm {rs ss : List Row} (nd : (rs.map (·.n)).Nodup) (p : ss.Perm rs) (x : Str) : look ss x = look rs x := by
  have nd2 : (ss.map (·.n)).Nodup := (p.map _).nodup_iff.mpr nd
  cases h : look rs x with
  | some r =>
    obtain ⟨hr, rfl⟩ := look_mem h
    exact look_of nd2 (p.mem_iff.mpr hr)
  | none =>
    cases h2 : look ss x with
    | none => rfl
    | some r =>
      obtain ⟨hr, rfl⟩ := look_mem h2
      rw [look_of nd (p.mem_iff.mp hr)] at h
      cases h
theorem look_some {rs : List Row} {x : Str} (h : x ∈ rs.map (·.n)) : ∃ r, look rs x = some r := by
  obtain ⟨r, hr, rfl⟩ := List.mem_map.mp h
  cases e : look rs r.n with
  | some q => exact ⟨q, rfl⟩
  | none =>
    have := List.find?_eq_none.mp e r hr
    simp at this
/-- one group of a book -/
structure Grp (names : List Str) (t m : Int) (rs : List Row) : Prop where
  pos : 0 < rs.length
  le : rs.length ≤ names.length
  ns : rs.map (·.n) = names.take rs.length
  sz : ∀ r ∈ rs, r.t = t ∧ r.m = m ∧ 0 ≤ r.y ∧ r.y < 4
  cl : ∀ r ∈ rs, Cl rs r
theorem grp4 {a b c d : Str} {rest : List Str} {t m y0 y1 y2 y3 : Int} (h0 : 0 ≤ y0 ∧ y0 < 4) (h1 : 0 ≤ y1 ∧ y1 < 4) (h2 : 0 ≤ y2 ∧ y2 < 4) (h3 : 0 ≤ y3 ∧ y3 < 4) : Grp (a :: b :: c :: d :: rest) t m [⟨a, t, m, some b, some c, y0⟩, ⟨b, t, m, some a, some d, y1⟩, ⟨c, t, m, some d, some a, y2⟩, ⟨d, t, m, some c, some b, y3⟩] := by
  refine ⟨by simp, by simp, rfl, ?_, ?_⟩
  · intro r hr
    simp only [List.mem_cons, List.not_mem_nil, or_false] at hr
    rcases hr with rfl | rfl | rfl | rfl <;> simp [h0, h1, h2, h3]
  · intro r hr
    simp only [List.mem_cons, List.not_mem_nil, or_false] at hr
    rcases hr with rfl | rfl | rfl | rfl
    all_goals constructor
    all_goals simp
theorem grp2 {a b : Str} {rest : List Str} {t m y0 y1 : Int} (h0 : 0 ≤ y0 ∧ y0 < 4) (h1 : 0 ≤ y1 ∧ y1 < 4) : Grp (a :: b :: rest) t m [⟨a, t, m, some b, some a, y0⟩, ⟨b, t, m, some a, some b, y1⟩] ∧ Grp (a :: b :: rest) t m [⟨a, t, m, some b, some b, y0⟩, ⟨b, t, m, some a, some a, y1⟩] ∧ Grp (a :: b :: rest) t m [⟨a, t, m, none, some b, y0⟩, ⟨b, t, m, none, some a, y1⟩] := by
  refine ⟨⟨by simp, by simp, rfl, ?_, ?_⟩, ⟨by simp, by simp, rfl, ?_, ?_⟩, ⟨by simp, by simp, rfl, ?_, ?_⟩⟩
  all_goals intro r hr
  all_goals simp only [List.mem_cons, List.not_mem_nil, or_false] at hr
  all_goals rcases hr with rfl | rfl
  all_goals first | (simp [h0, h1]; done) | (constructor <;> simp)
theorem grp1 {a : Str} {rest : List Str} {t m y0 : Int} (h0 : 0 ≤ y0 ∧ y0 < 4) (b i : Option Str) (hb : b = none ∨ b = some a) (hi : i = none ∨ i = some a) : Grp (a :: rest) t m [⟨a, t, m, b, i, y0⟩] := by
  refine ⟨by simp, by simp, rfl, ?_, ?_⟩
  all_goals intro r hr
  all_goals simp only [List.mem_cons, List.not_mem_nil, or_false] at hr
  all_goals subst hr
  · simp [h0]
  · rcases hb with rfl | rfl <;> rcases hi with rfl | rfl <;> constructor <;> simp
end LW

set_option Elab.async false
set_option linter.all false
set_option maxRecDepth 100000
set_option maxHeartbeats 4000000
namespace LW
open PySem L2 DF
/-! ### a group -/
def trD (x : Str × Option Str × Option Str) : D := .tup [.str x.1, oD x.2.1, oD x.2.2]
theorem four : rng1 [.int 4] = some [.int 0, .int 1, .int 2, .int 3] := by rfl
theorem grp_yarns {pt : Pot} (h : Pt pt) (n s b w : D) : ∃ y0 y1 y2 y3 q, (0 ≤ y0 ∧ y0 < 4) ∧ (0 ≤ y1 ∧ y1 < 4) ∧ (0 ≤ y2 ∧ y2 < 4) ∧ (0 ≤ y3 ∧ y3 < 4) ∧ Pt q ∧
    g__law_group_s2 [some (.val .pot), some (.val n), some (.val s), some (.val b), some (.val w), none, none, none, none, none, none, none, none, none, none] pt = .ok (.nx [some (.val .pot), some (.val n), some (.val s), some (.val b), some (.val w), some (.val (.lst [.int y0, .int y1, .int y2, .int y3])), none, none, none, none, none, none, none, none, none]) q := by
  obtain ⟨y0, p0, e0, a0, b0, h0⟩ := draw1 (n := 4) h (by decide) (by decide)
  obtain ⟨y1, p1, e1, a1, b1, h1⟩ := draw1 (n := 4) h0 (by decide) (by decide)
  obtain ⟨y2, p2, e2, a2, b2, h2⟩ := draw1 (n := 4) h1 (by decide) (by decide)
  obtain ⟨y3, p3, e3, a3, b3, h3⟩ := draw1 (n := 4) h2 (by decide) (by decide)
  refine ⟨y0, y1, y2, y3, p3, ⟨a0, b0⟩, ⟨a1, b1⟩, ⟨a2, b2⟩, ⟨a3, b3⟩, h3, ?_⟩
  unfold g__law_group_s2
  simp [four, noOwn, e0, e1, e2, e3]
theorem grp_way {pt : Pot} (h : Pt pt) (n s : D) (b : Bool) : ∃ w q, 0 ≤ w ∧ w < 7 ∧ Pt q ∧
    g__law_group_s1 [some (.val .pot), some (.val n), some (.val s), some (.val (.bl b)), none, none, none, none, none, none, none, none, none, none, none] pt = .ok (.nx [some (.val .pot), some (.val n), some (.val s), some (.val (.bl b)), some (.val (.int w)), none, none, none, none, none, none, none, none, none, none]) q := by
  cases b with
  | true =>
    obtain ⟨w, q, e, a, c, hq⟩ := draw1 (n := 4) h (by decide) (by decide)
    refine ⟨w, q, a, by omega, hq, ?_⟩
    unfold g__law_group_s1
    simp [e]
  | false =>
    obtain ⟨w, q, e, a, c, hq⟩ := draw1 (n := 7) h (by decide) (by decide)
    refine ⟨w, q, a, by omega, hq, ?_⟩
    unfold g__law_group_s1
    simp [e]
theorem grp_row {t m y : Int} {x : Str × Option Str × Option Str} {a b c d e f g h j k r : Option SV} {pt : Pot} (l : List D) (hl : l.length ≤ 10) : g__law_group_b1 [a, b, some (.val (.tup [.int t, .int m])), c, d, e, f, g, h, j, k, r, some (.own l), some (.val (trD x)), some (.val (.int y))] pt =
    .ok (.nx [a, b, some (.val (.tup [.int t, .int m])), c, d, e, f, g, h, j, k, r, some (.own (l ++ [pairD ⟨x.1, t, m, x.2.1, x.2.2, y⟩])), some (.val (trD x)), some (.val (.int y))]) pt := by
  have h1 : l.length + 1 ≤ 100000 := by omega
  unfold g__law_group_b1
  simp [trD, pairD, rowD, tCat, h1]
theorem grp_end1 {t m y0 y1 y2 y3 : Int} {x : Str × Option Str × Option Str} {a b c d f g h j k : Option SV} {pt : Pot} : seqS g__law_group_s4 (seqS g__law_group_s5 g__law_group_s6) [a, b, some (.val (.tup [.int t, .int m])), c, d, some (.val (.lst [.int y0, .int y1, .int y2, .int y3])), f, g, h, j, k, some (.val (.lst [trD x])), none, none, none] pt =
    .ok (.rt (.lst [pairD ⟨x.1, t, m, x.2.1, x.2.2, y0⟩])) pt := by
  unfold g__law_group_s4 g__law_group_s5 g__law_group_s6
  simp [zipA, pairs, grp_row, frz1]
theorem grp_end2 {t m y0 y1 y2 y3 : Int} {x x2 : Str × Option Str × Option Str} {a b c d f g h j k : Option SV} {pt : Pot} : seqS g__law_group_s4 (seqS g__law_group_s5 g__law_group_s6) [a, b, some (.val (.tup [.int t, .int m])), c, d, some (.val (.lst [.int y0, .int y1, .int y2, .int y3])), f, g, h, j, k, some (.val (.lst [trD x, trD x2])), none, none, none] pt =
    .ok (.rt (.lst [pairD ⟨x.1, t, m, x.2.1, x.2.2, y0⟩, pairD ⟨x2.1, t, m, x2.2.1, x2.2.2, y1⟩])) pt := by
  unfold g__law_group_s4 g__law_group_s5 g__law_group_s6
  simp [zipA, pairs, grp_row, frz1]
theorem grp_end4 {t m y0 y1 y2 y3 : Int} {x x2 x3 x4 : Str × Option Str × Option Str} {a b c d f g h j k : Option SV} {pt : Pot} : seqS g__law_group_s4 (seqS g__law_group_s5 g__law_group_s6) [a, b, some (.val (.tup [.int t, .int m])), c, d, some (.val (.lst [.int y0, .int y1, .int y2, .int y3])), f, g, h, j, k, some (.val (.lst [trD x, trD x2, trD x3, trD x4])), none, none, none] pt =
    .ok (.rt (.lst [pairD ⟨x.1, t, m, x.2.1, x.2.2, y0⟩, pairD ⟨x2.1, t, m, x2.2.1, x2.2.2, y1⟩, pairD ⟨x3.1, t, m, x3.2.1, x3.2.2, y2⟩, pairD ⟨x4.1, t, m, x4.2.1, x4.2.2, y3⟩])) pt := by
  unfold g__law_group_s4 g__law_group_s5 g__law_group_s6
  simp [zipA, pairs, grp_row, frz1]
abbrev gS (ns : List Str) (s b y : D) (w : Int) (g h j k r : Option SV) : Slots := [some (.val .pot), some (.val (.lst (ns.map .str))), some (.val s), some (.val b), some (.val (.int w)), some (.val y), none, g, h, j, k, r, none, none, none]
theorem in23 (w : Int) {pt : Pot} : inU (.int w) (.tup [.int 2, .int 3]) pt = .ok (.bl (decide (w = 2) || decide (w = 3))) pt := by
  rw [u_inT _ _ rfl rfl]
  have e : ([D.int 2, D.int 3].any fun y => eqF y (.int w)) = (decide (w = 2) || decide (w = 3)) := by
    by_cases h2 : w = 2
    · subst h2; rfl
    · by_cases h3 : w = 3
      · subst h3; rfl
      · have e2 : ((2 : Int) == w) = false := beq_eq_false_iff_ne.mpr (Ne.symm h2)
        have e3 : ((3 : Int) == w) = false := beq_eq_false_iff_ne.mpr (Ne.symm h3)
        simp only [List.any_cons, List.any_nil, eqF, e2, e3, decide_eq_false h2, decide_eq_false h3]
        rfl
  rw [e]
theorem grp_rows4 {a b c d : Str} {rest : List Str} {s bo y : D} {pt : Pot} : g__law_group_s3 (gS (a :: b :: c :: d :: rest) s bo y 1 none none none none none) pt =
    .ok (.nx (gS (a :: b :: c :: d :: rest) s bo y 1 (some (.val (.str a))) (some (.val (.str b))) (some (.val (.str c))) (some (.val (.str d))) (some (.val (.lst [trD (a, some b, some c), trD (b, some a, some d), trD (c, some d, some a), trD (d, some c, some b)]))))) pt := by
  have hl : (4 : Int) ≤ (rest.length : Int) + 1 + 1 + 1 + 1 := by omega
  unfold g__law_group_s3
  simp [lenF, trD, hl, in23]
theorem grp_rows2 {a b : Str} {rest : List Str} {s bo y : D} {pt : Pot} : g__law_group_s3 (gS (a :: b :: rest) s bo y 2 none none none none none) pt =
    .ok (.nx (gS (a :: b :: rest) s bo y 2 (some (.val (.str a))) (some (.val (.str b))) none none (some (.val (.lst [trD (a, some b, some a), trD (b, some a, some b)]))))) pt := by
  have hl : (2 : Int) ≤ (rest.length : Int) + 1 + 1 := by omega
  unfold g__law_group_s3
  simp [lenF, trD, hl, in23]
theorem grp_rows3 {a b : Str} {rest : List Str} {s bo y : D} {pt : Pot} : g__law_group_s3 (gS (a :: b :: rest) s bo y 3 none none none none none) pt =
    .ok (.nx (gS (a :: b :: rest) s bo y 3 (some (.val (.str a))) (some (.val (.str b))) none none (some (.val (.lst [trD (a, some b, some b), trD (b, some a, some a)]))))) pt := by
  have hl : (2 : Int) ≤ (rest.length : Int) + 1 + 1 := by omega
  unfold g__law_group_s3
  simp [lenF, trD, hl, in23]
theorem grp_rows5 {a b : Str} {rest : List Str} {s bo y : D} {pt : Pot} : g__law_group_s3 (gS (a :: b :: rest) s bo y 4 none none none none none) pt =
    .ok (.nx (gS (a :: b :: rest) s bo y 4 none none none none (some (.val (.lst [trD (a, none, some b), trD (b, none, some a)]))))) pt := by
  have hl : (2 : Int) ≤ (rest.length : Int) + 1 + 1 := by omega
  unfold g__law_group_s3
  simp [lenF, trD, hl, in23]
theorem grp_rows1 {a : Str} {rest : List Str} {s bo y : D} {w : Int} {pt : Pot} (w0 : 0 ≤ w) (w7 : w < 7) (h1 : ¬ (w = 1 ∧ 3 ≤ rest.length)) (h2 : ¬ ((w = 2 ∨ w = 3) ∧ 1 ≤ rest.length)) (h3 : ¬ (w = 4 ∧ 1 ≤ rest.length)) : g__law_group_s3 (gS (a :: rest) s bo y w none none none none none) pt =
    .ok (.nx (gS (a :: rest) s bo y w none none none none (some (.val (.lst [trD (a, if w < 5 then some a else none, if w ≠ 6 then some a else none)]))))) pt := by
  unfold g__law_group_s3
  have hw : w = 0 ∨ w = 1 ∨ w = 2 ∨ w = 3 ∨ w = 4 ∨ w = 5 ∨ w = 6 := by omega
  rcases hw with rfl | rfl | rfl | rfl | rfl | rfl | rfl
  · simp [lenF, trD, in23]
  · have q : ¬ ((4 : Int) ≤ (rest.length : Int) + 1) := by omega
    simp [lenF, trD, in23, q]
  · have q : ¬ ((2 : Int) ≤ (rest.length : Int) + 1) := by omega
    simp [lenF, trD, in23, q]
  · have q : ¬ ((2 : Int) ≤ (rest.length : Int) + 1) := by omega
    simp [lenF, trD, in23, q]
  · have q : ¬ ((2 : Int) ≤ (rest.length : Int) + 1) := by omega
    simp [lenF, trD, in23, q]
  · simp [lenF, trD, in23]
  · simp [lenF, trD, in23]
theorem grp_join {ns : List Str} {t m : Int} {bo : Bool} {pt q1 q2 : Pot} {w : Int} {y : D} {g h j k r : Option SV} {out : D}
    (e1 : g__law_group_s1 [some (.val .pot), some (.val (.lst (ns.map .str))), some (.val (.tup [.int t, .int m])), some (.val (.bl bo)), none, none, none, none, none, none, none, none, none, none, none] pt = .ok (.nx [some (.val .pot), some (.val (.lst (ns.map .str))), some (.val (.tup [.int t, .int m])), some (.val (.bl bo)), some (.val (.int w)), none, none, none, none, none, none, none, none, none, none]) q1)
    (e2 : g__law_group_s2 [some (.val .pot), some (.val (.lst (ns.map .str))), some (.val (.tup [.int t, .int m])), some (.val (.bl bo)), some (.val (.int w)), none, none, none, none, none, none, none, none, none, none] q1 = .ok (.nx [some (.val .pot), some (.val (.lst (ns.map .str))), some (.val (.tup [.int t, .int m])), some (.val (.bl bo)), some (.val (.int w)), some (.val y), none, none, none, none, none, none, none, none, none]) q2)
    (e3 : g__law_group_s3 (gS ns (.tup [.int t, .int m]) (.bl bo) y w none none none none none) q2 = .ok (.nx (gS ns (.tup [.int t, .int m]) (.bl bo) y w g h j k r)) q2)
    (e4 : seqS g__law_group_s4 (seqS g__law_group_s5 g__law_group_s6) (gS ns (.tup [.int t, .int m]) (.bl bo) y w g h j k r) q2 = .ok (.rt out) q2) :
    m__law_group [.pot, .lst (ns.map .str), .tup [.int t, .int m], .bl bo] pt = .ok out q2 := by
  unfold m__law_group g__law_group
  rw [e_fnM]
  show bndR (seqS _ _ [some (.val .pot), some (.val (.lst (ns.map .str))), some (.val (.tup [.int t, .int m])), some (.val (.bl bo)), none, none, none, none, none, none, none, none, none, none, none] pt) finK = _
  rw [e_seqS, e1, e_bndok, e_seqK, e_seqS, e2, e_bndok, e_seqK, e_seqS, e3, e_bndok, e_seqK, e4]
  rfl
theorem ite_or {c : Prop} [Decidable c] {a : Str} : (if c then some a else none) = none ∨ (if c then some a else none) = some a := by
  by_cases h : c
  · exact .inr (if_pos h)
  · exact .inl (if_neg h)
theorem group1 {pt : Pot} (hp : Pt pt) {ns : List Str} (h0 : ns ≠ []) (t m : Int) (bo : Bool) : ∃ rs q, m__law_group [.pot, .lst (ns.map .str), .tup [.int t, .int m], .bl bo] pt = .ok (.lst (rs.map pairD)) q ∧ Grp ns t m rs ∧ Pt q := by
  obtain ⟨w, q1, w0, w7, hq1, e1⟩ := grp_way hp (.lst (ns.map .str)) (.tup [.int t, .int m]) bo
  obtain ⟨y0, y1, y2, y3, q2, a0, a1, a2, a3, hq2, e2⟩ := grp_yarns hq1 (.lst (ns.map .str)) (.tup [.int t, .int m]) (.bl bo) (.int w)
  obtain ⟨a, rest, rfl⟩ : ∃ a rest, ns = a :: rest := by
    cases ns with
    | nil => exact absurd rfl h0
    | cons a rest => exact ⟨a, rest, rfl⟩
  by_cases h1 : w = 1 ∧ 3 ≤ rest.length
  · obtain ⟨rfl, hl⟩ := h1
    obtain ⟨b, c, d, r2, rfl⟩ : ∃ b c d r2, rest = b :: c :: d :: r2 := by
      match rest, hl with
      | b :: c :: d :: r2, _ => exact ⟨b, c, d, r2, rfl⟩
    exact ⟨[_, _, _, _], q2, grp_join e1 e2 grp_rows4 grp_end4, grp4 a0 a1 a2 a3, hq2⟩
  by_cases h2 : (w = 2 ∨ w = 3) ∧ 1 ≤ rest.length
  · obtain ⟨hw, hl⟩ := h2
    obtain ⟨b, r2, rfl⟩ : ∃ b r2, rest = b :: r2 := by
      match rest, hl with
      | b :: r2, _ => exact ⟨b, r2, rfl⟩
    rcases hw with rfl | rfl
    · exact ⟨[_, _], q2, grp_join e1 e2 grp_rows2 grp_end2, (grp2 a0 a1).1, hq2⟩
    · exact ⟨[_, _], q2, grp_join e1 e2 grp_rows3 grp_end2, (grp2 a0 a1).2.1, hq2⟩
  by_cases h3 : w = 4 ∧ 1 ≤ rest.length
  · obtain ⟨rfl, hl⟩ := h3
    obtain ⟨b, r2, rfl⟩ : ∃ b r2, rest = b :: r2 := by
      match rest, hl with
      | b :: r2, _ => exact ⟨b, r2, rfl⟩
    exact ⟨[_, _], q2, grp_join e1 e2 grp_rows5 grp_end2, (grp2 a0 a1).2.2, hq2⟩
  exact ⟨[_], q2, grp_join e1 e2 (grp_rows1 w0 w7 h1 h2 h3) grp_end1, grp1 a0 _ _ ite_or ite_or, hq2⟩
end LW

set_option Elab.async false
set_option linter.all false
set_option maxRecDepth 100000
set_option maxHeartbeats 4000000
/-! MC: data shown and compared. -/
namespace LW
open PySem L2 DF
structure Shw (x : PyData) (d L : Nat) : Prop where
  sh : x.showable = true
  dp : x.depth ≤ d
  ln : x.shown.length ≤ L
theorem shw_all {d L : Nat} : ∀ xs : List PyData, (∀ x ∈ xs, Shw x d L) → PyData.showableAll xs = true ∧ PyData.depthAll xs ≤ d ∧ piled (PyData.shownAll xs) ≤ xs.length * (L + 2)
  | [], _ => ⟨rfl, Nat.zero_le _, by simp [PyData.shownAll, piled]⟩
  | x :: xs, h => by
    obtain ⟨h1, h3, h4⟩ := shw_all xs fun y hy => h y (List.mem_cons_of_mem _ hy)
    have hx := h x List.mem_cons_self
    refine ⟨by simp only [PyData.showableAll, hx.sh, h1, Bool.and_self], by simp only [PyData.depthAll]; exact Nat.max_le.mpr ⟨hx.dp, h3⟩, ?_⟩
    rw [PyData.shownAll_cons, piled_cons, List.length_cons, Nat.add_mul]
    have := hx.ln
    omega
theorem joinP (ts : List Str) : (Str.join ", " ts).length ≤ piled ts := by
  by_cases h : ts = []
  · subst h
    decide +kernel
  · have := join_length_add ts h
    omega
theorem shw_list {d L : Nat} {xs : List PyData} (h : ∀ x ∈ xs, Shw x d L) : Shw (.list xs) (d + 1) (4 + xs.length * (L + 2)) := by
  obtain ⟨h1, h3, h4⟩ := shw_all xs h
  have k1 : (("[" : String) : Str).length = 1 := by decide +kernel
  have k2 : (("]" : String) : Str).length = 1 := by decide +kernel
  have j := joinP (PyData.shownAll xs)
  refine ⟨by simp only [PyData.showable, h1], by simp only [PyData.depth]; omega, ?_⟩
  rw [PyData.shown_list, Str.length_append, Str.length_append, k1, k2]
  omega
theorem shw_tup {d L : Nat} {xs : List PyData} (h : ∀ x ∈ xs, Shw x d L) : Shw (.tuple xs) (d + 1) (4 + xs.length * (L + 2)) := by
  obtain ⟨h1, h3, h4⟩ := shw_all xs h
  have k1 : (("(" : String) : Str).length = 1 := by decide +kernel
  have k2 : (((if xs.length == 1 then ",)" else ")" : String)) : Str).length ≤ 2 := by split <;> decide +kernel
  have j := joinP (PyData.shownAll xs)
  refine ⟨by simp only [PyData.showable, h1], by simp only [PyData.depth]; omega, ?_⟩
  rw [PyData.shown_tuple, Str.length_append, Str.length_append, k1]
  omega
theorem Shw.up {x : PyData} {d L d' L' : Nat} (h : Shw x d L) (hd : d ≤ d') (hL : L ≤ L') : Shw x d' L' := ⟨h.sh, Nat.le_trans h.dp hd, Nat.le_trans h.ln hL⟩
theorem Shw.ok {x : PyData} {d L : Nat} (h : Shw x d L) (hd : d ≤ 20) (hL : L ≤ 1000000) : shOk x = true := by
  unfold shOk
  rw [h.sh, decide_eq_true (Nat.le_trans h.ln hL), decide_eq_true (Nat.le_trans h.dp hd)]
  rfl
theorem shw_str {y : Str} {L : Nat} (h : (reprText y).length ≤ L) : Shw (.str y) 0 L := ⟨rfl, Nat.le_refl _, by rw [PyData.shown_str]; exact h⟩
theorem shw_non : Shw .none 0 4 := ⟨rfl, Nat.le_refl _, by decide +kernel⟩
theorem log2_lt {i : Int} (h : i.natAbs < 2 ^ 64) : i.natAbs.log2 < 64 := by
  by_cases h0 : i.natAbs = 0
  · rw [h0]; decide
  · exact (Nat.log2_lt h0).mpr h
theorem repr_of {d : D} {x : PyData} {n L : Nat} (hd : (∃ ds, d = .tup ds) ∨ ∃ ds, d = .lst ds) (e : shD d = some x) (h : Shw x n L) (hn : n ≤ 20) (hL : L ≤ 1000000) : ∃ t, reprG [d] = some (.str t) := by
  refine ⟨x.shown, ?_⟩
  rcases hd with ⟨ds, rfl⟩ | ⟨ds, rfl⟩
  · show (shD (.tup ds)).bind _ = _
    rw [e, Option.bind_some, if_pos (h.ok hn hL)]
  · show (shD (.lst ds)).bind _ = _
    rw [e, Option.bind_some, if_pos (h.ok hn hL)]
theorem shL_strs (ws : List Str) : shL (ws.map .str) = some (ws.map .str) := by
  induction ws with
  | nil => rfl
  | cons w ws ih => simp [shL, shD, ih]
theorem pyL_strs (ws : List Str) : toPyL (ws.map .str) = some (ws.map .str) := by
  induction ws with
  | nil => rfl
  | cons w ws ih => simp [toPyL, toPy, ih]
theorem lay_strs : ∀ ws : List Str, (∀ w ∈ ws, PyData.strOk w = true) → PyData.canLayAll0 (ws.map .str) = true ∧ PyData.depthAll (ws.map .str) = 0
  | [], _ => ⟨rfl, rfl⟩
  | w :: ws, h => by
    obtain ⟨h1, h2⟩ := lay_strs ws fun z hz => h z (List.mem_cons_of_mem _ hz)
    exact ⟨by simp [PyData.canLayAll0, PyData.canLay0, h w List.mem_cons_self, h1], by simp [PyData.depthAll, PyData.depth, h2]⟩
theorem eqP_tup {ds es : List D} {xs ys : List PyData} (h : toPyL ds = some xs) (h' : toPyL es = some ys) (c : SeqAt.shaped (.tuple xs) = true) (c' : SeqAt.shaped (.tuple ys) = true) : eqP (.tup ds) (.tup es) = some (PyData.eqv (.tuple xs) (.tuple ys)) := by
  show ((toPy (.tup ds)).bind _) = _
  simp [toPy, h, h', c, c']
theorem eqP_lst {ds es : List D} {xs ys : List PyData} (h : toPyL ds = some xs) (h' : toPyL es = some ys) (c : SeqAt.shaped (.list xs) = true) (c' : SeqAt.shaped (.list ys) = true) : eqP (.lst ds) (.lst es) = some (PyData.eqv (.list xs) (.list ys)) := by
  show ((toPy (.lst ds)).bind _) = _
  simp [toPy, h, h', c, c']
theorem shp_tup {xs : List PyData} (h : PyData.canLayAll0 xs = true) (d : PyData.depthAll xs ≤ 60) : SeqAt.shaped (.tuple xs) = true := by
  unfold SeqAt.shaped
  rw [show (PyData.tuple xs).canLay0 = true from by simp only [PyData.canLay0, h], decide_eq_true (show (PyData.tuple xs).depth ≤ 64 by simp only [PyData.depth]; omega)]
  rfl
theorem shp_lst {xs : List PyData} (h : PyData.canLayAll0 xs = true) (d : PyData.depthAll xs ≤ 60) : SeqAt.shaped (.list xs) = true := by
  unfold SeqAt.shaped
  rw [show (PyData.list xs).canLay0 = true from by simp only [PyData.canLay0, h], decide_eq_true (show (PyData.list xs).depth ≤ 64 by simp only [PyData.depth]; omega)]
  rfl
/-- a word is itself -/
theorem word_eq {ws : List Str} (h : ∀ w ∈ ws, PyData.strOk w = true) : eqP (.tup (ws.map .str)) (.tup (ws.map .str)) = some true := by
  obtain ⟨h1, h2⟩ := lay_strs ws h
  have c := shp_tup h1 (by omega)
  rw [eqP_tup (pyL_strs ws) (pyL_strs ws) c c, SeqAt.eqv_refl _ (SeqAt.canLay_of_shaped c)]
/-- a list of texts beside the empty list -/
theorem strs_nil {ws : List Str} (h : ∀ w ∈ ws, PyData.strOk w = true) : eqP (.lst (ws.map .str)) (.lst []) = some ws.isEmpty := by
  obtain ⟨h1, h2⟩ := lay_strs ws h
  rw [eqP_lst (ys := []) (pyL_strs ws) rfl (shp_lst h1 (by omega)) (shp_lst rfl (Nat.zero_le _))]
  cases ws with
  | nil => rfl
  | cons w ws => rfl
end LW

set_option Elab.async false
set_option linter.all false
set_option maxRecDepth 100000
set_option maxHeartbeats 4000000
namespace LW
open PySem L2 DF
/-! ### the drawn book -/
theorem put_new {kvs : List (Key × D)} {k : Key} {d : D} (h : k ∉ kvs.map (·.1)) : putD kvs k d = kvs ++ [(k, d)] := by
  unfold putD
  rw [if_neg]
  intro q
  obtain ⟨z, hz, e⟩ := List.any_eq_true.mp q
  exact h (List.mem_map.mpr ⟨z, hz, of_decide_eq_true e⟩)
theorem merge_new : ∀ (more kvs : List (Key × D)), (kvs.map (·.1) ++ more.map (·.1)).Nodup → mergeD kvs more = kvs ++ more
  | [], kvs, _ => by simp [mergeD]
  | (k, d) :: more, kvs, h => by
    have hk : k ∉ kvs.map (·.1) := fun q => by
      have := (List.nodup_append.mp h).2.2 k q k (by simp)
      exact this rfl
    have ih := merge_new more (kvs ++ [(k, d)]) (by simpa [List.append_assoc] using h)
    unfold mergeD at ih ⊢
    rw [List.foldl_cons, put_new hk, ih]
    simp
theorem shop_keys (rs : List Row) : (shopD rs).map (·.1) = (rs.map (·.n)).map Sum.inr := by simp [shopD]
theorem inr_nd {l : List Str} (h : l.Nodup) : (l.map (Sum.inr : Str → Key)).Nodup := List.Pairwise.map _ (fun a b n e => n (Sum.inr.inj e)) h
theorem pairs_shop : ∀ rs : List Row, pairsD (rs.map pairD) = some (shopD rs)
  | [] => rfl
  | r :: rs => by
    have ih := pairs_shop rs
    simp only [List.map_cons, pairD, pairsD, keyOf, Option.bind_some]
    rw [ih]
    rfl
theorem shop_app (rs ss : List Row) : shopD (rs ++ ss) = shopD rs ++ shopD ss := by simp [shopD]
def mkK : D → M (List (Key × D))
  | .lst ds => opt ((pairsD ds).map (mergeD []))
  | _ => fail
@[simp] theorem e_mkDE (f : Slots → M D) {ρ : Slots} {pt : Pot} : mkDE f ρ pt = bndR (f ρ pt) mkK := by
  unfold mkDE bnd bndR
  cases f ρ pt with
  | ok o q => cases o <;> rfl
  | _ => rfl
theorem mkK_rows (rs : List Row) (h : (rs.map (·.n)).Nodup) {pt : Pot} : mkK (.lst (rs.map pairD)) pt = .ok (shopD rs) pt := by
  show opt ((pairsD (rs.map pairD)).map (mergeD [])) pt = _
  rw [pairs_shop, Option.map_some, e_some, merge_new _ _ (by rw [List.map_nil, List.nil_append, shop_keys]; exact inr_nd h), List.nil_append]
abbrev shapesD : List D := [.tup [.int 2, .int 1], .tup [.int 0, .int 1], .tup [.int 1, .int 2], .tup [.int 1, .int 0], .tup [.int 3, .int 1], .tup [.int 1, .int 1], .tup [.int 2, .int 2], .tup [.int 6, .int 5]]
theorem shapes_sz {d : D} (h : d ∈ shapesD) : ∃ t m, d = .tup [.int t, .int m] ∧ Sz t m := by
  simp only [shapesD, List.mem_cons, List.not_mem_nil, or_false] at h
  rcases h with rfl | rfl | rfl | rfl | rfl | rfl | rfl | rfl
  all_goals exact ⟨_, _, rfl, by constructor <;> decide⟩
structure Pre (rs : List Row) : Prop where
  sz : ∀ r ∈ rs, Sz r.t r.m
  y : ∀ r ∈ rs, 0 ≤ r.y ∧ r.y < 4
  cl : ∀ r ∈ rs, Cl rs r
abbrev bS (bo : Bool) (ns : List Str) (rs : List Row) (a b : Option SV) : Slots := [some (.val .pot), some (.val (.bl bo)), some (.val (.lst (ns.map .str))), some (.ownd (shopD rs)), some (.val (.lst shapesD)), a, b]
theorem cut_drop (ns : List Str) (k : Nat) (h : k ≤ ns.length) : cutD (ns.map D.str) (some (k : Int)) none = (ns.drop k).map D.str := by
  unfold cutD
  rw [HT.sIx_none, HT.sIx_nat, List.length_map, Nat.min_eq_left h, ← List.map_drop, List.take_of_length_le (by simp)]
theorem book_step {bo : Bool} {ns : List Str} {rs : List Row} {a b : Option SV} {pt : Pot} (hp : Pt pt) (h0 : ns ≠ []) (hl : rs.length + ns.length ≤ 10) (nd : (rs.map (·.n) ++ ns).Nodup) :
    ∃ rs2 a' b' q t m, g__law_book_b1 (bS bo ns rs a b) pt = .ok (.nx (bS bo (ns.drop rs2.length) (rs ++ rs2) a' b')) q ∧ Grp ns t m rs2 ∧ Sz t m ∧ Pt q := by
  have sh : ∃ t m q, asgS 5 (ifE (testE (binE (pu eq0D) (bvarE 3) (cE (.dct [])))) (tupE (consA (cE (.int 1)) (consA (cE (.int 1)) nilA))) (callE 2 m__law_pick [] (consA (varE 0) (consA (varE 4) nilA)))) (bS bo ns rs a b) pt = .ok (.nx (bS bo ns rs (some (.val (.tup [.int t, .int m]))) b)) q ∧ Sz t m ∧ Pt q := by
    cases rs with
    | nil =>
      refine ⟨1, 1, pt, ?_, by constructor <;> decide, hp⟩
      simp [shopD, eq0D, dctOf]
    | cons r rs =>
      obtain ⟨d, q, e, hd, hq⟩ := pick1 hp shapesD (by decide) (by decide)
      obtain ⟨t, m, rfl, hs⟩ := shapes_sz hd
      refine ⟨t, m, q, ?_, hs, hq⟩
      simp [shopD, eq0D, dctOf, e]
  obtain ⟨t, m, q1, e1, hs, hq1⟩ := sh
  obtain ⟨rs2, q2, e2, G, hq2⟩ := group1 hq1 h0 t m bo
  have nd2 : (rs2.map (·.n)).Nodup := by
    rw [G.ns]
    exact ((List.nodup_append.mp nd).2.1).sublist (List.take_sublist _ _)
  have nd3 : (rs.map (·.n) ++ rs2.map (·.n)).Nodup := by
    rw [G.ns]
    exact nd.sublist ((List.Sublist.refl _).append (List.take_sublist _ _))
  have mg : mergeD (shopD rs) (shopD rs2) = shopD (rs ++ rs2) := by
    rw [shop_app]
    refine merge_new _ _ ?_
    rw [shop_keys, shop_keys, ← List.map_append]
    exact inr_nd nd3
  have l2 := G.le
  have hsz : (shopD rs).length + (shopD rs2).length ≤ 100000 := by simp [shopD]; omega
  refine ⟨rs2, some (.val (.tup [.int t, .int m])), some (.val (.lst (rs2.map pairD))), q2, t, m, ?_, G, hs, hq2⟩
  unfold g__law_book_b1
  rw [e_seqS, e1, e_bndok, e_seqK]
  simp [e2, mkK_rows rs2 nd2, hsz, mg, lenF, slM, cut_drop ns rs2.length l2]
theorem grp_pre {ns : List Str} {rs rs2 : List Row} {t m : Int} (p : Pre rs) (G : Grp ns t m rs2) (s : Sz t m) : Pre (rs ++ rs2) := by
  refine ⟨fun r hr => ?_, fun r hr => ?_, fun r hr => ?_⟩
  · rcases List.mem_append.mp hr with h | h
    · exact p.sz r h
    · obtain ⟨e1, e2, _⟩ := G.sz r h
      rw [e1, e2]
      exact s
  · rcases List.mem_append.mp hr with h | h
    · exact p.y r h
    · exact (G.sz r h).2.2
  · rcases List.mem_append.mp hr with h | h
    · exact (p.cl r h).mono fun q hq => List.mem_append_left _ hq
    · exact (G.cl r h).mono fun q hq => List.mem_append_right _ hq
theorem e_while (t : Slots → M Bool) (g : Slots → M Out) (n : Nat) {ρ : Slots} {pt : Pot} : whileL t g (n + 1) ρ pt = bndR (t ρ pt) fun b => if b then bnd (g ρ) fun o => match o with
    | .nx ρ2 => whileL t g n ρ2
    | .ct ρ2 => whileL t g n ρ2
    | .bk ρ2 => ret (.nx ρ2)
    | .rt d => ret (.rt d) else ret (.nx ρ) := e_bnd _ _
theorem book_loop (bo : Bool) : ∀ (n : Nat) (ns : List Str) (rs : List Row) (a b : Option SV) (pt : Pot), Pt pt → ns.length < n → rs.length + ns.length ≤ 10 → (rs.map (·.n) ++ ns).Nodup → (∀ x ∈ ns, PyData.strOk x = true) → Pre rs →
    ∃ rs2 a' b' q, whileL g__law_book_b2 g__law_book_b1 n (bS bo ns rs a b) pt = .ok (.nx (bS bo [] (rs ++ rs2) a' b')) q ∧ rs2.map (·.n) = ns ∧ Pre (rs ++ rs2) ∧ Pt q
  | 0, ns, _, _, _, _, _, h, _, _, _, _ => absurd h (by omega)
  | n + 1, ns, rs, a, b, pt, hp, hn, hl, nd, ok, pre => by
    have test : g__law_book_b2 (bS bo ns rs a b) pt = .ok (!ns.isEmpty) pt := by
      have e : dNe (.lst (ns.map .str)) (.lst []) = some (.bl (!ns.isEmpty)) := by
        unfold dNe
        rw [strs_nil ok]
        rfl
      unfold g__law_book_b2
      simp [e]
    by_cases h0 : ns = []
    · subst h0
      refine ⟨[], a, b, pt, ?_, rfl, by simpa using pre, hp⟩
      rw [e_while, test]
      simp
    · have hb : (!ns.isEmpty) = true := by
        cases ns with
        | nil => exact absurd rfl h0
        | cons _ _ => rfl
      obtain ⟨rs2, a1, b1, q, t, m, e1, G, hs, hq⟩ := book_step (a := a) (b := b) hp h0 hl nd
      have l1 := G.pos
      have l2 := G.le
      have hns : rs2.map (·.n) ++ ns.drop rs2.length = ns := by rw [G.ns, List.take_append_drop]
      obtain ⟨rs3, a2, b2, q2, e2, hn3, pre3, hq2⟩ := book_loop bo n (ns.drop rs2.length) (rs ++ rs2) a1 b1 q hq (by rw [List.length_drop]; omega) (by rw [List.length_drop, List.length_append]; omega)
        (by rw [List.map_append, List.append_assoc, hns]; exact nd) (fun x hx => ok x (List.mem_of_mem_drop hx)) (grp_pre pre G hs)
      refine ⟨rs2 ++ rs3, a2, b2, q2, ?_, ?_, by rw [← List.append_assoc]; exact pre3, hq2⟩
      · rw [e_while, test, hb, e_bndok, if_pos rfl, e_bnd, e1, e_bndok, ← List.append_assoc]
        exact e2
      · rw [List.map_append, hn3, hns]
abbrev ten : List Str := ["k", "p", "yo", "ktog", "ssk", "zz", "abcdefgh", "a", "end", "to"]
/-- what the drawn book is -/
structure Bk (rs : List Row) : Prop where
  len : rs.length = 10
  nd : (rs.map (·.n)).Nodup
  nm : ∀ x ∈ rs.map (·.n), x ∈ ten
  pre : Pre rs
theorem ten_ok : ∀ x ∈ ten, PyData.strOk x = true := by decide +kernel
theorem ten_nd : ten.Nodup := by decide +kernel
theorem strs_back : ∀ {ds : List D}, (∀ d ∈ ds, ∃ x : Str, d = .str x) → ∃ xs : List Str, ds = xs.map .str
  | [], _ => ⟨[], rfl⟩
  | d :: ds, h => by
    obtain ⟨x, rfl⟩ := h d List.mem_cons_self
    obtain ⟨xs, rfl⟩ := strs_back fun e he => h e (List.mem_cons_of_mem _ he)
    exact ⟨x :: xs, rfl⟩
theorem str_inj {xs ys : List Str} (h : (xs.map D.str).Perm (ys.map D.str)) : xs.Perm ys := by
  have f : ∀ l : List Str, (l.map D.str).filterMap (fun d => match d with
    | .str x => some x
    | _ => none) = l := fun l => by
    rw [List.filterMap_map]
    exact List.filterMap_some
  have := h.filterMap (fun d => match d with
    | .str x => some x
    | _ => none)
  rwa [f, f] at this
theorem book1 {pt : Pot} (hp : Pt pt) (bo : Bool) : ∃ rs q, m__law_book [.pot, .bl bo] pt = .ok (.dcf (shopD rs)) q ∧ Bk rs ∧ Pt q := by
  obtain ⟨es, q1, e1, pm, hq1⟩ := mixed1 hp (ten.map .str) (by decide)
  obtain ⟨ns, rfl⟩ := strs_back (ds := es) fun d hd => by
    obtain ⟨x, _, rfl⟩ := List.mem_map.mp (pm.mem_iff.mp hd)
    exact ⟨x, rfl⟩
  have pn : ns.Perm ten := str_inj pm
  have ln : ns.length = 10 := pn.length_eq
  obtain ⟨rs, a, b, q, e2, hn, pre, hq⟩ := book_loop bo 11 ns [] none none q1 hq1 (by omega) (by simp; omega) (by simpa using pn.nodup_iff.mpr ten_nd) (fun x hx => ten_ok x (pn.mem_iff.mp hx)) ⟨by simp, by simp, by simp⟩
  refine ⟨rs, q, ?_, ⟨?_, ?_, ?_, by simpa using pre⟩, hq⟩
  · unfold m__law_book g__law_book
    rw [e_fnM]
    have s1 : g__law_book_s1 [some (.val .pot), some (.val (.bl bo)), none, none, none, none, none] pt = .ok (.nx [some (.val .pot), some (.val (.bl bo)), some (.val (.lst (ns.map .str))), some (.ownd []), none, none, none]) q1 := by
      unfold g__law_book_s1
      have e1' := e1
      simp only [ten, List.map_cons, List.map_nil] at e1'
      simp [e1']
    have s2 : g__law_book_s2 [some (.val .pot), some (.val (.bl bo)), some (.val (.lst (ns.map .str))), some (.ownd []), none, none, none] q1 = .ok (.nx (bS bo ns [] none none)) q1 := by
      unfold g__law_book_s2
      simp [shopD]
    have s3 : g__law_book_s3 (bS bo ns [] none none) q1 = .ok (.nx (bS bo [] rs a b)) q := by
      unfold g__law_book_s3
      simpa using e2
    show bndR (seqS _ _ [some (.val .pot), some (.val (.bl bo)), none, none, none, none, none] pt) finK = _
    rw [e_seqS, s1, e_bndok, e_seqK, e_seqS, s2, e_bndok, e_seqK, e_seqS, s3, e_bndok, e_seqK]
    simp [g__law_book_s4, frzD1]
  · rw [← List.length_map (f := (·.n)), hn, ln]
  · rw [hn]; exact pn.nodup_iff.mpr ten_nd
  · rw [hn]; exact fun x hx => pn.mem_iff.mp hx
end LW

set_option Elab.async false
set_option linter.all false
set_option maxRecDepth 100000
set_option maxHeartbeats 4000000
namespace LW
open PySem L2 DF
/-! ### kinds and checks -/
def Nm (x : Str) : Prop := ∀ pt, m_is_name [.str x] pt = .ok (.bl true) pt
theorem ten_nm : ∀ x ∈ ten, Nm x := by
  intro x hx pt
  simp only [ten, List.mem_cons, List.not_mem_nil, or_false] at hx
  rcases hx with rfl | rfl | rfl | rfl | rfl | rfl | rfl | rfl | rfl | rfl
  all_goals kernel_rfl
theorem within1 {v hi : Int} {pt : Pot} (h0 : 0 ≤ v) (h1 : v ≤ hi) : m_is_within [.int v, .int 0, .int hi] pt = .ok (.bl true) pt := by
  unfold m_is_within g_is_within
  rw [e_fnM]
  simp [ini, m_is_integer, g_is_integer, e_fnM, h0, h1]
theorem kind1 {r : Row} {pt : Pot} (hn : Nm r.n) (hb : ∀ b, r.b = some b → Nm b) (hi : ∀ i, r.i = some i → Nm i) (s : Sz r.t r.m) (y0 : 0 ≤ r.y) (y1 : r.y ≤ 999) :
    m_Kindzz_initzz [.str r.n, .int r.t, .int r.m, oD r.b, oD r.i, .int r.y] pt = .ok [.str r.n, .int r.t, .int r.m, oD r.b, oD r.i, .int r.y] pt := by
  obtain ⟨n, t, m, b, i, y⟩ := r
  have c1 : ∀ z : Option Str, (∀ x, z = some x → Nm x) → ∀ (a0 a1 a2 a3 a4 a5 a6 a8 : Option SV), g_Kindzz_initzz_b1 [a0, a1, a2, a3, a4, a5, a6, some (.val (oD z)), a8] pt = .ok (.nx [a0, a1, a2, a3, a4, a5, a6, some (.val (oD z)), a8]) pt := by
    intro z hz a0 a1 a2 a3 a4 a5 a6 a8
    unfold g_Kindzz_initzz_b1
    cases z with
    | none => simp [notN]
    | some x => simp [notN, hz x rfl pt]
  have c2 : ∀ (v h : Int), 0 ≤ v → v ≤ h → ∀ (a0 a1 a2 a3 a4 a5 a6 : Option SV), g_Kindzz_initzz_b2 [a0, a1, a2, a3, a4, a5, a6, some (.val (.int v)), some (.val (.int h))] pt = .ok (.nx [a0, a1, a2, a3, a4, a5, a6, some (.val (.int v)), some (.val (.int h))]) pt := by
    intro v h h0 h1 a0 a1 a2 a3 a4 a5 a6
    unfold g_Kindzz_initzz_b2
    simp [within1 h0 h1]
  unfold m_Kindzz_initzz g_Kindzz_initzz
  rw [e_iniM]
  by_cases t0 : t = 0
  · have m0 : ¬ m = 0 := fun e => s.ne ⟨t0, e⟩
    simp [ini, hn pt, c1 b hb, c1 i hi, c2 t 6 s.t0 s.t6, c2 m 6 s.m0 s.m6, c2 y 999 y0 y1, t0, m0, c2 0 6 (by decide) (by decide)]
  · simp [ini, hn pt, c1 b hb, c1 i hi, c2 t 6 s.t0 s.t6, c2 m 6 s.m0 s.m6, c2 y 999 y0 y1, t0]
/-! the checks of a book -/
section
variable {rs ss : List Row} {r : Row} {pt : Pot}
theorem found_at (nd : (rs.map (·.n)).Nodup) (p : ss.Perm rs) (x : Str) : valD (foundD ss) (.inr x) = (look rs x).map kindD := by rw [val_found, look_perm nd p]
theorem same1 {a b : Row} (h1 : b.t = a.t) (h2 : b.m = a.m) : m_is_same_size [kindD a, kindD b] pt = .ok (.bl true) pt := by
  unfold m_is_same_size g_is_same_size
  rw [e_fnM]
  simp [ini, kindD, h1, h2]
theorem back1 (nd : (rs.map (·.n)).Nodup) (p : ss.Perm rs) (c : Cl rs r) : m_has_wrong_back [kindD r, .dcf (foundD ss)] pt = .ok (.bl false) pt := by
  unfold m_has_wrong_back g_has_wrong_back
  rw [e_fnM]
  cases h : r.b with
  | none => simp [ini, kindD, h]
  | some b =>
    obtain ⟨s, hs, rfl, e1, e2, e3⟩ := c.bk b h
    have hl : valD (foundD ss) (.inr s.n) = some (kindD s) := by rw [found_at nd p, look_of nd hs]; rfl
    have sm := same1 (a := r) (b := s) (pt := pt) e1 e2
    simp only [kindD, h, oD_some, e3] at sm hl
    simp [ini, kindD, h, hl, sm]
theorem mir1 (nd : (rs.map (·.n)).Nodup) (p : ss.Perm rs) (c : Cl rs r) : m_has_wrong_mirror [kindD r, .dcf (foundD ss)] pt = .ok (.bl false) pt := by
  unfold m_has_wrong_mirror g_has_wrong_mirror
  rw [e_fnM]
  cases h : r.i with
  | none => simp [ini, kindD, h]
  | some b =>
    obtain ⟨s, hs, rfl, e1, e2, e3⟩ := c.mi b h
    have hl : valD (foundD ss) (.inr s.n) = some (kindD s) := by rw [found_at nd p, look_of nd hs]; rfl
    have sm := same1 (a := r) (b := s) (pt := pt) e1 e2
    simp only [kindD, h, oD_some, e3] at sm hl
    simp [ini, kindD, h, hl, sm]
theorem cross1 (nd : (rs.map (·.n)).Nodup) (p : ss.Perm rs) (c : Cl rs r) : m_is_crossed [kindD r, .dcf (foundD ss)] pt = .ok (.bl false) pt := by
  unfold m_is_crossed g_is_crossed
  rw [e_fnM]
  cases h : r.b with
  | none => simp [ini, kindD, h]
  | some b =>
    cases h2 : r.i with
    | none => simp [ini, kindD, h, h2]
    | some i =>
      obtain ⟨s, hs, u, hu, x, rfl, rfl, e1, e2⟩ := c.cr b i h h2
      have hl : valD (foundD ss) (.inr s.n) = some (kindD s) := by rw [found_at nd p, look_of nd hs]; rfl
      have hl2 : valD (foundD ss) (.inr u.n) = some (kindD u) := by rw [found_at nd p, look_of nd hu]; rfl
      simp only [kindD, e1, e2, oD_some] at hl hl2
      simp [ini, kindD, h, h2, hl, hl2]
theorem taken1 (rs : List Row) (nd : (rs.map (·.n)).Nodup) (hl : rs.length ≤ 1000) (j : Nat) (hj : j < rs.length) : m_is_taken [.tup (rs.map kindD), .int (j : Int)] pt = .ok (.bl false) pt := by
  unfold m_is_taken g_is_taken
  rw [e_fnM]
  have e1 : atI (rs.map kindD) (j : Int) = some (kindD rs[j]) := by
    unfold atI ixN
    rw [if_pos (by omega), if_pos (by simpa using hj), Option.bind_some]
    simp [hj]
  have e2 : slM (.tup (rs.map kindD)) none (some (j : Int)) pt = .ok (.tup ((rs.take j).map kindD)) pt := by
    have c : cutD (rs.map kindD) none (some (j : Int)) = (rs.take j).map kindD := by
      unfold cutD
      rw [HT.sIx_none, HT.sIx_nat, List.length_map, Nat.min_eq_left (by omega), List.drop_zero, Nat.sub_zero, ← List.map_take]
    show (if HT.sIx (rs.map kindD).length 0 none = 0 ∧ HT.sIx (rs.map kindD).length (rs.map kindD).length (some (j : Int)) = (rs.map kindD).length then (fail : M D) else ret (D.tup (cutD (rs.map kindD) none (some (j : Int))))) pt = _
    rw [if_neg, c]
    · rfl
    · rw [HT.sIx_nat, List.length_map]
      omega
  have e3 : compL (tgN 2) yesT (getE 0 0 (varE 2)) [some (.val (.tup (rs.map kindD))), some (.val (.int (j : Int))), none] ((rs.take j).map kindD) [] pt = .ok (((rs.take j).map kindD).map fun d => match d with
      | .obj _ (n :: _) => n
      | d => d) pt := by
    refine comp_same (i := 2) (by simp) (fun _ _ => rfl) _ (fun d hd => ?_) (by simp; omega)
    obtain ⟨r, _, rfl⟩ := List.mem_map.mp hd
    simp [kindD]
  have e4 : (((rs.take j).map kindD).map fun d => match d with
      | .obj _ (n :: _) => n
      | d => d) = (rs.take j).map fun r => D.str r.n := by
    rw [List.map_map]
    rfl
  rw [e4] at e3
  have nin : (((rs.take j).map fun r => D.str r.n).any fun y => eqF y (.str rs[j].n)) = false := by
    rw [List.any_eq_false]
    intro y hy q
    obtain ⟨r, hr, rfl⟩ := List.mem_map.mp hy
    have e : r.n = rs[j].n := by simpa [eqF] using q
    obtain ⟨i, hi, rfl⟩ := List.getElem_of_mem hr
    rw [List.length_take] at hi
    rw [List.getElem_take] at e
    have hp := List.pairwise_iff_getElem.mp nd i j (by simp; omega) (by simpa using hj) (by omega)
    simp at hp
    exact hp e
  have fl : (((rs.take j).map fun r => D.str r.n).all flatD) = true := by
    rw [List.all_eq_true]
    intro y hy
    obtain ⟨r, hr, rfl⟩ := List.mem_map.mp hy
    rfl
  have inn := u_inL (pt := pt) (.str rs[j].n) _ rfl fl
  rw [nin] at inn
  have k0 : getK 0 0 (kindD rs[j]) = getK 0 0 (.obj 0 [.str rs[j].n, .int rs[j].t, .int rs[j].m, oD rs[j].b, oD rs[j].i, .int rs[j].y]) := rfl
  simp [ini, e1, k0, e2, noOwn]
  rw [← List.map_take, e3]
  simp only [e_bndok, e_ret, inn, e_finr]
end
end LW

set_option Elab.async false
set_option linter.all false
set_option maxRecDepth 100000
set_option maxHeartbeats 4000000
namespace LW
open PySem L2 DF
/-! ### check_kinds -/
theorem insK_map {α β : Type} (f : α → β) (p : Str × α) : ∀ l : List (Str × α), insK (p.1, f p.2) (l.map fun q => (q.1, f q.2)) = (insK p l).map fun q => (q.1, f q.2)
  | [] => rfl
  | q :: r => by
    have ih := insK_map f p r
    simp only [List.map_cons, insK]
    by_cases h : p.1.cps.toList < q.1.cps.toList
    · rw [if_pos h, if_pos h]
      rfl
    · rw [if_neg h, if_neg h, ih]
      rfl
theorem srtK_map {α β : Type} (f : α → β) : ∀ l : List (Str × α), srtK (l.map fun q => (q.1, f q.2)) = (srtK l).map fun q => (q.1, f q.2)
  | [] => rfl
  | p :: r => by
    simp only [List.map_cons, srtK]
    rw [srtK_map f r]
    exact insK_map f p _
def srt (rs : List Row) : List Row := (srtK (rs.map fun r => (r.n, r))).map (·.2)
theorem srt_perm (rs : List Row) : (srt rs).Perm rs := by
  have := (srtK_perm (rs.map fun r => (r.n, r))).map (·.2)
  rw [List.map_map, show ((fun x : Str × Row => x.2) ∘ fun r : Row => (r.n, r)) = id from rfl, List.map_id] at this
  exact this
theorem keyed_rows : ∀ rs : List Row, keyed 0 0 (rs.map kindD) = some (rs.map fun r => (r.n, kindD r))
  | [] => rfl
  | r :: rs => by
    simp only [List.map_cons, keyed]
    rw [keyed_rows rs]
    rfl
theorem sortD_rows {rs : List Row} (nd : (rs.map (·.n)).Nodup) : sortD 0 0 (rs.map kindD) = some ((srt rs).map kindD) := by
  unfold sortD
  rw [keyed_rows, Option.bind_some, if_pos (by rw [List.map_map]; exact nd)]
  have e : (rs.map fun r => (r.n, kindD r)) = (rs.map fun r => (r.n, r)).map fun q => (q.1, kindD q.2) := by rw [List.map_map]; rfl
  rw [e, srtK_map, List.map_map]
  unfold srt
  rw [List.map_map]
  rfl
section
variable {rs : List Row} {pt : Pot}
theorem ck_loop1 (nd : (rs.map (·.n)).Nodup) (hl : rs.length ≤ 1000) : ∀ (items : List D) (x y : Option SV), (∀ d ∈ items, ∃ (j : Nat) (hj : j < rs.length), d = .tup [.int (j : Int), kindD rs[j]]) →
    ∃ x' y', forL (tgT [tgN 1, tgN 2]) g_check_kinds_b1 items [some (.val (.tup (rs.map kindD))), x, y, none, none, none] pt = .ok (.nx [some (.val (.tup (rs.map kindD))), x', y', none, none, none]) pt ∧ ((x', y') = (x, y) ∨ ∃ a b, (x', y') = (some (.val a), some (.val b)))
  | [], x, y, _ => ⟨x, y, rfl, .inl rfl⟩
  | d :: items, x, y, h => by
    obtain ⟨j, hj, rfl⟩ := h d List.mem_cons_self
    obtain ⟨x', y', e, hv⟩ := ck_loop1 nd hl items (some (.val (.int (j : Int)))) (some (.val (kindD rs[j]))) fun d hd => h d (List.mem_cons_of_mem _ hd)
    refine ⟨x', y', ?_, .inr ?_⟩
    · have st : g_check_kinds_b1 [some (.val (.tup (rs.map kindD))), some (.val (.int (j : Int))), some (.val (kindD rs[j])), none, none, none] pt = .ok (.nx [some (.val (.tup (rs.map kindD))), some (.val (.int (j : Int))), some (.val (kindD rs[j])), none, none, none]) pt := by
        unfold g_check_kinds_b1
        simp [taken1 rs nd hl j hj]
      rw [e_forL]
      simp [st, e]
    · rcases hv with hv | hv
      · exact ⟨_, _, hv⟩
      · exact hv
theorem enum_items (d : D) (h : d ∈ enums (rs.map kindD)) : ∃ (j : Nat) (hj : j < rs.length), d = .tup [.int (j : Int), kindD rs[j]] := by
  obtain ⟨i, hi, e⟩ := List.getElem_of_mem h
  obtain ⟨x, y, ex, ey, rfl⟩ := pairs_at (show (pairs _ _)[i]? = some d from List.getElem?_eq_some_iff.mpr ⟨hi, e⟩)
  rw [List.getElem?_map] at ex ey
  have hj : i < rs.length := by
    cases q : rs[i]? with
    | none => rw [q] at ey; cases ey
    | some r => exact (List.getElem?_eq_some_iff.mp q).1
  rw [List.getElem?_eq_getElem hj] at ey
  rw [List.length_map, List.getElem?_range hj] at ex
  cases ex
  cases ey
  exact ⟨i, hj, rfl⟩
theorem dcomp_rows {k x : Option SV} : ∀ (l : List Row) (acc : List (Key × D)), (acc.map (·.1) ++ (foundD l).map (·.1)).Nodup → acc.length + l.length ≤ 1000 →
    dcompL (tgN 2) yesT (getE 0 0 (varE 2)) (varE 2) [k, x, none, none, none, none] (l.map kindD) acc pt = .ok (acc ++ foundD l) pt
  | [], acc, _, _ => by simp [dcompL, foundD]
  | r :: l, acc, nd, hl => by
    have hk : (Sum.inr r.n : Key) ∉ acc.map (·.1) := fun q => (List.nodup_append.mp nd).2.2 _ q (Sum.inr r.n) (by simp [foundD]) rfl
    simp only [List.length_cons] at hl
    have ih := dcomp_rows (k := k) (x := x) l (acc ++ [(.inr r.n, kindD r)]) (by simpa [foundD, List.append_assoc] using nd) (by simp; omega)
    have hlt : acc.length < 100000 := by omega
    have kd : kindD r = .obj 0 [.str r.n, .int r.t, .int r.m, oD r.b, oD r.i, .int r.y] := rfl
    have key : getE 0 0 (varE 2) [k, x, some (.val (kindD r)), none, none, none] pt = .ok (.str r.n) pt := by
      rw [kd]
      simp
    rw [List.map_cons]
    show bnd (opt (tgN 2 (kindD r) [k, x, none, none, none, none])) _ pt = _
    rw [e_bnd]
    simp only [e_tgN]
    rw [if_pos (by simp), e_some, e_bndok, e_bnd, e_noX, e_yesT, e_noXok, e_bndok, if_pos rfl, e_bnd, e_noX]
    show bndR (noXR (getE 0 0 (varE 2) [k, x, some (.val (kindD r)), none, none, none] pt)) _ = _
    rw [key, e_noXok, e_bndok, e_bnd, show keyOf (.str r.n) = some (.inr r.n) from rfl, e_some, e_bndok, e_bnd, e_noX]
    show bndR (noXR (varE 2 [k, x, some (.val (kindD r)), none, none, none] pt)) _ = _
    rw [show varE 2 [k, x, some (.val (kindD r)), none, none, none] pt = .ok (kindD r) pt from rfl, e_noXok, e_bndok, if_pos hlt, put_new hk, ih]
    simp [foundD]
def S3 (F : List (Key × D)) (s : Option SV) : Prop := s = some (.ownd F) ∨ s = some (.val (.dcf F))
theorem ck_b2 {ss : List Row} {k x p s : Option SV} {r : Row} {j : Nat} (nd : (rs.map (·.n)).Nodup) (pm : ss.Perm rs) (c : Cl rs r) (hj : j < 3) (hs : S3 (foundD ss) s) :
    g_check_kinds_b2 [k, x, some (.val (kindD r)), s, p, some (.val (.fn j))] pt = .ok (.nx [k, x, some (.val (kindD r)), some (.val (.dcf (foundD ss))), p, some (.val (.fn j))]) pt := by
  have cl : callVE 2 (fun j => ([m_has_wrong_back, m_has_wrong_mirror, m_is_crossed] : List (List D → M D))[j]?) 5 (consA (varE 2) (consA (varE 3) nilA)) [k, x, some (.val (kindD r)), some (.val (.dcf (foundD ss))), p, some (.val (.fn j))] pt = .ok (.bl false) pt := by
    have b := back1 (pt := pt) nd pm c
    have m := mir1 (pt := pt) nd pm c
    have z := cross1 (pt := pt) nd pm c
    have h3 : j = 0 ∨ j = 1 ∨ j = 2 := by omega
    unfold callVE
    rcases h3 with rfl | rfl | rfl
    · simp [b]
    · simp [m]
    · simp [z]
  have fz : frzD1 3 [k, x, some (.val (kindD r)), s, p, some (.val (.fn j))] = [k, x, some (.val (kindD r)), some (.val (.dcf (foundD ss))), p, some (.val (.fn j))] := by
    rcases hs with rfl | rfl <;> rfl
  unfold g_check_kinds_b2
  rw [e_frzDS, fz, e_ifS, e_testE, cl]
  simp
theorem ck_in {ss : List Row} {k x p : Option SV} {j : Nat} (nd : (rs.map (·.n)).Nodup) (pm : ss.Perm rs) (hj : j < 3) : ∀ (l : List Row) (y s : Option SV), (∀ r ∈ l, Cl rs r) → S3 (foundD ss) s →
    ∃ y' s', forL (tgN 2) g_check_kinds_b2 (l.map kindD) [k, x, y, s, p, some (.val (.fn j))] pt = .ok (.nx [k, x, y', s', p, some (.val (.fn j))]) pt ∧ S3 (foundD ss) s'
  | [], y, s, _, hs => ⟨y, s, rfl, hs⟩
  | r :: l, y, s, h, hs => by
    obtain ⟨y', s', e, hs'⟩ := ck_in (k := k) (x := x) (p := p) nd pm hj l (some (.val (kindD r))) (some (.val (.dcf (foundD ss)))) (fun r hr => h r (List.mem_cons_of_mem _ hr)) (.inr rfl)
    refine ⟨y', s', ?_, hs'⟩
    rw [List.map_cons, e_forL]
    simp [ck_b2 nd pm (h r List.mem_cons_self) hj hs, e]
theorem ck_b3 {ss : List Row} {x y s p : Option SV} {j : Nat} (nd : (rs.map (·.n)).Nodup) (pm : ss.Perm rs) (hc : ∀ r ∈ rs, Cl rs r) (hj : j < 3) (hs : S3 (foundD ss) s) :
    ∃ y' s', g_check_kinds_b3 [some (.val (.tup (rs.map kindD))), x, y, s, p, some (.val (.fn j))] pt = .ok (.nx [some (.val (.tup (rs.map kindD))), x, y', s', p, some (.val (.fn j))]) pt ∧ S3 (foundD ss) s' := by
  obtain ⟨y', s', e, hs'⟩ := ck_in (pt := pt) (k := some (.val (.tup (rs.map kindD)))) (x := x) (p := p) nd pm hj rs y s hc hs
  refine ⟨y', s', ?_, hs'⟩
  unfold g_check_kinds_b3
  simp [e]
theorem check1 (nd : (rs.map (·.n)).Nodup) (hl : rs.length ≤ 1000) (hc : ∀ r ∈ rs, Cl rs r) : m_check_kinds [.tup (rs.map kindD)] pt = .ok (.dcf (foundD (srt rs))) pt := by
  obtain ⟨x, y, e1, hv⟩ := ck_loop1 (pt := pt) nd hl (enums (rs.map kindD)) none none enum_items
  have pm := srt_perm rs
  have nds : ((srt rs).map (·.n)).Nodup := (pm.map _).nodup_iff.mpr nd
  have fk : (foundD (srt rs)).map (·.1) = ((srt rs).map (·.n)).map Sum.inr := by simp [foundD]
  have e2 := dcomp_rows (pt := pt) (k := some (.val (.tup (rs.map kindD)))) (x := x) (srt rs) [] (by rw [List.map_nil, List.nil_append, fk]; exact inr_nd nds) (by have := pm.length_eq; simp; omega)
  rw [List.nil_append] at e2
  have s1 : g_check_kinds_s1 [some (.val (.tup (rs.map kindD))), none, none, none, none, none] pt = .ok (.nx [some (.val (.tup (rs.map kindD))), x, y, none, none, none]) pt := by
    unfold g_check_kinds_s1
    simp [enumU, e1]
  have s2 : g_check_kinds_s2 [some (.val (.tup (rs.map kindD))), x, y, none, none, none] pt = .ok (.nx [some (.val (.tup (rs.map kindD))), x, y, some (.ownd (foundD (srt rs))), none, none]) pt := by
    have no : noOwn [some (.val (.tup (rs.map kindD))), x, y, none, none, none] [2] = true := by
      rcases hv with hv | ⟨a, b, hv⟩
      · cases hv; rfl
      · cases hv; rfl
    have it : itE (boxE (sortE 0 0 (varE 0))) [some (.val (.tup (rs.map kindD))), x, y, none, none, none] pt = .ok ((srt rs).map kindD) pt := by
      simp [sortE, sortD_rows nd]
    unfold g_check_kinds_s2
    rw [e_asgD]
    show bndR (bnd (itE (boxE (sortE 0 0 (varE 0))) [some (.val (.tup (rs.map kindD))), x, y, none, none, none]) _ pt) _ = _
    rw [e_bnd, it, e_bndok, no, if_pos rfl]
    show bndR (dcompL (tgN 2) yesT (getE 0 0 (varE 2)) (varE 2) [some (.val (.tup (rs.map kindD))), x, none, none, none, none] ((srt rs).map kindD) [] pt) _ = _
    rw [e2]
    simp
  obtain ⟨y0, t0, c0, h0⟩ := ck_b3 (pt := pt) (x := x) (y := y) (p := some (.val (.str "back"))) (j := 0) nd pm hc (by decide) (.inl rfl)
  obtain ⟨y1, t1, c1, h1⟩ := ck_b3 (pt := pt) (x := x) (y := y0) (p := some (.val (.str "mirror"))) (j := 1) nd pm hc (by decide) h0
  obtain ⟨y2, t2, c2, h2⟩ := ck_b3 (pt := pt) (x := x) (y := y1) (p := some (.val (.str "both"))) (j := 2) nd pm hc (by decide) h1
  have s3 : g_check_kinds_s3 [some (.val (.tup (rs.map kindD))), x, y, some (.ownd (foundD (srt rs))), none, none] pt = .ok (.nx [some (.val (.tup (rs.map kindD))), x, y2, t2, some (.val (.str "both")), some (.val (.fn 2))]) pt := by
    unfold g_check_kinds_s3
    simp [c0, c1, c2]
  have s4 : g_check_kinds_s4 [some (.val (.tup (rs.map kindD))), x, y2, t2, some (.val (.str "both")), some (.val (.fn 2))] pt = .ok (.rt (.dcf (foundD (srt rs)))) pt := by
    unfold g_check_kinds_s4
    rcases h2 with rfl | rfl <;> rfl
  unfold m_check_kinds g_check_kinds
  rw [e_fnM]
  show bndR (seqS _ _ [some (.val (.tup (rs.map kindD))), none, none, none, none, none] pt) finK = _
  rw [e_seqS, s1, e_bndok, e_seqK, e_seqS, s2, e_bndok, e_seqK, e_seqS, s3, e_bndok, e_seqK, s4]
  rfl
/-! ### Book -/
abbrev bookD (rs : List Row) : D := .obj 1 [.dcf (foundD (srt rs))]
theorem init1 (nd : (rs.map (·.n)).Nodup) (hl : rs.length ≤ 24) (h0 : 0 < rs.length) (hc : ∀ r ∈ rs, Cl rs r) : m_Bookzz_initzz [.tup (rs.map kindD)] pt = .ok [.dcf (foundD (srt rs))] pt := by
  unfold m_Bookzz_initzz g_Bookzz_initzz
  rw [e_iniM]
  obtain ⟨y, e⟩ := for_same (ρ := [some (.slf 1 []), some (.val (.tup (rs.map kindD))), none]) (pt := pt) (i := 2) (g := g_Bookzz_initzz_b1) (by simp) (rs.map kindD) none fun d hd => by
    obtain ⟨r, _, rfl⟩ := List.mem_map.mp hd
    unfold g_Bookzz_initzz_b1
    simp [kindD]
  have e' : forL (tgN 2) g_Bookzz_initzz_b1 (rs.map kindD) [some (.slf 1 []), some (.val (.tup (rs.map kindD))), none] pt = .ok (.nx [some (.slf 1 []), some (.val (.tup (rs.map kindD))), y]) pt := e
  have l1 : ¬ ((24 : Int) < (rs.length : Int)) := by omega
  have l2 : ¬ ((rs.length : Int) = 0) := by omega
  have l3 : ¬ rs = [] := by
    intro h; subst h; exact absurd h0 (by decide)
  simp [ini, g_Bookzz_initzz_s1, g_Bookzz_initzz_s2, g_Bookzz_initzz_s3, g_Bookzz_initzz_s4, e', lenF, l1, l2, l3, check1 nd (by omega) hc]
end
end LW

set_option Elab.async false
set_option linter.all false
set_option maxRecDepth 100000
set_option maxHeartbeats 4000000
namespace LW
open PySem L2 DF
/-! ### the package's book of the drawn rows -/
section
variable {rs : List Row} {pt : Pot}
theorem bk_nm (B : Bk rs) : ∀ r ∈ rs, Nm r.n ∧ (∀ b, r.b = some b → Nm b) ∧ ∀ i, r.i = some i → Nm i := fun r hr => by
  have inn : ∀ s ∈ rs, Nm s.n := fun s hs => ten_nm _ (B.nm _ (List.mem_map.mpr ⟨s, hs, rfl⟩))
  refine ⟨inn r hr, fun b e => ?_, fun i e => ?_⟩
  · obtain ⟨s, hs, rfl, _⟩ := (B.pre.cl r hr).bk b e
    exact inn s hs
  · obtain ⟨s, hs, rfl, _⟩ := (B.pre.cl r hr).mi i e
    exact inn s hs
theorem bk_kind (B : Bk rs) {r : Row} (hr : r ∈ rs) : m_Kindzz_initzz [.str r.n, .int r.t, .int r.m, oD r.b, oD r.i, .int r.y] pt = .ok [.str r.n, .int r.t, .int r.m, oD r.b, oD r.i, .int r.y] pt := by
  obtain ⟨h1, h2, h3⟩ := bk_nm B r hr
  have := B.pre.y r hr
  exact kind1 h1 h2 h3 (B.pre.sz r hr) this.1 (by omega)
theorem real_loop (B : Bk rs) {b : Option SV} : ∀ (l : List Row) (acc : List D) (x y : Option SV), (∀ r ∈ l, r ∈ rs) → acc.length + l.length ≤ 100 →
    ∃ x' y', forL (tgT [tgN 2, tgN 3]) g__law_real_book_b1 (l.map pairD) [b, some (.own acc), x, y, none] pt = .ok (.nx [b, some (.own (acc ++ l.map kindD)), x', y', none]) pt
  | [], acc, x, y, _, _ => ⟨x, y, by simp⟩
  | r :: l, acc, x, y, h, hl => by
    simp only [List.length_cons] at hl
    obtain ⟨x', y', e⟩ := real_loop B (b := b) l (acc ++ [kindD r]) (some (.val (.str r.n))) (some (.val (rowD r))) (fun q hq => h q (List.mem_cons_of_mem _ hq)) (by simp; omega)
    refine ⟨x', y', ?_⟩
    have st : g__law_real_book_b1 [b, some (.own acc), some (.val (.str r.n)), some (.val (rowD r)), none] pt = .ok (.nx [b, some (.own (acc ++ [kindD r])), some (.val (.str r.n)), some (.val (rowD r)), none]) pt := by
      have hlt : acc.length + 1 ≤ 100000 := by omega
      unfold g__law_real_book_b1
      simp [rowD, kindD, DF.pick, bk_kind B (h r List.mem_cons_self), hlt]
    rw [List.map_cons, e_forL, show pairD r = .tup [.str r.n, rowD r] from rfl]
    simp [st, e]
theorem real1 (B : Bk rs) : m__law_real_book [.dcf (shopD rs)] pt = .ok (bookD rs) pt := by
  obtain ⟨x, y, e⟩ := real_loop (pt := pt) B (b := some (.val (.dcf (shopD rs)))) rs [] none none (fun r h => h) (by rw [B.len]; decide)
  have s1 : g__law_real_book_s1 [some (.val (.dcf (shopD rs))), none, none, none, none] pt = .ok (.nx [some (.val (.dcf (shopD rs))), some (.own []), none, none, none]) pt := by
    unfold g__law_real_book_s1
    simp
  have it : itemsD (varE 0) [some (.val (.dcf (shopD rs))), some (.own []), none, none, none] pt = .ok (rs.map pairD) pt := by
    show bnd (varE 0 _) _ pt = _
    rw [e_bnd, e_var]
    show Res.ok ((shopD rs).map fun kv => D.tup [keyD kv.1, kv.2]) pt = _
    unfold shopD
    rw [List.map_map]
    rfl
  have s2 : g__law_real_book_s2 [some (.val (.dcf (shopD rs))), some (.own []), none, none, none] pt = .ok (.nx [some (.val (.dcf (shopD rs))), some (.own (rs.map kindD)), x, y, none]) pt := by
    unfold g__law_real_book_s2
    rw [e_forS, it, e_bndok, e, List.nil_append]
  have s3 : g__law_real_book_s3 [some (.val (.dcf (shopD rs))), some (.own (rs.map kindD)), x, y, none] pt = .ok (.nx [some (.val (.dcf (shopD rs))), some (.own (rs.map kindD)), x, y, some (.val (.lst ((rs.drop 5).map kindD)))]) pt := by
    have c : cutD (rs.map kindD) (some 5) none = (rs.drop 5).map kindD := by
      unfold cutD
      rw [HT.sIx_none, show (some 5 : Option Int) = some ((5 : Nat) : Int) from rfl, HT.sIx_nat, List.length_map, Nat.min_eq_left (by rw [B.len]; decide), ← List.map_drop, List.take_of_length_le (by simp)]
    unfold g__law_real_book_s3
    simp [slM, c]
  have s4 : g__law_real_book_s4 [some (.val (.dcf (shopD rs))), some (.own (rs.map kindD)), x, y, some (.val (.lst ((rs.drop 5).map kindD)))] pt = .ok (.rt (bookD rs)) pt := by
    have ini := init1 (pt := pt) B.nd (by rw [B.len]; decide) (by rw [B.len]; decide) B.pre.cl
    have hlen := B.len
    clear s1 s2 s3 it e B
    show _ = Res.ok (Out.rt (D.obj 1 [.dcf (foundD (srt rs))])) pt
    generalize foundD (srt rs) = F at ini ⊢
    match rs, hlen with
    | [r0, r1, r2, r3, r4, r5, r6, r7, r8, r9], _ =>
      simp only [List.map_cons, List.map_nil] at ini
      unfold g__law_real_book_s4
      simp [makeSE, ini]
  unfold m__law_real_book g__law_real_book
  rw [e_fnM]
  show bndR (seqS _ _ [some (.val (.dcf (shopD rs))), none, none, none, none] pt) finK = _
  rw [e_seqS, s1, e_bndok, e_seqK, e_seqS, s2, e_bndok, e_seqK, e_seqS, s3, e_bndok, e_seqK, s4]
  rfl
end
/-! ### words -/
def rowOf (rs : List Row) (w : Str) : Row := (look rs w).getD ⟨w, 0, 0, none, none, 0⟩
/-- a word of the book -/
structure Wd (rs : List Row) (ws : List Str) : Prop where
  len : ws.length ≤ 240
  mem : ∀ w ∈ ws, w ∈ rs.map (·.n)
section
variable {rs : List Row} {pt : Pot} {ws : List Str}
theorem look_row {w : Str} (h : w ∈ rs.map (·.n)) : look rs w = some (rowOf rs w) := by
  obtain ⟨r, e⟩ := look_some h
  unfold rowOf
  rw [e]
  rfl
theorem found_row (nd : (rs.map (·.n)).Nodup) {w : Str} (h : w ∈ rs.map (·.n)) : valD (foundD (srt rs)) (.inr w) = some (kindD (rowOf rs w)) := by rw [found_at nd (srt_perm rs), look_row h]; rfl
theorem shop_row {w : Str} (h : w ∈ rs.map (·.n)) : valD (shopD rs) (.inr w) = some (rowD (rowOf rs w)) := by rw [val_shop, look_row h]; rfl
theorem ctn1 (nd : (rs.map (·.n)).Nodup) {w : Str} (h : w ∈ rs.map (·.n)) : m_Bookzz_containszz [bookD rs, .str w] pt = .ok (.bl true) pt := by
  unfold m_Bookzz_containszz g_Bookzz_containszz
  rw [e_fnM]
  simp [ini, found_row nd h]
theorem bls_true (ws : List Str) : blsOf (ws.map fun _ => D.bl true) = some (ws.map fun _ => true) := by
  induction ws with
  | nil => rfl
  | cons w ws ih => simp [blsOf, ih]
theorem isw1 (nd : (rs.map (·.n)).Nodup) (h : Wd rs ws) : m_Book_is_word [bookD rs, .tup (ws.map .str)] pt = .ok (.bl true) pt := by
  have e3 : compL (tgN 2) yesT (binE (ctnM 1 m_Bookzz_containszz) (varE 2) (varE 0)) [some (.val (bookD rs)), some (.val (.tup (ws.map .str))), none] (ws.map .str) [] pt = .ok ((ws.map D.str).map fun _ => .bl true) pt := by
    refine comp_same (i := 2) (by simp) (fun _ _ => rfl) _ (fun d hd => ?_) (by have := h.len; simp; omega)
    obtain ⟨w, hw, rfl⟩ := List.mem_map.mp hd
    simp [ctn1 nd (h.mem w hw)]
  rw [List.map_map] at e3
  have l1 : (ws.length : Int) ≤ 240 := by have := h.len; omega
  have al : allF [.lst (ws.map fun _ => D.bl true)] = some (.bl true) := by
    show (blsOf _).map _ = _
    rw [bls_true]
    simp
  unfold m_Book_is_word g_Book_is_word
  rw [e_fnM]
  have e4 : compL (tgN 2) yesT (binE (ctnM 1 m_Bookzz_containszz) (varE 2) (varE 0)) [some (.val (bookD rs)), some (.val (.tup (ws.map .str))), none] (ws.map .str) [] pt = .ok (ws.map fun _ => .bl true) pt := e3
  simp [ini, lenF, l1, noOwn, e4, al]
theorem want1 (nd : (rs.map (·.n)).Nodup) (h : Wd rs ws) : m_Book_want_word [bookD rs, .tup (ws.map .str)] pt = .ok .non pt := by
  unfold m_Book_want_word g_Book_want_word
  rw [e_fnM]
  simp [ini, isw1 nd h]
end
end LW

set_option Elab.async false
set_option linter.all false
set_option maxRecDepth 100000
set_option maxHeartbeats 4000000
namespace LW
open PySem L2 DF
section
variable {rs : List Row} {pt : Pot} {ws : List Str}
/-! ### sums -/
theorem ints_map (g : Str → Int) : ∀ ws : List Str, intsD (ws.map fun w => .int (g w)) = some (ws.map g)
  | [] => rfl
  | w :: ws => by simp [intsD, ints_map g ws]
theorem sum_map (g : Str → Int) (ws : List Str) : sumF [.lst (ws.map fun w => .int (g w))] = some (.int (ws.map g).sum) := by
  show (intsD _).map _ = _
  rw [ints_map]
  rfl
theorem comp_book {j : Nat} {f : Row → D} (nd : (rs.map (·.n)).Nodup) (h : Wd rs ws) (hf : ∀ r p, getK 0 j (kindD r) p = .ok (f r) p) {part : Option SV} (ls : List Str) (hls : ∀ w ∈ ls, w ∈ ws) (hl : ls.length ≤ 240) :
    compL (tgN 2) yesT (getE 0 j (binE ixU (getE 1 0 (varE 0)) (bvarE 2))) [some (.val (bookD rs)), part, none] (ls.map .str) [] pt = .ok (ls.map fun w => f (rowOf rs w)) pt := by
  have := comp_same (ρ := [some (.val (bookD rs)), part, none]) (pt := pt) (i := 2) (t := yesT) (f := getE 0 j (binE ixU (getE 1 0 (varE 0)) (bvarE 2))) (F := fun d => match d with
      | .str w => f (rowOf rs w)
      | d => d) (by simp) (fun _ _ => rfl) (ls.map .str) (fun d hd => ?_) (by simp; omega)
  · rw [this, List.map_map]
    rfl
  · obtain ⟨w, hw, rfl⟩ := List.mem_map.mp hd
    simp [found_row nd (h.mem w (hls w hw)), hf]
theorem taken_sum (nd : (rs.map (·.n)).Nodup) (h : Wd rs ws) : m_Book_taken [bookD rs, .tup (ws.map .str)] pt = .ok (.int (ws.map fun w => (rowOf rs w).t).sum) pt := by
  have e := comp_book (pt := pt) (j := 1) (f := fun r => .int r.t) nd h (fun r p => rfl) (part := some (.val (.tup (ws.map .str)))) ws (fun _ h => h) h.len
  have e1 : m_loops_taken [bookD rs, .tup (ws.map .str)] pt = .ok (.int (ws.map fun w => (rowOf rs w).t).sum) pt := by
    unfold m_loops_taken g_loops_taken
    rw [e_fnM]
    simp [ini, noOwn, e, sum_map fun w => (rowOf rs w).t]
  unfold m_Book_taken g_Book_taken
  rw [e_fnM]
  simp [ini, want1 nd h, e1]
theorem made_sum (nd : (rs.map (·.n)).Nodup) (h : Wd rs ws) : m_Book_made [bookD rs, .tup (ws.map .str)] pt = .ok (.int (ws.map fun w => (rowOf rs w).m).sum) pt := by
  have e := comp_book (pt := pt) (j := 2) (f := fun r => .int r.m) nd h (fun r p => rfl) (part := some (.val (.tup (ws.map .str)))) ws (fun _ h => h) h.len
  have e1 : m_loops_made [bookD rs, .tup (ws.map .str)] pt = .ok (.int (ws.map fun w => (rowOf rs w).m).sum) pt := by
    unfold m_loops_made g_loops_made
    rw [e_fnM]
    simp [ini, noOwn, e, sum_map fun w => (rowOf rs w).m]
  unfold m_Book_made g_Book_made
  rw [e_fnM]
  simp [ini, want1 nd h, e1]
theorem yarn_sum (nd : (rs.map (·.n)).Nodup) (h : Wd rs ws) : m_Book_yarn_of [bookD rs, .tup (ws.map .str)] pt = .ok (.int (ws.map fun w => (rowOf rs w).y).sum) pt := by
  have e := comp_book (pt := pt) (j := 5) (f := fun r => .int r.y) nd h (fun r p => rfl) (part := some (.val (.tup (ws.map .str)))) ws (fun _ h => h) h.len
  have e1 : m_yarn_needed [bookD rs, .tup (ws.map .str)] pt = .ok (.int (ws.map fun w => (rowOf rs w).y).sum) pt := by
    unfold m_yarn_needed g_yarn_needed
    rw [e_fnM]
    simp [ini, noOwn, e, sum_map fun w => (rowOf rs w).y]
  unfold m_Book_yarn_of g_Book_yarn_of
  rw [e_fnM]
  simp [ini, want1 nd h, e1]
theorem due_in {p : Int} {f : Row → D} (h : Wd rs ws) (hf : ∀ r q, ixU (rowD r) (.int p) q = .ok (f r) q) {a b c d : Option SV} :
    compL (tgN 4) yesT (binE ixU (binE ixU (bvarE 1) (bvarE 4)) (bvarE 5)) [a, some (.val (.dcf (shopD rs))), b, c, none, some (.val (.int p)), d] (ws.map .str) [] pt = .ok (ws.map fun w => f (rowOf rs w)) pt := by
  have := comp_same (ρ := [a, some (.val (.dcf (shopD rs))), b, c, none, some (.val (.int p)), d]) (pt := pt) (i := 4) (t := yesT) (f := binE ixU (binE ixU (bvarE 1) (bvarE 4)) (bvarE 5)) (F := fun d => match d with
      | .str w => f (rowOf rs w)
      | d => d) (by simp) (fun _ _ => rfl) (ws.map .str) (fun d hd => ?_) (by have := h.len; simp; omega)
  · rw [this, List.map_map]
    rfl
  · obtain ⟨w, hw, rfl⟩ := List.mem_map.mp hd
    simp [shop_row (h.mem w hw), hf]
theorem sum_bd {g : Str → Int} : ∀ {ws : List Str}, (∀ w ∈ ws, 0 ≤ g w ∧ g w ≤ 999) → 0 ≤ (ws.map g).sum ∧ (ws.map g).sum ≤ ws.length * 999
  | [], _ => by simp
  | w :: ws, h => by
    have ih := sum_bd (g := g) (ws := ws) fun z hz => h z (List.mem_cons_of_mem _ hz)
    have h0 := h w List.mem_cons_self
    simp only [List.map_cons, List.sum_cons, List.length_cons]
    constructor <;> omega
theorem shw_int {i : Int} (h0 : 0 ≤ i) (h1 : i < 1000000) : Shw (.int i) 0 2000 := by
  have hl : i.natAbs.log2 < 64 := log2_lt (by omega)
  refine ⟨?_, Nat.le_refl _, ?_⟩
  · show decide (i.natAbs.log2 < 1920) = true
    exact decide_eq_true (by omega)
  · rw [PyData.shown_int]
    have := tx_len (i := i) (by unfold Log; omega)
    unfold tx at this
    omega
theorem mem_row (h : Wd rs ws) {w : Str} (hw : w ∈ ws) : rowOf rs w ∈ rs ∧ (rowOf rs w).n = w := look_mem (look_row (h.mem w hw))
theorem eq3 (a b c : Int) : dEq (.lst [.int a, .int b, .int c]) (.lst [.int a, .int b, .int c]) = some (.bl true) := by
  have c1 : SeqAt.shaped (.list [.int a, .int b, .int c]) = true := shp_lst rfl (by simp [PyData.depthAll, PyData.depth])
  unfold dEq
  rw [eqP_lst (xs := [.int a, .int b, .int c]) (ys := [.int a, .int b, .int c]) rfl rfl c1 c1, SeqAt.eqv_refl _ (SeqAt.canLay_of_shaped c1)]
  rfl
theorem sums1 (B : Bk rs) (h : Wd rs ws) : m__law_sums_right [bookD rs, .dcf (shopD rs), .tup (ws.map .str)] pt = .ok (.bl true) pt := by
  have T := taken_sum (pt := pt) B.nd h
  have Mk := made_sum (pt := pt) B.nd h
  have Y := yarn_sum (pt := pt) B.nd h
  have bt := sum_bd (g := fun w => (rowOf rs w).t) (ws := ws) fun w hw => by
    have := B.pre.sz _ (mem_row h hw).1
    have a := this.t0; have b := this.t6
    constructor <;> omega
  have bm := sum_bd (g := fun w => (rowOf rs w).m) (ws := ws) fun w hw => by
    have := B.pre.sz _ (mem_row h hw).1
    have a := this.m0; have b := this.m6
    constructor <;> omega
  have by_ := sum_bd (g := fun w => (rowOf rs w).y) (ws := ws) fun w hw => by
    have := B.pre.y _ (mem_row h hw).1
    constructor <;> omega
  have hl := h.len
  have d0 := due_in (pt := pt) (p := 0) (f := fun r => .int r.t) (a := some (.val (bookD rs))) (b := some (.val (.tup (ws.map .str)))) (c := none) (d := none) h (fun r q => by simp [rowD])
  have d1 := due_in (pt := pt) (p := 1) (f := fun r => .int r.m) (a := some (.val (bookD rs))) (b := some (.val (.tup (ws.map .str)))) (c := none) (d := none) h (fun r q => by simp [rowD])
  have d4 := due_in (pt := pt) (p := 4) (f := fun r => .int r.y) (a := some (.val (bookD rs))) (b := some (.val (.tup (ws.map .str)))) (c := none) (d := none) h (fun r q => by simp [rowD])
  have m0 := sum_map (fun w => (rowOf rs w).t) ws
  have m1 := sum_map (fun w => (rowOf rs w).m) ws
  have m4 := sum_map (fun w => (rowOf rs w).y) ws
  have iw := isw1 (pt := pt) B.nd h
  generalize (ws.map fun w => (rowOf rs w).t).sum = t at *
  generalize (ws.map fun w => (rowOf rs w).m).sum = m at *
  generalize (ws.map fun w => (rowOf rs w).y).sum = y at *
  obtain ⟨tx, et⟩ := repr_of (d := .lst [.int t, .int m, .int y]) (x := .list [.int t, .int m, .int y]) (.inr ⟨_, rfl⟩) rfl (shw_list (d := 0) (L := 2000) fun x hx => by
    simp only [List.mem_cons, List.not_mem_nil, or_false] at hx
    rcases hx with rfl | rfl | rfl
    · exact shw_int bt.1 (by omega)
    · exact shw_int bm.1 (by omega)
    · exact shw_int by_.1 (by omega)) (by decide) (by simp)
  have s1 : g__law_sums_right_s1 [some (.val (bookD rs)), some (.val (.dcf (shopD rs))), some (.val (.tup (ws.map .str))), none, none, none, none] pt = .ok (.nx [some (.val (bookD rs)), some (.val (.dcf (shopD rs))), some (.val (.tup (ws.map .str))), some (.val (.lst [.int t, .int m, .int y])), none, none, none]) pt := by
    unfold g__law_sums_right_s1
    simp [noOwn, d0, d1, d4, m0, m1, m4]
  have s2 : g__law_sums_right_s2 [some (.val (bookD rs)), some (.val (.dcf (shopD rs))), some (.val (.tup (ws.map .str))), some (.val (.lst [.int t, .int m, .int y])), none, none, none] pt = .ok (.nx [some (.val (bookD rs)), some (.val (.dcf (shopD rs))), some (.val (.tup (ws.map .str))), some (.val (.lst [.int t, .int m, .int y])), none, none, none]) pt := by
    unfold g__law_sums_right_s2
    simp [T, Mk, Y, et]
  have s3 : g__law_sums_right_s3 [some (.val (bookD rs)), some (.val (.dcf (shopD rs))), some (.val (.tup (ws.map .str))), some (.val (.lst [.int t, .int m, .int y])), none, none, none] pt = .ok (.nx [some (.val (bookD rs)), some (.val (.dcf (shopD rs))), some (.val (.tup (ws.map .str))), some (.val (.lst [.int t, .int m, .int y])), none, none, some (.val (.lst [.int t, .int m, .int y]))]) pt := by
    unfold g__law_sums_right_s3
    simp [DF.pick, T, Mk, Y]
  have s4 : g__law_sums_right_s4 [some (.val (bookD rs)), some (.val (.dcf (shopD rs))), some (.val (.tup (ws.map .str))), some (.val (.lst [.int t, .int m, .int y])), none, none, some (.val (.lst [.int t, .int m, .int y]))] pt = .ok (.rt (.bl true)) pt := by
    unfold g__law_sums_right_s4
    simp [DF.pick, iw, eq3]
  unfold m__law_sums_right g__law_sums_right
  rw [e_fnM]
  show bndR (seqS _ _ [some (.val (bookD rs)), some (.val (.dcf (shopD rs))), some (.val (.tup (ws.map .str))), none, none, none, none] pt) finK = _
  rw [e_seqS, s1, e_bndok, e_seqK, e_seqS, s2, e_bndok, e_seqK, e_seqS, s3, e_bndok, e_seqK, s4]
  rfl
end
end LW

set_option Elab.async false
set_option linter.all false
set_option maxRecDepth 100000
set_option maxHeartbeats 4000000
namespace LW
open PySem L2 DF
section
variable {rs : List Row} {pt : Pot} {ws : List Str}
/-! ### words turned -/
/-- the first name of the word that has none -/
abbrev bare (rs : List Row) (f : Row → Option Str) (w : Str) : Bool := (f (rowOf rs w)).isNone
def gt (rs : List Row) (f : Row → Option Str) (w : Str) : Str := (f (rowOf rs w)).getD w
def outB (rs : List Row) (f : Row → Option Str) (tag : Str) (ws : List Str) : D := match ws.find? (bare rs f) with
  | some w => .tup [.str tag, .str w]
  | none => .tup [.str "told", .tup ((ws.reverse.map (gt rs f)).map .str)]
theorem gt_of {f : Row → Option Str} {w : Str} (h : bare rs f w = false) : oD (f (rowOf rs w)) = .str (gt rs f w) := by
  unfold gt
  cases e : f (rowOf rs w) with
  | none =>
    unfold bare at h
    rw [e] at h
    cases h
  | some x => rfl
theorem none_all {f : Row → Option Str} (h : ws.find? (bare rs f) = none) : ∀ w ∈ ws, bare rs f w = false := fun w hw => by
  have := List.find?_eq_none.mp h w hw
  cases e : bare rs f w with
  | true => exact absurd e this
  | false => rfl
theorem beh_b1 (nd : (rs.map (·.n)).Nodup) {w : Str} (h : w ∈ rs.map (·.n)) {part : Option SV} : g_names_behind_b1 [some (.val (bookD rs)), part, some (.val (.str w))] pt = if bare rs (·.b) w then .exc 8 [.str w] pt else .ok (.nx [some (.val (bookD rs)), part, some (.val (.str w))]) pt := by
  unfold g_names_behind_b1
  have hf : ∀ r, getK 0 3 (kindD r) pt = .ok (oD r.b) pt := fun r => rfl
  cases hb : bare rs (·.b) w with
  | true => simp [found_row nd h, hf, show (rowOf rs w).b.isNone = true from hb]
  | false => simp [found_row nd h, hf, show (rowOf rs w).b.isNone = false from hb]
theorem mir_b1 (nd : (rs.map (·.n)).Nodup) {w : Str} (h : w ∈ rs.map (·.n)) {part : Option SV} : g_names_in_mirror_b1 [some (.val (bookD rs)), part, some (.val (.str w))] pt = if bare rs (·.i) w then .exc 9 [.str w] pt else .ok (.nx [some (.val (bookD rs)), part, some (.val (.str w))]) pt := by
  unfold g_names_in_mirror_b1
  have hf : ∀ r, getK 0 4 (kindD r) pt = .ok (oD r.i) pt := fun r => rfl
  cases hb : bare rs (·.i) w with
  | true => simp [found_row nd h, hf, show (rowOf rs w).i.isNone = true from hb]
  | false => simp [found_row nd h, hf, show (rowOf rs w).i.isNone = false from hb]
def Pl (x : Option SV) : Prop := x = none ∨ ∃ d, x = some (.val d)
theorem Pl.no {a b x : Option SV} (h : Pl x) : noOwn [a, b, x] [2] = true := by
  rcases h with rfl | ⟨d, rfl⟩ <;> rfl
/-- the loop that looks for a bare name -/
theorem bare_loop {f : Row → Option Str} {ec : Nat} {g : Slots → M Out} {b part : Option SV} (hg : ∀ w ∈ ws, g [b, part, some (.val (.str w))] pt = if bare rs f w then .exc ec [.str w] pt else .ok (.nx [b, part, some (.val (.str w))]) pt) :
    (∀ w, ws.find? (bare rs f) = some w → forL (tgN 2) g (ws.map .str) [b, part, none] pt = .exc ec [.str w] pt) ∧ (ws.find? (bare rs f) = none → ∃ y, forL (tgN 2) g (ws.map .str) [b, part, none] pt = .ok (.nx [b, part, y]) pt ∧ Pl y) := by
  have key : ∀ (l : List Str) (x : Option SV), Pl x → (∀ w ∈ l, w ∈ ws) → (∀ w, l.find? (bare rs f) = some w → forL (tgN 2) g (l.map .str) [b, part, x] pt = .exc ec [.str w] pt) ∧ (l.find? (bare rs f) = none → ∃ y, forL (tgN 2) g (l.map .str) [b, part, x] pt = .ok (.nx [b, part, y]) pt ∧ Pl y) := by
    intro l
    induction l with
    | nil => exact fun x hx _ => ⟨fun w e => (nomatch e), fun _ => ⟨x, rfl, hx⟩⟩
    | cons v l ih =>
      intro x hx hl
      have hv := hg v (hl v List.mem_cons_self)
      have ih := ih (some (.val (.str v))) (.inr ⟨_, rfl⟩) fun w hw => hl w (List.mem_cons_of_mem _ hw)
      rw [List.map_cons, e_forL]
      cases hb : bare rs f v with
      | true =>
        rw [hb, if_pos rfl] at hv
        rw [List.find?_cons, hb]
        refine ⟨fun w e => ?_, fun e => (nomatch e)⟩
        cases e
        simp [hv]
      | false =>
        rw [hb] at hv
        rw [List.find?_cons, hb]
        have hv : g [b, part, some (.val (.str v))] pt = .ok (.nx [b, part, some (.val (.str v))]) pt := hv
        refine ⟨fun w e => ?_, fun e => ?_⟩
        · have := ih.1 w e
          simp [hv, this]
        · obtain ⟨y, ey, py⟩ := ih.2 e
          exact ⟨y, by simp [hv, ey], py⟩
  exact key ws none (.inl rfl) fun w h => h
theorem tup_strs {f : Row → Option Str} {l : List Str} (h : ∀ w ∈ l, bare rs f w = false) : (l.map fun w => oD (f (rowOf rs w))) = (l.map (gt rs f)).map .str := by
  rw [List.map_map]
  exact List.map_congr_left fun w hw => gt_of (h w hw)
theorem behind1 (nd : (rs.map (·.n)).Nodup) (h : Wd rs ws) : (∀ w, ws.find? (bare rs (·.b)) = some w → m_names_behind [bookD rs, .tup (ws.map .str)] pt = .exc 8 [.str w] pt) ∧ (ws.find? (bare rs (·.b)) = none → m_names_behind [bookD rs, .tup (ws.map .str)] pt = .ok (.tup ((ws.reverse.map (gt rs (·.b))).map .str)) pt) := by
  obtain ⟨k1, k2⟩ := bare_loop (rs := rs) (ws := ws) (pt := pt) (f := (·.b)) (ec := 8) (g := g_names_behind_b1) (b := some (.val (bookD rs))) (part := some (.val (.tup (ws.map .str)))) fun w hw => beh_b1 nd (h.mem w hw)
  unfold m_names_behind g_names_behind
  refine ⟨fun w e => ?_, fun e => ?_⟩
  · have z := k1 w e
    rw [e_fnM]
    simp [ini, z]
  · obtain ⟨y, z, py⟩ := k2 e
    have c := comp_book (pt := pt) (j := 3) (f := fun r => oD r.b) nd h (fun r p => rfl) (part := some (.val (.tup (ws.map .str)))) ws.reverse (fun w hw => List.mem_reverse.mp hw) (by simpa using h.len)
    rw [tup_strs (f := (·.b)) fun w hw => none_all e w (List.mem_reverse.mp hw), List.map_reverse] at c
    rw [e_fnM]
    simp [ini, z, py.no, c, tupF, listF, seqOf]
theorem inmir1 (nd : (rs.map (·.n)).Nodup) (h : Wd rs ws) : (∀ w, ws.find? (bare rs (·.i)) = some w → m_names_in_mirror [bookD rs, .tup (ws.map .str)] pt = .exc 9 [.str w] pt) ∧ (ws.find? (bare rs (·.i)) = none → m_names_in_mirror [bookD rs, .tup (ws.map .str)] pt = .ok (.tup ((ws.reverse.map (gt rs (·.i))).map .str)) pt) := by
  obtain ⟨k1, k2⟩ := bare_loop (rs := rs) (ws := ws) (pt := pt) (f := (·.i)) (ec := 9) (g := g_names_in_mirror_b1) (b := some (.val (bookD rs))) (part := some (.val (.tup (ws.map .str)))) fun w hw => mir_b1 nd (h.mem w hw)
  unfold m_names_in_mirror g_names_in_mirror
  refine ⟨fun w e => ?_, fun e => ?_⟩
  · have z := k1 w e
    rw [e_fnM]
    simp [ini, z]
  · obtain ⟨y, z, py⟩ := k2 e
    have c := comp_book (pt := pt) (j := 4) (f := fun r => oD r.i) nd h (fun r p => rfl) (part := some (.val (.tup (ws.map .str)))) ws.reverse (fun w hw => List.mem_reverse.mp hw) (by simpa using h.len)
    rw [tup_strs (f := (·.i)) fun w hw => none_all e w (List.mem_reverse.mp hw), List.map_reverse] at c
    rw [e_fnM]
    simp [ini, z, py.no, c, tupF, listF, seqOf]
theorem turned1 (nd : (rs.map (·.n)).Nodup) (h : Wd rs ws) : (∀ w, ws.find? (bare rs (·.b)) = some w → m_Book_turned [bookD rs, .tup (ws.map .str)] pt = .exc 8 [.str w] pt) ∧ (ws.find? (bare rs (·.b)) = none → m_Book_turned [bookD rs, .tup (ws.map .str)] pt = .ok (.tup ((ws.reverse.map (gt rs (·.b))).map .str)) pt) := by
  obtain ⟨k1, k2⟩ := behind1 (pt := pt) nd h
  have w := want1 (pt := pt) nd h
  unfold m_Book_turned g_Book_turned
  exact ⟨fun v e => by rw [e_fnM]; simp [ini, w, k1 v e], fun e => by rw [e_fnM]; simp [ini, w, k2 e]⟩
theorem mirrored1 (nd : (rs.map (·.n)).Nodup) (h : Wd rs ws) : (∀ w, ws.find? (bare rs (·.i)) = some w → m_Book_mirrored [bookD rs, .tup (ws.map .str)] pt = .exc 9 [.str w] pt) ∧ (ws.find? (bare rs (·.i)) = none → m_Book_mirrored [bookD rs, .tup (ws.map .str)] pt = .ok (.tup ((ws.reverse.map (gt rs (·.i))).map .str)) pt) := by
  obtain ⟨k1, k2⟩ := inmir1 (pt := pt) nd h
  have w := want1 (pt := pt) nd h
  unfold m_Book_mirrored g_Book_mirrored
  exact ⟨fun v e => by rw [e_fnM]; simp [ini, w, k1 v e], fun e => by rw [e_fnM]; simp [ini, w, k2 e]⟩
/-! heard -/
theorem heard_ok {m : M D} {d : D} (e : m pt = .ok d pt) : hm__law_heard m pt = .ok (.tup [.str "told", d]) pt := by
  unfold hm__law_heard
  rw [e_lamM]
  simp [g__law_heard, noOwnA, isOwn, e]
theorem heard_8 {m : M D} {w : Str} (e : m pt = .exc 8 [.str w] pt) : hm__law_heard m pt = .ok (.tup [.str "back", .str w]) pt := by
  unfold hm__law_heard
  rw [e_lamM]
  simp [g__law_heard, noOwnA, isOwn, e, catchS, exm_NoBack]
theorem heard_9 {m : M D} {w : Str} (e : m pt = .exc 9 [.str w] pt) : hm__law_heard m pt = .ok (.tup [.str "mirror", .str w]) pt := by
  unfold hm__law_heard
  rw [e_lamM]
  simp [g__law_heard, noOwnA, isOwn, e, catchS, exm_NoBack, exm_NoMirror]
/-! backward -/
theorem find_filter {p : Str → Bool} : ∀ l : List Str, (l.filter p).head? = l.find? p
  | [] => rfl
  | a :: l => by
    rw [List.filter_cons, List.find?_cons]
    cases p a with
    | true => rfl
    | false => exact find_filter l
theorem backward1 {p : Int} {f : Row → Option Str} {tag : Str} (ok : ∀ w ∈ rs.map (·.n), PyData.strOk w = true) (h : Wd rs ws) (hf : ∀ r q, ixU (rowD r) (.int p) q = .ok (oD (f r)) q) (ht : (if p = 2 then ("back" : Str) else "mirror") = tag) :
    m__law_backward [.dcf (shopD rs), .tup (ws.map .str), .int p] pt = .ok (outB rs f tag ws) pt := by
  have hl := h.len
  have c1 : compL (tgN 4) (testE (binE isU (binE ixU (binE ixU (bvarE 0) (bvarE 4)) (bvarE 2)) (cE .non))) (varE 4) [some (.val (.dcf (shopD rs))), some (.val (.tup (ws.map .str))), some (.val (.int p)), none, none] (ws.map .str) [] pt = .ok ((ws.filter (bare rs f)).map .str) pt := by
    have := comp_pure (ρ := [some (.val (.dcf (shopD rs))), some (.val (.tup (ws.map .str))), some (.val (.int p)), none, none]) (pt := pt) (i := 4) (t := testE (binE isU (binE ixU (binE ixU (bvarE 0) (bvarE 4)) (bvarE 2)) (cE .non))) (f := varE 4) (p := fun d => match d with
      | .str w => bare rs f w
      | _ => false) (F := id) (by simp) (ws.map .str) [] (fun d hd => ?_) (by simp; omega)
    · rw [this, List.nil_append, List.map_id, List.filter_map]
      rfl
    · obtain ⟨w, hw, rfl⟩ := List.mem_map.mp hd
      constructor
      · simp [shop_row (h.mem w hw), hf]
      · simp
  have s2 : dNe (.lst ((ws.filter (bare rs f)).map .str)) (.lst []) = some (.bl (!(ws.filter (bare rs f)).isEmpty)) := by
    unfold dNe
    rw [strs_nil fun w hw => ok w (h.mem w (List.mem_filter.mp hw).1)]
    rfl
  unfold m__law_backward g__law_backward
  rw [e_fnM]
  unfold outB
  rw [← find_filter]
  cases e : ws.filter (bare rs f) with
  | cons v l =>
    rw [e] at c1 s2
    simp only [List.map_cons] at c1 s2
    have tg : ifE (testE (binE (pu dEq) (bvarE 2) (cE (.int 2)))) (cE (.str "back")) (cE (.str "mirror")) [some (.val (.dcf (shopD rs))), some (.val (.tup (ws.map .str))), some (.val (.int p)), some (.val (.lst (.str v :: l.map .str))), none] pt = .ok (.str tag) pt := by
      by_cases h2 : p = 2
      · rw [if_pos h2] at ht
        simp [h2, ← ht]
      · rw [if_neg h2] at ht
        simp [h2, ← ht]
    rw [e_ifE] at tg
    simp [ini, noOwn, c1, s2]
    simp at tg
    simp [tg]
  | nil =>
    rw [e] at c1 s2
    have na : ∀ w ∈ ws, bare rs f w = false := fun w hw => by
      cases q : bare rs f w with
      | false => rfl
      | true =>
        have : w ∈ ws.filter (bare rs f) := List.mem_filter.mpr ⟨hw, q⟩
        rw [e] at this
        cases this
    have c2 : compL (tgN 4) yesT (binE ixU (binE ixU (bvarE 0) (bvarE 4)) (bvarE 2)) [some (.val (.dcf (shopD rs))), some (.val (.tup (ws.map .str))), some (.val (.int p)), some (.val (.lst [])), none] (ws.reverse.map .str) [] pt = .ok ((ws.reverse.map (gt rs f)).map .str) pt := by
      have := comp_same (ρ := [some (.val (.dcf (shopD rs))), some (.val (.tup (ws.map .str))), some (.val (.int p)), some (.val (.lst [])), none]) (pt := pt) (i := 4) (t := yesT) (f := binE ixU (binE ixU (bvarE 0) (bvarE 4)) (bvarE 2)) (F := fun d => match d with
        | .str w => oD (f (rowOf rs w))
        | d => d) (by simp) (fun _ _ => rfl) (ws.reverse.map .str) (fun d hd => ?_) (by simp; omega)
      · rw [this, List.map_map]
        exact congrArg (fun l => Res.ok l pt) (tup_strs fun w hw => na w (List.mem_reverse.mp hw))
      · obtain ⟨w, hw, rfl⟩ := List.mem_map.mp hd
        simp [shop_row (h.mem w (List.mem_reverse.mp hw)), hf]
    rw [List.map_reverse] at c2
    simp only [List.map_nil, List.isEmpty_nil, Bool.not_true] at c1 s2
    simp [ini, noOwn, c1, s2, c2, tupF, listF, seqOf]
end
end LW

set_option Elab.async false
set_option linter.all false
set_option maxRecDepth 100000
set_option maxHeartbeats 4000000
namespace LW
open PySem L2 DF
section
variable {rs : List Row} {pt : Pot} {ws : List Str}
theorem rowOf_of (nd : (rs.map (·.n)).Nodup) {r : Row} (h : r ∈ rs) : rowOf rs r.n = r := by
  unfold rowOf
  rw [look_of nd h]
  rfl
/-- to turn twice is to leave it -/
def Tw (rs : List Row) (f : Row → Option Str) : Prop := ∀ w ∈ rs.map (·.n), ∀ x, f (rowOf rs w) = some x → x ∈ rs.map (·.n) ∧ f (rowOf rs x) = some w
theorem row_in {w : Str} (h : w ∈ rs.map (·.n)) : rowOf rs w ∈ rs ∧ (rowOf rs w).n = w := look_mem (look_row h)
theorem tw_b (B : Bk rs) : Tw rs (·.b) := fun w hw x e => by
  obtain ⟨h1, h2⟩ := row_in hw
  obtain ⟨s, hs, rfl, _, _, e3⟩ := (B.pre.cl _ h1).bk x e
  refine ⟨List.mem_map.mpr ⟨s, hs, rfl⟩, ?_⟩
  show (rowOf rs s.n).b = _
  rw [rowOf_of B.nd hs, e3, h2]
theorem tw_i (B : Bk rs) : Tw rs (·.i) := fun w hw x e => by
  obtain ⟨h1, h2⟩ := row_in hw
  obtain ⟨s, hs, rfl, _, _, e3⟩ := (B.pre.cl _ h1).mi x e
  refine ⟨List.mem_map.mpr ⟨s, hs, rfl⟩, ?_⟩
  show (rowOf rs s.n).i = _
  rw [rowOf_of B.nd hs, e3, h2]
theorem some_gt {f : Row → Option Str} {w : Str} (h : bare rs f w = false) : f (rowOf rs w) = some (gt rs f w) := by
  unfold gt
  cases e : f (rowOf rs w) with
  | none =>
    unfold bare at h
    rw [e] at h
    cases h
  | some x => rfl
theorem tw_wd {f : Row → Option Str} (tw : Tw rs f) (h : Wd rs ws) (n : ws.find? (bare rs f) = none) : Wd rs (ws.reverse.map (gt rs f)) ∧ (ws.reverse.map (gt rs f)).find? (bare rs f) = none ∧ (ws.reverse.map (gt rs f)).reverse.map (gt rs f) = ws := by
  have key : ∀ w ∈ ws, gt rs f w ∈ rs.map (·.n) ∧ f (rowOf rs (gt rs f w)) = some w := fun w hw => tw w (h.mem w hw) _ (some_gt (none_all n w hw))
  refine ⟨⟨by simpa using h.len, fun x hx => ?_⟩, ?_, ?_⟩
  · obtain ⟨w, hw, rfl⟩ := List.mem_map.mp hx
    exact (key w (List.mem_reverse.mp hw)).1
  · refine List.find?_eq_none.mpr fun x hx => ?_
    obtain ⟨w, hw, rfl⟩ := List.mem_map.mp hx
    show ¬ (f (rowOf rs (gt rs f w))).isNone = true
    rw [(key w (List.mem_reverse.mp hw)).2]
    simp
  · rw [← List.map_reverse, List.reverse_reverse, List.map_map]
    have : ws.map (gt rs f ∘ gt rs f) = ws.map id := List.map_congr_left fun w hw => by
      show (f (rowOf rs (gt rs f w))).getD _ = w
      rw [(key w hw).2]
      rfl
    rw [this, List.map_id]
theorem twice_b (B : Bk rs) (h : Wd rs ws) (n : ws.find? (bare rs (·.b)) = none) : m_Book_turned [bookD rs, .tup ((ws.reverse.map (gt rs (·.b))).map .str)] pt = .ok (.tup (ws.map .str)) pt := by
  obtain ⟨h1, h2, h3⟩ := tw_wd (tw_b B) h n
  rw [(turned1 B.nd h1).2 h2, h3]
theorem twice_i (B : Bk rs) (h : Wd rs ws) (n : ws.find? (bare rs (·.i)) = none) : m_Book_mirrored [bookD rs, .tup ((ws.reverse.map (gt rs (·.i))).map .str)] pt = .ok (.tup (ws.map .str)) pt := by
  obtain ⟨h1, h2, h3⟩ := tw_wd (tw_i B) h n
  rw [(mirrored1 B.nd h1).2 h2, h3]
/-! one behind the other -/
theorem crossed (B : Bk rs) {w : Str} (hw : w ∈ rs.map (·.n)) (hb : bare rs (·.b) w = false) (hi : bare rs (·.i) w = false) :
    bare rs (·.i) (gt rs (·.b) w) = false ∧ bare rs (·.b) (gt rs (·.i) w) = false ∧ gt rs (·.i) (gt rs (·.b) w) = gt rs (·.b) (gt rs (·.i) w) := by
  obtain ⟨h1, h2⟩ := row_in hw
  have e1 : (rowOf rs w).b = some (gt rs (·.b) w) := some_gt (f := (·.b)) hb
  have e2 : (rowOf rs w).i = some (gt rs (·.i) w) := some_gt (f := (·.i)) hi
  obtain ⟨s, hs, u, hu, x, es, eu, ei, eb⟩ := (B.pre.cl _ h1).cr _ _ e1 e2
  rw [← es, ← eu]
  unfold bare gt
  rw [rowOf_of B.nd hs, rowOf_of B.nd hu]
  show s.i.isNone = false ∧ u.b.isNone = false ∧ s.i.getD s.n = u.b.getD u.n
  rw [ei, eb]
  exact ⟨rfl, rfl, rfl⟩
theorem cross_b (B : Bk rs) (h : Wd rs ws) (nb : ws.find? (bare rs (·.b)) = none) (ni : ws.find? (bare rs (·.i)) = none) : m_Book_mirrored [bookD rs, .tup ((ws.reverse.map (gt rs (·.b))).map .str)] pt = .ok (.tup ((ws.map fun w => gt rs (·.i) (gt rs (·.b) w)).map .str)) pt := by
  obtain ⟨h1, _, _⟩ := tw_wd (tw_b B) h nb
  have n2 : (ws.reverse.map (gt rs (·.b))).find? (bare rs (·.i)) = none := by
    refine List.find?_eq_none.mpr fun x hx => ?_
    obtain ⟨w, hw, rfl⟩ := List.mem_map.mp hx
    have hw := List.mem_reverse.mp hw
    rw [(crossed B (h.mem w hw) (none_all nb w hw) (none_all ni w hw)).1]
    simp
  have e : (ws.reverse.map (gt rs (·.b))).reverse.map (gt rs (·.i)) = ws.map fun w => gt rs (·.i) (gt rs (·.b) w) := by
    rw [← List.map_reverse, List.reverse_reverse, List.map_map]
    rfl
  rw [(mirrored1 B.nd h1).2 n2, e]
theorem cross_i (B : Bk rs) (h : Wd rs ws) (nb : ws.find? (bare rs (·.b)) = none) (ni : ws.find? (bare rs (·.i)) = none) : m_Book_turned [bookD rs, .tup ((ws.reverse.map (gt rs (·.i))).map .str)] pt = .ok (.tup ((ws.map fun w => gt rs (·.i) (gt rs (·.b) w)).map .str)) pt := by
  obtain ⟨h1, _, _⟩ := tw_wd (tw_i B) h ni
  have n2 : (ws.reverse.map (gt rs (·.i))).find? (bare rs (·.b)) = none := by
    refine List.find?_eq_none.mpr fun x hx => ?_
    obtain ⟨w, hw, rfl⟩ := List.mem_map.mp hx
    have hw := List.mem_reverse.mp hw
    rw [(crossed B (h.mem w hw) (none_all nb w hw) (none_all ni w hw)).2.1]
    simp
  have e : (ws.reverse.map (gt rs (·.i))).reverse.map (gt rs (·.b)) = ws.map fun w => gt rs (·.i) (gt rs (·.b) w) := by
    rw [← List.map_reverse, List.reverse_reverse, List.map_map]
    exact List.map_congr_left fun w hw => (crossed B (h.mem w hw) (none_all nb w hw) (none_all ni w hw)).2.2.symm
  rw [(turned1 B.nd h1).2 n2, e]
/-! what is heard -/
abbrev tS (rs : List Row) (ws : List Str) (a b c d : Option SV) : Slots := [some (.val (bookD rs)), some (.val (.dcf (shopD rs))), some (.val (.tup (ws.map .str))), a, b, c, d, none]
theorem heard_b (nd : (rs.map (·.n)).Nodup) (h : Wd rs ws) {a b c d : Option SV} : hm__law_heard (methE 1 2 m_Book_turned [] (varE 0) (consA (varE 2) nilA) (tS rs ws a b c d)) pt = .ok (outB rs (·.b) "back" ws) pt := by
  obtain ⟨k1, k2⟩ := turned1 (pt := pt) nd h
  have e : methE 1 2 m_Book_turned [] (varE 0) (consA (varE 2) nilA) (tS rs ws a b c d) pt = m_Book_turned [bookD rs, .tup (ws.map .str)] pt := by simp
  unfold outB
  cases q : ws.find? (bare rs (·.b)) with
  | some w => exact heard_8 (e.trans (k1 w q))
  | none => exact heard_ok (e.trans (k2 q))
theorem heard_i (nd : (rs.map (·.n)).Nodup) (h : Wd rs ws) {a b c d : Option SV} : hm__law_heard (methE 1 2 m_Book_mirrored [] (varE 0) (consA (varE 2) nilA) (tS rs ws a b c d)) pt = .ok (outB rs (·.i) "mirror" ws) pt := by
  obtain ⟨k1, k2⟩ := mirrored1 (pt := pt) nd h
  have e : methE 1 2 m_Book_mirrored [] (varE 0) (consA (varE 2) nilA) (tS rs ws a b c d) pt = m_Book_mirrored [bookD rs, .tup (ws.map .str)] pt := by simp
  unfold outB
  cases q : ws.find? (bare rs (·.i)) with
  | some w => exact heard_9 (e.trans (k1 w q))
  | none => exact heard_ok (e.trans (k2 q))
theorem ten_rp : ∀ x ∈ ten, (reprText x).length ≤ 10 := by decide +kernel
theorem sh_strs {ls : List Str} (h : ∀ w ∈ ls, (reprText w).length ≤ 10) (hl : ls.length ≤ 240) : Shw (.tuple (ls.map .str)) 1 4000 := by
  refine (shw_tup (d := 0) (L := 10) fun x hx => ?_).up (by decide) ?_
  · obtain ⟨w, hw, rfl⟩ := List.mem_map.mp hx
    exact shw_str (h w hw)
  · rw [List.length_map]
    omega
theorem sh_out {f : Row → Option Str} {tag : Str} (B : Bk rs) (tw : Tw rs f) (h : Wd rs ws) (ht : (reprText tag).length ≤ 10) : ∃ x, shD (outB rs f tag ws) = some x ∧ Shw x 2 10000 := by
  have rp : ∀ w ∈ rs.map (·.n), (reprText w).length ≤ 10 := fun w hw => ten_rp w (B.nm w hw)
  unfold outB
  cases q : ws.find? (bare rs f) with
  | some w =>
    have hw := List.mem_of_find?_eq_some q
    refine ⟨.tuple [.str tag, .str w], rfl, (shw_tup (d := 0) (L := 10) fun x hx => ?_).up (by decide) (by simp)⟩
    simp only [List.mem_cons, List.not_mem_nil, or_false] at hx
    rcases hx with rfl | rfl
    · exact shw_str ht
    · exact shw_str (rp w (h.mem w hw))
  | none =>
    obtain ⟨h1, _, _⟩ := tw_wd tw h q
    have s := sh_strs (fun w hw => rp w (h1.mem w hw)) h1.len
    have e : shD (.tup [.str "told", .tup ((ws.reverse.map (gt rs f)).map .str)]) = some (.tuple [.str "told", .tuple ((ws.reverse.map (gt rs f)).map .str)]) := by
      have := shL_strs (ws.reverse.map (gt rs f))
      simp only [shD, shL, this]
      rfl
    refine ⟨_, e, (shw_tup (d := 1) (L := 4000) fun x hx => ?_).up (by decide) (by simp)⟩
    simp only [List.mem_cons, List.not_mem_nil, or_false] at hx
    rcases hx with rfl | rfl
    · exact (shw_str (L := 10) (by decide +kernel)).up (by decide) (by decide)
    · exact s
theorem out_repr (B : Bk rs) (h : Wd rs ws) : ∃ t, reprG [.lst [outB rs (·.b) "back" ws, outB rs (·.i) "mirror" ws]] = some (.str t) := by
  obtain ⟨x, ex, hx⟩ := sh_out (tag := "back") B (tw_b B) h (by decide +kernel)
  obtain ⟨y, ey, hy⟩ := sh_out (tag := "mirror") B (tw_i B) h (by decide +kernel)
  refine repr_of (x := .list [x, y]) (.inr ⟨_, rfl⟩) ?_ (shw_list (d := 2) (L := 10000) fun z hz => ?_) (by decide) (by simp)
  · simp only [shD, shL, ex, ey]
    rfl
  · simp only [List.mem_cons, List.not_mem_nil, or_false] at hz
    rcases hz with rfl | rfl
    · exact hx
    · exact hy
end
end LW

set_option Elab.async false
set_option linter.all false
set_option maxRecDepth 100000
set_option maxHeartbeats 4000000
namespace LW
open PySem L2 DF
section
variable {rs : List Row} {pt : Pot} {ws : List Str}
theorem n_back : ¬ (("back" : Str) = "told") := by decide +kernel
theorem n_mir : ¬ (("mirror" : Str) = "told") := by decide +kernel
theorem bk_ok (B : Bk rs) : ∀ w ∈ rs.map (·.n), PyData.strOk w = true := fun w hw => ten_ok w (B.nm w hw)
theorem wd_eq (B : Bk rs) (h : Wd rs ws) : dNe (.tup (ws.map .str)) (.tup (ws.map .str)) = some (.bl false) := by
  unfold dNe
  rw [word_eq fun w hw => bk_ok B w (h.mem w hw)]
  rfl
theorem pair_eq {A : List Str} (h : ∀ w ∈ A, PyData.strOk w = true) : dEq (.lst [.tup (A.map .str), .tup (A.map .str)]) (.lst [.tup (A.map .str), .tup (A.map .str)]) = some (.bl true) := by
  obtain ⟨h1, h2⟩ := lay_strs A h
  have e : toPyL [.tup (A.map .str), .tup (A.map .str)] = some [.tuple (A.map .str), .tuple (A.map .str)] := by
    simp only [toPyL, toPy, pyL_strs]
    rfl
  have c : SeqAt.shaped (.list [.tuple (A.map .str), .tuple (A.map .str)]) = true := shp_lst (by simp [PyData.canLayAll0, PyData.canLay0, h1]) (by simp [PyData.depthAll, PyData.depth, h2])
  unfold dEq
  rw [eqP_lst e e c c, SeqAt.eqv_refl _ (SeqAt.canLay_of_shaped c)]
  rfl
theorem turns1 (B : Bk rs) (h : Wd rs ws) : m__law_turns_right [bookD rs, .dcf (shopD rs), .tup (ws.map .str)] pt = .ok (.bl true) pt := by
  have nd := B.nd
  have b2 := backward1 (pt := pt) (p := 2) (f := (·.b)) (tag := "back") (bk_ok B) h (fun r q => by simp [rowD]) rfl
  have b3 := backward1 (pt := pt) (p := 3) (f := (·.i)) (tag := "mirror") (bk_ok B) h (fun r q => by simp [rowD]) rfl
  obtain ⟨t, et⟩ := out_repr B h
  have s1 : g__law_turns_right_s1 (tS rs ws none none none none) pt = .ok (.nx (tS rs ws (some (.val (.lst [outB rs (·.b) "back" ws, outB rs (·.i) "mirror" ws]))) none none none)) pt := by
    unfold g__law_turns_right_s1
    simp [b2, b3]
  have s2 : g__law_turns_right_s2 (tS rs ws (some (.val (.lst [outB rs (·.b) "back" ws, outB rs (·.i) "mirror" ws]))) none none none) pt = .ok (.nx (tS rs ws (some (.val (.lst [outB rs (·.b) "back" ws, outB rs (·.i) "mirror" ws]))) (some (.own [outB rs (·.b) "back" ws])) none none)) pt := by
    have e := heard_b (pt := pt) (a := some (.val (.lst [outB rs (·.b) "back" ws, outB rs (·.i) "mirror" ws]))) (b := none) (c := none) (d := none) nd h
    have c : clrO (tS rs ws (some (.val (.lst [outB rs (·.b) "back" ws, outB rs (·.i) "mirror" ws]))) none none none) = tS rs ws (some (.val (.lst [outB rs (·.b) "back" ws, outB rs (·.i) "mirror" ws]))) none none none := rfl
    unfold g__law_turns_right_s2
    rw [e_asgL, e_lenA, e_consA, e_lamc, c, e, e_okR]
    simp
  have s3 : g__law_turns_right_s3 (tS rs ws (some (.val (.lst [outB rs (·.b) "back" ws, outB rs (·.i) "mirror" ws]))) (some (.own [outB rs (·.b) "back" ws])) none none) pt = .ok (.nx (tS rs ws (some (.val (.lst [outB rs (·.b) "back" ws, outB rs (·.i) "mirror" ws]))) (some (.own [outB rs (·.b) "back" ws, outB rs (·.i) "mirror" ws])) none none)) pt := by
    have e := heard_i (pt := pt) (a := some (.val (.lst [outB rs (·.b) "back" ws, outB rs (·.i) "mirror" ws]))) (b := none) (c := none) (d := none) nd h
    have c : clrO (tS rs ws (some (.val (.lst [outB rs (·.b) "back" ws, outB rs (·.i) "mirror" ws]))) (some (.own [outB rs (·.b) "back" ws])) none none) = tS rs ws (some (.val (.lst [outB rs (·.b) "back" ws, outB rs (·.i) "mirror" ws]))) none none none := rfl
    unfold g__law_turns_right_s3
    have o : opt (ownOf (tS rs ws (some (.val (.lst [outB rs (·.b) "back" ws, outB rs (·.i) "mirror" ws]))) (some (.own [outB rs (·.b) "back" ws])) none none)[4]?) pt = .ok [outB rs (·.b) "back" ws] pt := rfl
    rw [e_app, o, e_bndok, e_bnd, e_lamc, c, e, e_okR]
    simp
  have k1 := turned1 (pt := pt) nd h
  have k2 := mirrored1 (pt := pt) nd h
  have w0 := wd_eq B h
  unfold m__law_turns_right g__law_turns_right
  rw [e_fnM]
  show bndR (seqS _ _ (tS rs ws none none none none) pt) finK = _
  rw [e_seqS, s1, e_bndok, e_seqK, e_seqS, s2, e_bndok, e_seqK, e_seqS, s3, e_bndok, e_seqK]
  clear s1 s2 s3 b2 b3
  have s4 : g__law_turns_right_s4 (tS rs ws (some (.val (.lst [outB rs (·.b) "back" ws, outB rs (·.i) "mirror" ws]))) (some (.own [outB rs (·.b) "back" ws, outB rs (·.i) "mirror" ws])) none none) pt = .ok (.nx (tS rs ws (some (.val (.lst [outB rs (·.b) "back" ws, outB rs (·.i) "mirror" ws]))) (some (.own [outB rs (·.b) "back" ws, outB rs (·.i) "mirror" ws])) none none)) pt := by
    unfold g__law_turns_right_s4
    simp [et]
  rw [e_seqS, s4, e_bndok, e_seqK]
  clear s4 et
  generalize hO : (some (SV.own [outB rs (·.b) "back" ws, outB rs (·.i) "mirror" ws]) : Option SV) = O
  -- turned twice
  have s5 : g__law_turns_right_s5 (tS rs ws (some (.val (.lst [outB rs (·.b) "back" ws, outB rs (·.i) "mirror" ws]))) O none none) pt = .ok (.nx (tS rs ws (some (.val (.lst [outB rs (·.b) "back" ws, outB rs (·.i) "mirror" ws]))) O none none)) pt := by
    unfold g__law_turns_right_s5
    generalize outB rs (·.i) "mirror" ws = Mi
    unfold outB
    cases q : ws.find? (bare rs (·.b)) with
    | some w => simp [n_back]
    | none =>
      have tt := twice_b (pt := pt) B h q
      have kk := k1.2 q
      generalize (ws.reverse.map (gt rs (·.b))).map D.str = U at tt kk
      simp [DF.pick, kk, tt, w0]
  have s6 : g__law_turns_right_s6 (tS rs ws (some (.val (.lst [outB rs (·.b) "back" ws, outB rs (·.i) "mirror" ws]))) O none none) pt = .ok (.nx (tS rs ws (some (.val (.lst [outB rs (·.b) "back" ws, outB rs (·.i) "mirror" ws]))) O none none)) pt := by
    unfold g__law_turns_right_s6
    generalize outB rs (·.b) "back" ws = Mi
    unfold outB
    cases q : ws.find? (bare rs (·.i)) with
    | some w => simp [n_mir]
    | none =>
      have tt := twice_i (pt := pt) B h q
      have kk := k2.2 q
      generalize (ws.reverse.map (gt rs (·.i))).map D.str = U at tt kk
      simp [DF.pick, kk, tt, w0]
  rw [e_seqS, s5, e_bndok, e_seqK, e_seqS, s6, e_bndok, e_seqK]
  clear s5 s6
  cases qb : ws.find? (bare rs (·.b)) with
  | some w =>
    have s7 : g__law_turns_right_s7 (tS rs ws (some (.val (.lst [outB rs (·.b) "back" ws, outB rs (·.i) "mirror" ws]))) O none none) pt = .ok (.rt (.bl true)) pt := by
      unfold g__law_turns_right_s7
      generalize outB rs (·.i) "mirror" ws = Mi
      unfold outB
      rw [qb]
      simp [n_back]
    rw [e_seqS, s7]
    rfl
  | none =>
    cases qi : ws.find? (bare rs (·.i)) with
    | some w =>
      have s7 : g__law_turns_right_s7 (tS rs ws (some (.val (.lst [outB rs (·.b) "back" ws, outB rs (·.i) "mirror" ws]))) O none none) pt = .ok (.rt (.bl true)) pt := by
        unfold g__law_turns_right_s7
        unfold outB
        rw [qb, qi]
        simp [n_mir]
      rw [e_seqS, s7]
      rfl
    | none =>
      have s7 : g__law_turns_right_s7 (tS rs ws (some (.val (.lst [outB rs (·.b) "back" ws, outB rs (·.i) "mirror" ws]))) O none none) pt = .ok (.nx (tS rs ws (some (.val (.lst [outB rs (·.b) "back" ws, outB rs (·.i) "mirror" ws]))) O none none)) pt := by
        unfold g__law_turns_right_s7
        unfold outB
        rw [qb, qi]
        simp
      rw [e_seqS, s7, e_bndok, e_seqK]
      clear s7
      have c1 := cross_b (pt := pt) B h qb qi
      have c2 := cross_i (pt := pt) B h qb qi
      have kb := k1.2 qb
      have ki := k2.2 qi
      generalize hF : (ws.map fun w => gt rs (·.i) (gt rs (·.b) w)) = F at c1 c2
      have okF : ∀ w ∈ F, PyData.strOk w = true := by
        subst hF
        intro x hx
        obtain ⟨w, hw, rfl⟩ := List.mem_map.mp hx
        have hb := none_all qb w hw
        have hi := none_all qi w hw
        have c := crossed B (h.mem w hw) hb hi
        have t1 := tw_b B w (h.mem w hw) _ (some_gt hb)
        have t2 := tw_i B _ t1.1 _ (some_gt c.1)
        exact bk_ok B _ t2.1
      have fw : compL (tgN 7) yesT (binE ixU (binE ixU (bvarE 1) (binE ixU (binE ixU (bvarE 1) (bvarE 7)) (cE (.int 2)))) (cE (.int 3))) (tS rs ws (some (.val (.lst [outB rs (·.b) "back" ws, outB rs (·.i) "mirror" ws]))) O (some (.val (.lst [.tup (F.map .str), .tup (F.map .str)]))) none) (ws.map .str) [] pt = .ok (F.map .str) pt := by
        have := comp_same (ρ := tS rs ws (some (.val (.lst [outB rs (·.b) "back" ws, outB rs (·.i) "mirror" ws]))) O (some (.val (.lst [.tup (F.map .str), .tup (F.map .str)]))) none) (pt := pt) (i := 7) (t := yesT) (f := binE ixU (binE ixU (bvarE 1) (binE ixU (binE ixU (bvarE 1) (bvarE 7)) (cE (.int 2)))) (cE (.int 3))) (F := fun d => match d with
          | .str w => .str (gt rs (·.i) (gt rs (·.b) w))
          | d => d) (by simp) (fun _ _ => rfl) (ws.map .str) (fun d hd => ?_) (by have := h.len; simp; omega)
        · rw [this, List.map_map, ← hF, List.map_map]
          rfl
        · obtain ⟨w, hw, rfl⟩ := List.mem_map.mp hd
          have hb := none_all qb w hw
          have hi := none_all qi w hw
          have c := crossed B (h.mem w hw) hb hi
          have t1 := tw_b B w (h.mem w hw) _ (some_gt hb)
          have r1 : ∀ r : Row, rowD r = .tup [.int r.t, .int r.m, oD r.b, oD r.i, .int r.y] := fun _ => rfl
          have o1 : oD (rowOf rs w).b = .str (gt rs (·.b) w) := gt_of (f := (·.b)) hb
          have o2 : oD (rowOf rs (gt rs (·.b) w)).i = .str (gt rs (·.i) (gt rs (·.b) w)) := gt_of (f := (·.i)) c.1
          simp [shop_row (h.mem w hw), r1, o1, shop_row t1.1, o2]
      have s8 : g__law_turns_right_s8 (tS rs ws (some (.val (.lst [outB rs (·.b) "back" ws, outB rs (·.i) "mirror" ws]))) O none none) pt = .ok (.nx (tS rs ws (some (.val (.lst [outB rs (·.b) "back" ws, outB rs (·.i) "mirror" ws]))) O (some (.val (.lst [.tup (F.map .str), .tup (F.map .str)]))) none)) pt := by
        unfold g__law_turns_right_s8
        generalize (ws.reverse.map (gt rs (·.b))).map D.str = U1 at c1 kb
        generalize (ws.reverse.map (gt rs (·.i))).map D.str = U2 at c2 ki
        simp [kb, ki, c1, c2]
      have s9 : g__law_turns_right_s9 (tS rs ws (some (.val (.lst [outB rs (·.b) "back" ws, outB rs (·.i) "mirror" ws]))) O (some (.val (.lst [.tup (F.map .str), .tup (F.map .str)]))) none) pt = .ok (.nx (tS rs ws (some (.val (.lst [outB rs (·.b) "back" ws, outB rs (·.i) "mirror" ws]))) O (some (.val (.lst [.tup (F.map .str), .tup (F.map .str)]))) (some (.val (.tup (F.map .str)))))) pt := by
        unfold g__law_turns_right_s9
        simp [noOwn, fw, tupF, listF, seqOf]
      have s10 : g__law_turns_right_s10 (tS rs ws (some (.val (.lst [outB rs (·.b) "back" ws, outB rs (·.i) "mirror" ws]))) O (some (.val (.lst [.tup (F.map .str), .tup (F.map .str)]))) (some (.val (.tup (F.map .str))))) pt = .ok (.rt (.bl true)) pt := by
        unfold g__law_turns_right_s10
        simp [pair_eq okF]
      rw [e_seqS, s8, e_bndok, e_seqK, e_seqS, s9, e_bndok, e_seqK, s10]
      rfl
end
end LW

set_option Elab.async false
set_option linter.all false
set_option maxRecDepth 100000
set_option maxHeartbeats 4000000
namespace LW
open PySem L2 DF
section
variable {rs : List Row} {pt : Pot} {ws : List Str}
/-! ### the names in sequence -/
theorem keys_shop : ∀ rs : List Row, strKeys (shopD rs) = some (rs.map (·.n))
  | [] => rfl
  | r :: rs => by
    have ih := keys_shop rs
    unfold shopD at ih ⊢
    simp only [List.map_cons, strKeys, ih]
    rfl
theorem sorted1 (B : Bk rs) : ∃ ls : List Str, (∀ p, sortDct [.dcf (shopD rs)] p = .ok (ls.map .str) p) ∧ ls.Perm (rs.map (·.n)) := by
  refine ⟨(srtK ((rs.map (·.n)).map fun x => (x, ()))).map (·.1), fun p => ?_, ?_⟩
  · show opt ((dctOf (.dcf (shopD rs))).bind _) p = _
    show opt ((strKeys (shopD rs)).bind _) p = _
    rw [keys_shop, Option.bind_some]
    unfold sortS
    rw [if_pos ⟨B.nd, by rw [List.length_map, B.len]; decide⟩]
    rfl
  · have := (srtK_perm ((rs.map (·.n)).map fun x => (x, ()))).map (·.1)
    have e : ∀ l : List Str, (l.map fun x => (x, ())).map (·.1) = l := fun l => by
      rw [List.map_map]
      exact List.map_id l
    rw [e] at this
    exact this
/-! ### kinds -/
theorem kindm (nd : (rs.map (·.n)).Nodup) {w : Str} (h : w ∈ rs.map (·.n)) : m_Book_kind [bookD rs, .str w] pt = .ok (kindD (rowOf rs w)) pt := by
  unfold m_Book_kind g_Book_kind
  rw [e_fnM]
  simp [ini, ctn1 nd h, found_row nd h]
theorem o_eq (x : Option Str) : dEq (oD x) (oD x) = some (.bl true) := by
  cases x with
  | none => rfl
  | some y => simp
theorem t3_eq (a b c : Int) : dNe (.tup [.int a, .int b, .int c]) (.tup [.int a, .int b, .int c]) = some (.bl false) := by
  have c1 : SeqAt.shaped (.tuple [.int a, .int b, .int c]) = true := shp_tup rfl (by simp [PyData.depthAll, PyData.depth])
  unfold dNe
  rw [eqP_tup (xs := [.int a, .int b, .int c]) (ys := [.int a, .int b, .int c]) rfl rfl c1 c1, SeqAt.eqv_refl _ (SeqAt.canLay_of_shaped c1)]
  rfl
theorem kind_eq (r : Row) : m_Kindzz_eqzz [kindD r, kindD r] pt = .ok (.bl true) pt := by
  unfold m_Kindzz_eqzz g_Kindzz_eqzz
  rw [e_fnM]
  simp [ini, kindD, t3_eq, o_eq]
theorem row_repr (B : Bk rs) {r : Row} (hr : r ∈ rs) : ∃ t, reprG [.tup [.str r.n, .int r.t, .int r.m, oD r.b, oD r.i, .int r.y]] = some (.str t) := by
  have rp : ∀ w ∈ rs.map (·.n), (reprText w).length ≤ 10 := fun w hw => ten_rp w (B.nm w hw)
  have hn := rp r.n (List.mem_map.mpr ⟨r, hr, rfl⟩)
  have os : ∀ o : Option Str, (∀ x, o = some x → x ∈ rs.map (·.n)) → ∃ x, shD (oD o) = some x ∧ Shw x 0 2000 := fun o ho => by
    cases o with
    | none => exact ⟨.none, rfl, shw_non.up (by decide) (by decide)⟩
    | some x => exact ⟨.str x, rfl, (shw_str (rp x (ho x rfl))).up (by decide) (by decide)⟩
  have cl := B.pre.cl r hr
  have sz := B.pre.sz r hr
  have y := B.pre.y r hr
  obtain ⟨xb, eb, hb⟩ := os r.b fun x e => by
    obtain ⟨s, hs, rfl, _⟩ := cl.bk x e
    exact List.mem_map.mpr ⟨s, hs, rfl⟩
  obtain ⟨xi, ei, hi⟩ := os r.i fun x e => by
    obtain ⟨s, hs, rfl, _⟩ := cl.mi x e
    exact List.mem_map.mpr ⟨s, hs, rfl⟩
  refine repr_of (x := .tuple [.str r.n, .int r.t, .int r.m, xb, xi, .int r.y]) (.inl ⟨_, rfl⟩) ?_ (shw_tup (d := 0) (L := 2000) fun z hz => ?_) (by decide) (by simp)
  · simp [shD, shL, eb, ei]
  · simp only [List.mem_cons, List.not_mem_nil, or_false] at hz
    have a0 := sz.t0; have a1 := sz.t6; have a2 := sz.m0; have a3 := sz.m6
    rcases hz with rfl | rfl | rfl | rfl | rfl | rfl
    · exact (shw_str hn).up (by decide) (by decide)
    · exact shw_int a0 (by omega)
    · exact shw_int a2 (by omega)
    · exact hb
    · exact hi
    · exact shw_int y.1 (by omega)
theorem kinds_b1 (B : Bk rs) {w : Str} (hw : w ∈ rs.map (·.n)) {a b c d : Option SV} : ∃ a' b' c' d', g__law_kinds_right_b1 [some (.val (bookD rs)), some (.val (.dcf (shopD rs))), some (.val (.str w)), a, b, c, d] pt = .ok (.nx [some (.val (bookD rs)), some (.val (.dcf (shopD rs))), some (.val (.str w)), a', b', c', d']) pt := by
  obtain ⟨h1, h2⟩ := row_in hw
  have km := kindm (pt := pt) B.nd hw
  have sr := shop_row hw
  have bk := bk_kind (pt := pt) B h1
  have ke := kind_eq (pt := pt) (rowOf rs w)
  obtain ⟨t, et⟩ := row_repr B h1
  generalize rowOf rs w = r at *
  subst h2
  have kd : kindD r = .obj 0 [.str r.n, .int r.t, .int r.m, oD r.b, oD r.i, .int r.y] := rfl
  have rd : rowD r = .tup [.int r.t, .int r.m, oD r.b, oD r.i, .int r.y] := rfl
  rw [kd] at km ke
  rw [rd] at sr
  refine ⟨some (.val (kindD r)), some (.val (rowD r)), some (.val (.tup [.str r.n, .int r.t, .int r.m, oD r.b, oD r.i, .int r.y])), some (.val (kindD r)), ?_⟩
  rw [kd, rd]
  unfold g__law_kinds_right_b1
  simp [DF.pick, km, sr, tCat, et, ke, bk]
theorem kinds_loop (B : Bk rs) : ∀ (ls : List Str) (x a b c d : Option SV), (∀ w ∈ ls, w ∈ rs.map (·.n)) →
    ∃ x' a' b' c' d', forL (tgN 2) g__law_kinds_right_b1 (ls.map .str) [some (.val (bookD rs)), some (.val (.dcf (shopD rs))), x, a, b, c, d] pt = .ok (.nx [some (.val (bookD rs)), some (.val (.dcf (shopD rs))), x', a', b', c', d']) pt
  | [], x, a, b, c, d, _ => ⟨x, a, b, c, d, rfl⟩
  | w :: ls, x, a, b, c, d, h => by
    obtain ⟨a1, b1, c1, d1, e1⟩ := kinds_b1 (pt := pt) B (h w List.mem_cons_self) (a := a) (b := b) (c := c) (d := d)
    obtain ⟨x2, a2, b2, c2, d2, e2⟩ := kinds_loop B ls (some (.val (.str w))) a1 b1 c1 d1 fun v hv => h v (List.mem_cons_of_mem _ hv)
    refine ⟨x2, a2, b2, c2, d2, ?_⟩
    rw [List.map_cons, e_forL]
    simp [e1, e2]
theorem kinds1 (B : Bk rs) : m__law_kinds_right [bookD rs, .dcf (shopD rs)] pt = .ok (.bl true) pt := by
  obtain ⟨ls, es, pm⟩ := sorted1 B
  obtain ⟨x, a, b, c, d, e⟩ := kinds_loop (pt := pt) B ls none none none none none fun w hw => pm.mem_iff.mp hw
  unfold m__law_kinds_right g__law_kinds_right
  rw [e_fnM]
  simp [ini, es, e]
end
end LW

set_option Elab.async false
set_option linter.all false
set_option maxRecDepth 100000
set_option maxHeartbeats 4000000
namespace LW
open PySem L2 DF
section
variable {rs : List Row} {pt : Pot} {ws : List Str}
/-! ### a drawn word -/
theorem picks {e : Slots → M D} {ρ : Slots} {xs : List Str} (hi : 5 < ρ.length) (h0 : ρ[0]? = some (some (.val .pot))) (he : ∀ d p, e (ρ.set 5 (some (.val d))) p = .ok (.lst (xs.map .str)) p) (hx : 0 < xs.length) (hx2 : xs.length ≤ 1000) : ∀ (items acc : List D) (pt : Pot), Pt pt → acc.length + items.length ≤ 1000 →
    ∃ (ws : List Str) (q : Pot), ws.length = items.length ∧ (∀ w ∈ ws, w ∈ xs) ∧ Pt q ∧ compL (tgN 5) yesT (callE 2 m__law_pick [] (consA (varE 0) (consA e nilA))) ρ items acc pt = .ok (acc ++ ws.map .str) q
  | [], acc, pt, h, _ => ⟨[], pt, rfl, by simp, h, by simp⟩
  | d :: L, acc, pt, h, hl => by
    obtain ⟨z, p1, e1, hz, h1⟩ := pick1 h (xs.map .str) (by simpa using hx) (by simp; omega)
    obtain ⟨w, hw, rfl⟩ := List.mem_map.mp hz
    simp only [List.length_cons] at hl
    obtain ⟨ns, q, l1, hns, hq, e2⟩ := picks hi h0 he hx hx2 L (acc ++ [.str w]) p1 h1 (by simp; omega)
    refine ⟨w :: ns, q, by simp [l1], ?_, hq, ?_⟩
    · intro m hm
      rcases List.mem_cons.mp hm with rfl | hm
      · exact hw
      · exact hns m hm
    · have hlt : acc.length < 100000 := by omega
      have g0 : (ρ.set 5 (some (.val d)))[0]? = some (some (.val .pot)) := by
        rw [List.getElem?_set_ne (by decide)]
        exact h0
      have st : callE 2 m__law_pick [] (consA (varE 0) (consA e nilA)) (ρ.set 5 (some (.val d))) pt = .ok (.str w) p1 := by
        rw [e_call, e_consA, e_var, g0]
        simp only [e_val, e_some, e_bndok, e_bnd, e_consA, he, e_nilA, e_ret]
        simp [e1]
      rw [e_compL, e_tgN, if_pos hi, e_some, e_bndok, e_bnd, e_noX, e_yesT, e_noXok, e_bndok, if_pos rfl, e_bnd, e_noX, st, e_noXok, e_bndok, if_pos hlt, e2]
      simp
theorem rng_nat (k : Nat) (h : k < 1000) : rng1 [.int (k : Int)] = some ((List.range k).map fun (j : Nat) => .int (0 + (j : Int))) := by
  unfold rng1
  dsimp only
  rw [if_pos (by constructor <;> omega), Int.toNat_natCast]
theorem rng_draw {n : Int} {ρ : Slots} (h : Pt pt) (h0 : 0 < n) (h1 : n < 100) (hρ : ρ[0]? = some (some (.val .pot))) : ∃ (k : Nat) (L : List D) (q : Pot), 0 < k ∧ (k : Int) ≤ n ∧ L.length = k ∧ Pt q ∧
    itA rng1 (consA (binE addU (cE (.int 1)) (callE 2 m__law_draw [] (consA (varE 0) (consA (cE (.int n)) nilA)))) nilA) ρ pt = .ok L q := by
  obtain ⟨z, q, e, z0, z1, hq⟩ := draw1 (n := n) h h0 (by omega)
  obtain ⟨m, rfl⟩ : ∃ m : Nat, z = (m : Int) := ⟨z.toNat, by omega⟩
  refine ⟨m + 1, (List.range (m + 1)).map fun (j : Nat) => .int (0 + (j : Int)), q, by omega, by omega, ?_, hq, ?_⟩
  · simp
  · have e2 : consA (binE addU (cE (.int 1)) (callE 2 m__law_draw [] (consA (varE 0) (consA (cE (.int n)) nilA)))) nilA ρ pt = .ok [.int ((m + 1 : Nat) : Int)] q := by
      rw [e_consA, e_binE, e_c, e_bndok, e_bnd, e_call, e_consA, e_var, hρ]
      simp only [e_val, e_some, e_bndok, e_bnd, e_consA, e_c, e_nilA, e_ret, List.append_nil, List.length_cons, List.length_nil]
      rw [if_pos (by decide), e]
      simp only [e_bndok, e_addI, e_ret]
      rw [show (1 : Int) + (m : Int) = ((m + 1 : Nat) : Int) by omega]
      rfl
    rw [e_itA, e2, e_bndok, rng_nat (m + 1) (by omega), e_some]
theorem rep_one (w : Str) (k : Nat) : (List.replicate k [D.str w]).flatten = (List.replicate k w).map .str := by
  induction k with
  | zero => rfl
  | succ k ih => simp [List.replicate_succ, ih]
theorem long1 (B : Bk rs) (hp : Pt pt) : ∃ ws q, m__law_long [.pot, .dcf (shopD rs)] pt = .ok (.tup (ws.map .str)) q ∧ Wd rs ws ∧ Pt q := by
  obtain ⟨ls, es, pm⟩ := sorted1 B
  have hls : ls.length = 10 := by rw [pm.length_eq, List.length_map, B.len]
  obtain ⟨w, q1, e1, w0, w6, hq1⟩ := draw1 (n := 6) hp (by decide) (by decide)
  have s1 : g__law_long_s1 [some (.val .pot), some (.val (.dcf (shopD rs))), none, none, none, none] pt = .ok (.nx [some (.val .pot), some (.val (.dcf (shopD rs))), some (.val (.lst (ls.map .str))), some (.val (.int w)), none, none]) q1 := by
    unfold g__law_long_s1
    simp [es, e1]
  obtain ⟨k, L, q2, k0, k3, hL, hq2, e2⟩ := rng_draw (n := 3) (ρ := [some (.val .pot), some (.val (.dcf (shopD rs))), some (.val (.lst (ls.map .str))), some (.val (.int w)), none, none]) hq1 (by decide) (by decide) rfl
  obtain ⟨so, q3, so1, so2, hq3, e3⟩ := picks (e := varE 2) (ρ := [some (.val .pot), some (.val (.dcf (shopD rs))), some (.val (.lst (ls.map .str))), some (.val (.int w)), none, none]) (xs := ls) (by simp) rfl (fun d p => by simp) (by omega) (by omega) L [] q2 hq2 (by simp; omega)
  rw [List.nil_append] at e3
  have s2 : g__law_long_s2 [some (.val .pot), some (.val (.dcf (shopD rs))), some (.val (.lst (ls.map .str))), some (.val (.int w)), none, none] q1 = .ok (.nx [some (.val .pot), some (.val (.dcf (shopD rs))), some (.val (.lst (ls.map .str))), some (.val (.int w)), some (.val (.lst (so.map .str))), none]) q3 := by
    unfold g__law_long_s2
    rw [e_asgS, e_boxE, e_comp, e2, e_bndok, if_pos (by rfl)]
    show bndR (bndR (compL (tgN 5) yesT (callE 2 m__law_pick [] (consA (varE 0) (consA (varE 2) nilA))) [some (.val .pot), some (.val (.dcf (shopD rs))), some (.val (.lst (ls.map .str))), some (.val (.int w)), none, none] L [] q2) _) _ = _
    rw [e3]
    simp
  have inn : ∀ x ∈ so, x ∈ rs.map (·.n) := fun x hx => pm.mem_iff.mp (so2 x hx)
  unfold m__law_long g__law_long
  show ∃ ws q, fnM 6 _ [.pot, .dcf (shopD rs)] pt = _ ∧ _
  rw [e_fnM]
  show ∃ ws q, bndR (seqS _ _ [some (.val .pot), some (.val (.dcf (shopD rs))), none, none, none, none] pt) finK = _ ∧ _
  rw [e_seqS, s1, e_bndok, e_seqK, e_seqS, s2, e_bndok, e_seqK]
  by_cases c0 : w = 0
  · refine ⟨[], q3, ?_, ⟨by simp, by simp⟩, hq3⟩
    subst c0
    simp [g__law_long_s3]
  have s3 : g__law_long_s3 [some (.val .pot), some (.val (.dcf (shopD rs))), some (.val (.lst (ls.map .str))), some (.val (.int w)), some (.val (.lst (so.map .str))), none] q3 = .ok (.nx [some (.val .pot), some (.val (.dcf (shopD rs))), some (.val (.lst (ls.map .str))), some (.val (.int w)), some (.val (.lst (so.map .str))), none]) q3 := by
    unfold g__law_long_s3
    simp [c0]
  rw [e_seqS, s3, e_bndok, e_seqK]
  by_cases c1 : w = 1
  · obtain ⟨d, q4, e4, hd, hq4⟩ := pick1 hq3 [.int 1, .int 2, .int 239, .int 240] (by decide) (by decide)
    obtain ⟨v, so', rfl⟩ : ∃ v so', so = v :: so' := by
      cases so with
      | nil => simp at so1; omega
      | cons v so' => exact ⟨v, so', rfl⟩
    obtain ⟨n, rfl, hn⟩ : ∃ n : Nat, d = .int (n : Int) ∧ n ≤ 240 := by
      simp only [List.mem_cons, List.not_mem_nil, or_false] at hd
      rcases hd with rfl | rfl | rfl | rfl
      · exact ⟨1, rfl, by decide⟩
      · exact ⟨2, rfl, by decide⟩
      · exact ⟨239, rfl, by decide⟩
      · exact ⟨240, rfl, by decide⟩
    have mu : mulU (.lst [.str v]) (.int (n : Int)) q4 = .ok (.lst ((List.replicate n v).map .str)) q4 := by
      show orM (pu iMul) (boxM lRep) _ _ q4 = _
      rw [e_orM]
      show boxM lRep (.lst [.str v]) (.int (n : Int)) q4 = _
      show bnd (lRep (.lst [.str v]) (.int (n : Int))) _ q4 = _
      rw [e_bnd]
      show bndR ((if (0 : Int) ≤ (n : Int) ∧ (n : Int) ≤ 1000 ∧ [D.str v].length ≤ 100 then ret (List.replicate ((n : Int)).toNat [D.str v]).flatten else fail) q4) _ = _
      rw [if_pos ⟨by omega, by omega, by simp⟩, Int.toNat_natCast, rep_one]
      rfl
    refine ⟨List.replicate n v, q4, ?_, ⟨by simpa using hn, fun x hx => ?_⟩, hq4⟩
    · have s4 : g__law_long_s4 [some (.val .pot), some (.val (.dcf (shopD rs))), some (.val (.lst (ls.map .str))), some (.val (.int w)), some (.val (.lst ((v :: so').map .str))), none] q3 = .ok (.rt (.tup ((List.replicate n v).map .str))) q4 := by
        generalize (List.replicate n v).map D.str = Z at mu
        unfold g__law_long_s4
        simp [c1, e4, mu, tupF, listF, seqOf]
      rw [e_seqS, s4]
      rfl
    · rw [(List.mem_replicate.mp hx).2]
      exact inn v List.mem_cons_self
  have s4 : g__law_long_s4 [some (.val .pot), some (.val (.dcf (shopD rs))), some (.val (.lst (ls.map .str))), some (.val (.int w)), some (.val (.lst (so.map .str))), none] q3 = .ok (.nx [some (.val .pot), some (.val (.dcf (shopD rs))), some (.val (.lst (ls.map .str))), some (.val (.int w)), some (.val (.lst (so.map .str))), none]) q3 := by
    unfold g__law_long_s4
    simp [c1]
  rw [e_seqS, s4, e_bndok, e_seqK]
  obtain ⟨k', L', q5, k0', k3', hL', hq5, e5⟩ := rng_draw (n := 12) (ρ := [some (.val .pot), some (.val (.dcf (shopD rs))), some (.val (.lst (ls.map .str))), some (.val (.int w)), some (.val (.lst (so.map .str))), none]) hq3 (by decide) (by decide) rfl
  have ch : ∃ xs : List Str, 0 < xs.length ∧ xs.length ≤ 1000 ∧ (∀ x ∈ xs, x ∈ rs.map (·.n)) ∧ ∀ (d : D) (p : Pot), ifE (testE (binE (pu iLt) (bvarE 3) (cE (.int 4)))) (varE 4) (varE 2) ([some (.val .pot), some (.val (.dcf (shopD rs))), some (.val (.lst (ls.map .str))), some (.val (.int w)), some (.val (.lst (so.map .str))), (none : Option SV)].set 5 (some (.val d))) p = .ok (.lst (xs.map .str)) p := by
    by_cases c4 : w < 4
    · exact ⟨so, by omega, by omega, inn, fun d p => by simp [c4]⟩
    · exact ⟨ls, by omega, by omega, fun x hx => pm.mem_iff.mp hx, fun d p => by simp [c4]⟩
  obtain ⟨xs, x0, x1, x2, xe⟩ := ch
  obtain ⟨ws, q6, l6, in6, hq6, e6⟩ := picks (ρ := [some (.val .pot), some (.val (.dcf (shopD rs))), some (.val (.lst (ls.map .str))), some (.val (.int w)), some (.val (.lst (so.map .str))), none]) (by simp) rfl xe x0 x1 L' [] q5 hq5 (by simp; omega)
  rw [List.nil_append] at e6
  refine ⟨ws, q6, ?_, ⟨by omega, fun x hx => x2 x (in6 x hx)⟩, hq6⟩
  unfold g__law_long_s5
  rw [e_retS, e_blt, e_consA, e_boxE, e_comp, e5, e_bndok, if_pos (by rfl)]
  show bndR (bndR (bndR (bndR (bndR (compL (tgN 5) yesT (callE 2 m__law_pick [] (consA (varE 0) (consA (ifE (testE (binE (pu iLt) (bvarE 3) (cE (.int 4)))) (varE 4) (varE 2)) nilA))) [some (.val .pot), some (.val (.dcf (shopD rs))), some (.val (.lst (ls.map .str))), some (.val (.int w)), some (.val (.lst (so.map .str))), none] L' [] q5) _) _) _) _) finK = _
  rw [e6]
  simp [tupF, listF, seqOf]
end
/-! ### the law's body -/
theorem right_part {rs : List Row} {pt : Pot} (B : Bk rs) (hp : Pt pt) {x : D} {a b : Option SV} : ∃ a' b' q, g__law_right_b2 [some (.val .pot), some (.val (.dcf (shopD rs))), some (.val (bookD rs)), some (.val x), a, b] pt = .ok (.nx [some (.val .pot), some (.val (.dcf (shopD rs))), some (.val (bookD rs)), some (.val x), a', b']) q ∧ Pt q := by
  obtain ⟨ws, q, e, h, hq⟩ := long1 B hp
  refine ⟨some (.val (.tup (ws.map .str))), some (.val (.int 1)), q, ?_, hq⟩
  have two_ : rng1 [.int 2] = some [.int 0, .int 1] := by rfl
  have st : ∀ j : Int, g__law_right_b1 [some (.val .pot), some (.val (.dcf (shopD rs))), some (.val (bookD rs)), some (.val x), some (.val (.tup (ws.map .str))), some (.val (.int j))] q = .ok (.nx [some (.val .pot), some (.val (.dcf (shopD rs))), some (.val (bookD rs)), some (.val x), some (.val (.tup (ws.map .str))), some (.val (.int j))]) q := fun j => by
    unfold g__law_right_b1
    simp [sums1 B h, turns1 B h]
  unfold g__law_right_b2
  simp [e, two_, st]
theorem good : Good m__law_right := by
  intro pt hp
  obtain ⟨z, q0, e0, _, _, hq0⟩ := draw1 (n := 2) hp (by decide) (by decide)
  obtain ⟨rs, q1, e1, B, hq1⟩ := book1 hq0 (decide (z = 0))
  obtain ⟨a1, b1, q2, s1, hq2⟩ := right_part (x := .int 0) (a := none) (b := none) B hq1
  obtain ⟨a2, b2, q3, s2, hq3⟩ := right_part (x := .int 1) (a := a1) (b := b1) B hq2
  obtain ⟨a3, b3, q4, s3, hq4⟩ := right_part (x := .int 2) (a := a2) (b := b2) B hq3
  obtain ⟨a4, b4, q5, s4, hq5⟩ := right_part (x := .int 3) (a := a3) (b := b3) B hq4
  refine ⟨q5, ?_, hq5⟩
  unfold m__law_right g__law_right g__law_right_s1 g__law_right_s2 g__law_right_s3 g__law_right_s4
  rw [e_fnM]
  simp [ini, e0, e1, real1 B, four, s1, s2, s3, s4, kinds1 B]
end LW

set_option Elab.async false
set_option linter.all false
set_option maxRecDepth 100000
set_option maxHeartbeats 0
namespace LW
open PySem PySem.Spec PyProof.Rows L2 DF
abbrev R_ : PySem.W.OpenRow := PySem.W.OpenLaw.row PySem.Challenge.rw_stitchsizes_k11_whole_words_of_a_book
abbrev hk_ : PySem.W.Hook := hookY 6 oks fns tfs_
def ob_ (s : PySem.W.SharedT) : AlY := obsYG 6 oks fns tfs_ (HandSHeadRun.getT s)
theorem ob_eq (s : PySem.W.SharedT) : ob_ s = hk_.obs s.abs := obsYG_eq (HandSHeadRun.getT_eq s)
def loose_ : List Str := "_wall" :: "LETTERS" :: "MOST_SIGNS" :: "is_integer" :: "is_within" :: "is_name" :: "StitchError" :: "InvalidName" :: "InvalidNumber" :: "InvalidKind" :: "InvalidBook" :: "InvalidWord" :: "MissingError" :: "UnknownKind" :: "NoBack" :: "NoMirror" :: "LimitError" :: "TooMany" :: "MOST_LOOPS" :: "MOST_YARN" :: "MOST_KINDS" :: "MOST_NAMES" :: "Kind" :: "is_taken" :: "is_same_size" :: "has_wrong_back" :: "has_wrong_mirror" :: "is_crossed" :: "check_kinds" :: "Book" :: "loops_taken" :: "loops_made" :: "yarn_needed" :: "names_behind" :: "names_in_mirror" :: "_law_pot" :: "_law_draw" :: "_law_pick" :: "_law_mixed" :: "_law_group" :: "_law_book" :: "_law_real_book" :: "_law_long" :: "_law_backward" :: "_law_heard" :: "_law_sums_right" :: "_law_turns_right" :: "_law_kinds_right" :: "_law_right" :: "__name__" :: []
theorem run_ (w : World) : HandSHeadRun.RunEq R_ (PySem.W.view R_.prog [53]) hk_ ob_ 6000 loose_ w := by
  intro os
  kernel_rfl
theorem tb_in {K : PySem.W.Frag} (q : Addr × Str) (hq : q ∈ (tbOf cls_ tabs_ K).tb) : ∃ p ∈ tfs_, (He.cT K p).2 = q.1 := by
  have e : (tbOf cls_ tabs_ K).tb.map (fun z => z.1) = tfs_.map fun p => (He.cT K p).2 := rfl
  have h : q.1 ∈ (tbOf cls_ tabs_ K).tb.map (fun z => z.1) := List.mem_map.mpr ⟨q, hq, rfl⟩
  rw [e] at h
  obtain ⟨p, hp, e2⟩ := List.mem_map.mp h
  exact ⟨p, hp, e2⟩
theorem facts_ {P : Program} {w : World} {K : PySem.W.Frag} {h : Heap} {mg : Str → Option Value} {f : Addr} (X : K.In h) (G : h.Ns mainGlobals mg) (hfa : mg ("law" : Str) = some (.ref f)) (c : SaysZ oks fns K) :
    ∃ fd : FuncData, (∀ (s : Shared) (v : Value), BindsTo s fd ⟨[v], []⟩ [("_law_script", v)]) ∧ ∀ base : Heap, K.In base → base.Ns mainGlobals mg → TBs K mg base → FnG True P w K mg base (L2.CX P w) 11 f fd ["_law_script"] (spLaw K (tbOf cls_ tabs_ K)) := by
  have t : TX K mg := ⟨c, h, X, G⟩
  have e := hfa.symm.trans (t.glo (x := "law") 126)
  cases e
  have b := FunD.bindsA (ps := ["_law_script"]) (u_law t) fun _ _ _ _ _ _ us hl => match us, hl with | [_], _ => rfl
  exact ⟨_, fun s v => b s [v] rfl, fun base _ _ tB => ok_law good t tB (t.free (x := "len") 4) (t.free (x := "max") 127) (t.free (x := "min") 128) (t.free (x := "abs") 129) (t.free (x := "int") 2) (t.free (x := "range") 7) (t.glo (x := "_law_pot") 125) (t.glo (x := "_law_right") 130)⟩
end LW
open PySem PySem.W PySem.Calls PyProof.Rows
theorem PySem.Challenge.cw_stitchsizes_k11_whole_words_of_a_book_holds : PySem.Challenge.rw_stitchsizes_k11_whole_words_of_a_book.Holds := by
  w_on; o_law
  refine HandSHeadRun.head_any (r := OpenLaw.row PySem.Challenge.rw_stitchsizes_k11_whole_words_of_a_book) (q := view (OpenLaw.row PySem.Challenge.rw_stitchsizes_k11_whole_words_of_a_book).prog [53]) (H := LW.hk_) (ob := LW.ob_) (M := 6000) (loose := LW.loose_) (d := HandSHeadRun.topDef (OpenLaw.row PySem.Challenge.rw_stitchsizes_k11_whole_words_of_a_book).prog 53) (kwd := []) LW.ob_eq
    (by kernel_rfl) (fun s => by kernel_rfl) LW.run_ (by kernel_rfl) (by kernel_rfl) (by kernel_rfl) (by rfl) (by first | assumption | decide +kernel) (by decide +kernel) ⟨rfl, rfl, rfl, rfl, rfl, by decide +kernel⟩ ?hw ?hc
  case hw => w_witness2
  case hc =>
    refine DF.walkG (lw := PySem.Challenge.rw_stitchsizes_k11_whole_words_of_a_book) (k := 11) (x := "_law_script") rfl (by kernel_rfl) ⟨rfl, by decide, by decide⟩ ?F
    intro w mg fa h Y G hmg0
    obtain ⟨K, KX, c⟩ := Y
    have hmg : mg ("law" : PySem.Str) = some (.ref fa) := by
      have e : (HandSHeadRun.topDef (OpenLaw.row PySem.Challenge.rw_stitchsizes_k11_whole_words_of_a_book).prog 53).name = ("law" : PySem.Str) := by kernel_rfl
      rw [← e]
      exact hmg0
    obtain ⟨fd, hb, hF⟩ := LW.facts_ (P := (PySem.Challenge.rw_stitchsizes_k11_whole_words_of_a_book).prog) (w := w) KX G hmg c.z
    refine ⟨K, fd, LW.tfs_.map (He.cT K), DF.tbOf LW.cls_ LW.tabs_ K, KX, fun p hp => ?_, fun p hp => ?_, fun p hp => ?_, fun q hq => ?_, hb, fun bb k1 k2 k3 => hF bb k1 k2 fun i p hi => k3 _ (List.mem_map.mpr ⟨p, List.mem_of_getElem? hi, rfl⟩)⟩
    · obtain ⟨q, hq, e⟩ := List.mem_map.mp hp
      exact e ▸ c.em q hq
    · obtain ⟨q, hq, e⟩ := List.mem_map.mp hp
      exact e ▸ c.out q hq
    · obtain ⟨q, hq, e⟩ := List.mem_map.mp hp
      exact e ▸ PySem.W.codeHd_of_K KX (c.hd q hq)
    · obtain ⟨p, hp, e⟩ := LW.tb_in q hq
      exact ⟨_, List.mem_map.mpr ⟨p, hp, rfl⟩, e⟩

