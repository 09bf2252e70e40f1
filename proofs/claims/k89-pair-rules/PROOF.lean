import PyProof.Rows.All
import Wide.All
import OpenK.AllK
import Wide.FinOn
import HandS.ForMost
import HandS.ForExc
import HandS.Evl
import HandS.SetKeys
import HandS.Conv
import HandS.IsInst
import HandS.Style
import HandS.Deep
import HandS.NoneIn
import HandS.TupAny
import HandS.CallSlots
import HandS.ExcField
import HandS.ExcIs
import KE.GoesEnum
import KE.RegKSuper
import KE.KExcSuper
import HandS.ExcSuper
import HandS.Nested
import KE.KIsAll
import KE.KTryMore
import KE.KRevSl
import HandS.Text
import HandS.StrMore
import HandS.ClsMeth
import HandS.Defaults
import HandS.TryOnly
import PySem.Challenge.RW_adjoinedtongues_k89_pair_rules_limits_an
import PyProof.Rows.StrFirst
import PyProof.Rows.StrLast
import KE.RegKIsAll
import KE.RegKTryMore
set_option Elab.async false
set_option linter.all false
set_option maxRecDepth 100000
set_option maxHeartbeats 4000000
/-! LD: the data layer. What a Python program reckons with is told by plain data (Dt); the heap stays behind (Conc). -/
namespace LD
open PySem L2

/-! ### data -/
inductive Dt where
  | non | bl (b : Bool) | int (i : Int) | str (s : Str) | ty (n : String)
  | lst (ds : List Dt) | tup (ds : List Dt)
  | dK (es : List (Key × Dt)) | dT (es : List (List Key × Dt))
  | ins (C : Addr) (es : List (Str × Dt))
  | obj (a : Addr)
  | xd (fs : List (Str × V))

/-! a value is such data, by the part G of the heap that stands still -/
mutual
inductive Rp (G : Hp) : V → Dt → Prop
  | non : Rp G .non .non
  | bl (b : Bool) : Rp G (.bl b) (.bl b)
  | int (i : Int) : Rp G (.int i) (.int i)
  | str (x : Str) : Rp G (.str x) (.str x)
  | ty (n : String) : Rp G (.ty n) (.ty n)
  | obj (a : Addr) : Rp G (.ref a) (.obj a)
  | xd {a : Addr} {fs : List (Str × V)} : G a = some (.xd fs) → Rp G (.ref a) (.xd fs)
  | lst {a : Addr} {xs : List V} {ds : List Dt} : G a = some (.lst xs) → RpAll G xs ds → Rp G (.ref a) (.lst ds)
  | tup {a : Addr} {xs : List V} {ds : List Dt} : G a = some (.tup xs) → RpAll G xs ds → Rp G (.ref a) (.tup ds)
  | dK {a : Addr} {kvs : List (Key × V)} {es : List (Key × Dt)} : G a = some (.dK kvs) → kvs.map (·.1) = es.map (·.1) → RpAll G (kvs.map (·.2)) (es.map (·.2)) → Rp G (.ref a) (.dK es)
  | dT {a : Addr} {kvs : List (List Key × V)} {es : List (List Key × Dt)} : G a = some (.dT kvs) → kvs.map (·.1) = es.map (·.1) → RpAll G (kvs.map (·.2)) (es.map (·.2)) → Rp G (.ref a) (.dT es)
  | ins {a C dx : Addr} {fs : List (Str × V)} {es : List (Str × Dt)} : G a = some (.ins C dx fs) → fs.map (·.1) = es.map (·.1) → RpAll G (fs.map (·.2)) (es.map (·.2)) → Rp G (.ref a) (.ins C es)
inductive RpAll (G : Hp) : List V → List Dt → Prop
  | nil : RpAll G [] []
  | cons {v : V} {vs : List V} {d : Dt} {ds : List Dt} : Rp G v d → RpAll G vs ds → RpAll G (v :: vs) (d :: ds)
end
abbrev Ex := Evl.Ex

mutual
theorem Rp.mono {G G' : Hp} (e : Ex G G') : ∀ {v : V} {d : Dt}, Rp G v d → Rp G' v d
  | _, _, .non => .non
  | _, _, .bl b => .bl b
  | _, _, .int i => .int i
  | _, _, .str x => .str x
  | _, _, .ty n => .ty n
  | _, _, .obj a => .obj a
  | _, _, .xd h => .xd (e _ _ h)
  | _, _, .lst h r => .lst (e _ _ h) (RpAll.mono e r)
  | _, _, .tup h r => .tup (e _ _ h) (RpAll.mono e r)
  | _, _, .dK h k r => .dK (e _ _ h) k (RpAll.mono e r)
  | _, _, .dT h k r => .dT (e _ _ h) k (RpAll.mono e r)
  | _, _, .ins h k r => .ins (e _ _ h) k (RpAll.mono e r)
theorem RpAll.mono {G G' : Hp} (e : Ex G G') : ∀ {vs : List V} {ds : List Dt}, RpAll G vs ds → RpAll G' vs ds
  | _, _, .nil => .nil
  | _, _, .cons h r => .cons (Rp.mono e h) (RpAll.mono e r)
end

section
variable {G G' : Hp} {vs ws : List V} {ds es : List Dt} {v : V} {d : Dt}
theorem RpAll.length : ∀ {vs : List V} {ds : List Dt}, RpAll G vs ds → vs.length = ds.length
  | _, _, .nil => rfl
  | _, _, .cons _ r => congrArg (· + 1) (RpAll.length r)
theorem RpAll.append : ∀ {vs ws : List V} {ds es : List Dt}, RpAll G vs ds → RpAll G ws es → RpAll G (vs ++ ws) (ds ++ es)
  | _, _, _, _, .nil, s => s
  | _, _, _, _, .cons h r, s => .cons h (RpAll.append r s)
theorem RpAll.get : ∀ {vs : List V} {ds : List Dt} {i : Nat} {v : V}, RpAll G vs ds → vs[i]? = some v → ∃ d, ds[i]? = some d ∧ Rp G v d
  | _, _, _, _, .nil, e => by simp at e
  | _, _, 0, _, .cons h _, e => by simp at e; subst e; exact ⟨_, rfl, h⟩
  | _, _, i + 1, v, .cons _ r, e => by
    obtain ⟨d, h1, h2⟩ := RpAll.get (i := i) (v := v) r (by simpa using e)
    exact ⟨d, by simpa using h1, h2⟩
theorem RpAll.getD : ∀ {vs : List V} {ds : List Dt} {i : Nat} {d : Dt}, RpAll G vs ds → ds[i]? = some d → ∃ v, vs[i]? = some v ∧ Rp G v d
  | _, _, _, _, .nil, e => by simp at e
  | _, _, 0, _, .cons h _, e => by simp at e; subst e; exact ⟨_, rfl, h⟩
  | _, _, i + 1, d, .cons _ r, e => by
    obtain ⟨v, h1, h2⟩ := RpAll.getD (i := i) (d := d) r (by simpa using e)
    exact ⟨v, by simpa using h1, h2⟩
theorem RpAll.take : ∀ {vs : List V} {ds : List Dt} (n : Nat), RpAll G vs ds → RpAll G (vs.take n) (ds.take n)
  | _, _, 0, _ => .nil
  | _, _, _ + 1, .nil => .nil
  | _, _, n + 1, .cons h r => .cons h (RpAll.take n r)
theorem RpAll.drop : ∀ {vs : List V} {ds : List Dt} (n : Nat), RpAll G vs ds → RpAll G (vs.drop n) (ds.drop n)
  | _, _, 0, r => r
  | _, _, _ + 1, .nil => .nil
  | _, _, n + 1, .cons _ r => RpAll.drop n r
theorem RpAll.set : ∀ {vs : List V} {ds : List Dt} (i : Nat), Rp G v d → RpAll G vs ds → RpAll G (vs.set i v) (ds.set i d)
  | _, _, _, _, .nil => .nil
  | _, _, 0, q, .cons _ r => .cons q r
  | _, _, i + 1, q, .cons h r => .cons h (RpAll.set i q r)
theorem RpAll.reverse : ∀ {vs : List V} {ds : List Dt}, RpAll G vs ds → RpAll G vs.reverse ds.reverse
  | _, _, .nil => .nil
  | _, _, .cons h r => by
    rw [List.reverse_cons, List.reverse_cons]
    exact RpAll.append (RpAll.reverse r) (.cons h .nil)
theorem RpAll.dropLast {vs : List V} {ds : List Dt} (r : RpAll G vs ds) : RpAll G vs.dropLast ds.dropLast := by
  rw [List.dropLast_eq_take, List.dropLast_eq_take, r.length]
  exact r.take _
theorem RpAll.replicate (n : Nat) (r : RpAll G vs ds) : RpAll G (List.replicate n vs).flatten (List.replicate n ds).flatten := by
  induction n with
  | zero => exact .nil
  | succ n ih =>
    rw [List.replicate_succ, List.replicate_succ, List.flatten_cons, List.flatten_cons]
    exact r.append ih
theorem RpAll.ints : ∀ ns : List Int, RpAll G (ns.map V.int) (ns.map Dt.int)
  | [] => .nil
  | n :: ns => .cons (.int n) (RpAll.ints ns)
theorem RpAll.strs : ∀ ns : List Str, RpAll G (ns.map V.str) (ns.map Dt.str)
  | [] => .nil
  | n :: ns => .cons (.str n) (RpAll.strs ns)
/-- a looked-up entry -/
theorem look_rp {κ : Type} [DecidableEq κ] {kvs : List (κ × V)} {es : List (κ × Dt)} (hk : kvs.map (·.1) = es.map (·.1)) (r : RpAll G (kvs.map (·.2)) (es.map (·.2))) (k : κ) :
    (kvs.lookup k = none ∧ es.lookup k = none) ∨ ∃ v d, kvs.lookup k = some v ∧ es.lookup k = some d ∧ Rp G v d := by
  induction kvs generalizing es with
  | nil =>
    cases es with
    | nil => exact .inl ⟨rfl, rfl⟩
    | cons e es => simp at hk
  | cons p kvs ih =>
    cases es with
    | nil => simp at hk
    | cons e es =>
      obtain ⟨k1, v1⟩ := p
      obtain ⟨k2, d2⟩ := e
      simp only [List.map_cons, List.cons.injEq] at hk
      obtain ⟨rfl, hk⟩ := hk
      cases r with
      | cons h r =>
        by_cases q : k = k1
        · subst q
          exact .inr ⟨v1, d2, by simp [List.lookup], by simp [List.lookup], h⟩
        · have q' : (k == k1) = false := by simpa using q
          have := ih hk r
          simp only [List.lookup, q']
          exact this
end

/-- what the new part of the frozen heap may take: new addresses alone -/
def Nw (G H G2 : Hp) : Prop := ∀ a, H a ≠ none → G a = none → G2 a = none
/-- the entry's heap is as it was, but for what stands at mu -/
def Keep (mu : List Addr) (H H2 : Hp) : Prop := (∀ a o, a ∉ mu → H a = some o → H2 a = some o) ∧ ∀ a, H a ≠ none → H2 a ≠ none
/-- content of a changing object: data, or a dict of its own lists -/
inductive MO where
  | d (d : Dt)
  | dL (es : List (Key × Addr × List Dt))
/-- the addresses that a changing object takes -/
def own : Addr × MO → List Addr
  | (a, .d _) => [a]
  | (a, .dL es) => a :: es.map fun e => e.2.1

def MOk (G H : Hp) (a : Addr) : MO → Prop
  | .d (.lst ds) => ∃ xs, H a = some (.lst xs) ∧ RpAll G xs ds
  | .d (.dK es) => ∃ kvs, H a = some (.dK kvs) ∧ kvs.map (·.1) = es.map (·.1) ∧ RpAll G (kvs.map (·.2)) (es.map (·.2))
  | .d (.dT es) => ∃ kvs, H a = some (.dT kvs) ∧ kvs.map (·.1) = es.map (·.1) ∧ RpAll G (kvs.map (·.2)) (es.map (·.2))
  | .d (.ins C es) => ∃ dx fs, H a = some (.ins C dx fs) ∧ fs.map (·.1) = es.map (·.1) ∧ RpAll G (fs.map (·.2)) (es.map (·.2))
  | .d _ => False
  | .dL es => H a = some (.dK (es.map fun e => (e.1, V.ref e.2.1))) ∧ ∀ e ∈ es, G e.2.1 = none ∧ ∃ xs, H e.2.1 = some (.lst xs) ∧ RpAll G xs e.2.2

def SRp (G : Hp) : St → List (Option Dt) → Prop
  | [], [] => True
  | v :: σ, some d :: γ => (∃ x, v = some x ∧ Rp G x d) ∧ SRp G σ γ
  | _ :: σ, none :: γ => SRp G σ γ
  | _, _ => False

/-- where a def began: its frozen part, its heap, the objects that it may change -/
structure Bs where
  G0 : Hp
  H0 : Hp
  mu : List Addr
  T0 : List (V × Dt)
/-- the slots' data and the changing objects -/
structure Abs where
  γ : List (Option Dt)
  M : List (Addr × MO)
abbrev Tmp := List (V × Dt)
structure ConcG (b : Bs) (A : Abs) (T : Tmp) (σ : St) (H G : Hp) : Prop where
  g0 : Ex b.G0 G
  gh : Ex G H
  nw : Nw b.G0 b.H0 G
  kp : Keep b.mu b.H0 H
  sl : SRp G σ A.γ
  tm : ∀ p ∈ T, Rp G p.1 p.2
  mo : ∀ p ∈ A.M, G p.1 = none ∧ MOk G H p.1 p.2
  nd : (A.M.flatMap own).Nodup
  nw' : ∀ p ∈ A.M, ∀ q ∈ own p, b.H0 q = none ∨ q ∈ b.mu
  t0 : ∀ p ∈ b.T0, Rp G p.1 p.2
def Conc (b : Bs) (A : Abs) (T : Tmp) (σ : St) (H : Hp) : Prop := ∃ G, ConcG b A T σ H G

theorem SRp.mono {G G' : Hp} (e : Ex G G') : ∀ {σ : St} {γ : List (Option Dt)}, SRp G σ γ → SRp G' σ γ
  | [], [], _ => True.intro
  | v :: σ, some d :: γ, ⟨⟨x, h1, h2⟩, r⟩ => ⟨⟨x, h1, h2.mono e⟩, SRp.mono e r⟩
  | _ :: σ, none :: γ, r => SRp.mono (σ := σ) (γ := γ) e r
  | [], _ :: _, h => h.elim
  | _ :: _, [], h => h.elim
theorem SRp.get {G : Hp} : ∀ {σ : St} {γ : List (Option Dt)} {i : Nat} {d : Dt}, SRp G σ γ → γ[i]? = some (some d) → ∃ x, σ[i]? = some (some x) ∧ Rp G x d
  | [], [], _, _, _, e => by simp at e
  | v :: σ, some d' :: γ, 0, d, ⟨⟨x, h1, h2⟩, _⟩, e => by
    simp at e; subst e; subst h1; exact ⟨x, rfl, h2⟩
  | v :: σ, some d' :: γ, i + 1, d, ⟨_, r⟩, e => by
    have := SRp.get (i := i) (d := d) r (by simpa using e)
    simpa using this
  | v :: σ, none :: γ, 0, d, _, e => by simp at e
  | v :: σ, none :: γ, i + 1, d, r, e => by
    have := SRp.get (σ := σ) (γ := γ) (i := i) (d := d) r (by simpa using e)
    simpa using this
  | [], _ :: _, _, _, h, _ => h.elim
  | _ :: _, [], _, _, h, _ => h.elim
theorem SRp.set {G : Hp} {x : V} {d : Dt} (q : Rp G x d) : ∀ {σ : St} {γ : List (Option Dt)} (i : Nat), SRp G σ γ → SRp G (σ.set i (some x)) (γ.set i (some d))
  | [], [], _, _ => True.intro
  | v :: σ, some d' :: γ, 0, ⟨_, r⟩ => ⟨⟨x, rfl, q⟩, r⟩
  | v :: σ, some d' :: γ, i + 1, ⟨h, r⟩ => ⟨h, SRp.set q i r⟩
  | v :: σ, none :: γ, 0, r => ⟨⟨x, rfl, q⟩, r⟩
  | v :: σ, none :: γ, i + 1, r => SRp.set (σ := σ) (γ := γ) q i r
  | [], _ :: _, _, h => h.elim
  | _ :: _, [], _, h => h.elim
theorem SRp.length {G : Hp} : ∀ {σ : St} {γ : List (Option Dt)}, SRp G σ γ → σ.length = γ.length
  | [], [], _ => rfl
  | v :: σ, some d :: γ, ⟨_, r⟩ => congrArg (· + 1) (SRp.length r)
  | _ :: σ, none :: γ, r => congrArg (· + 1) (SRp.length (σ := σ) (γ := γ) r)
  | [], _ :: _, h => h.elim
  | _ :: _, [], h => h.elim
/-- forget slots -/
theorem SRp.forget {G : Hp} : ∀ {σ σ' : St} {γ γ' : List (Option Dt)}, SRp G σ γ → σ'.length = σ.length → γ'.length = γ.length → (∀ (i : Nat) d, γ'[i]? = some (some d) → γ[i]? = some (some d) ∧ σ'[i]? = σ[i]?) → SRp G σ' γ'
  | [], [], [], [], _, _, _, _ => True.intro
  | v :: σ, v' :: σ', g :: γ, none :: γ', r, h1, h2, h => by
    have r' : SRp G σ γ := by
      cases g with
      | none => exact r
      | some d => exact r.2
    exact SRp.forget (σ := σ) (σ' := σ') (γ := γ) (γ' := γ') r' (by simpa using h1) (by simpa using h2) fun i d e => by simpa using h (i + 1) d (by simpa using e)
  | v :: σ, v' :: σ', g :: γ, some d :: γ', r, h1, h2, h => by
    obtain ⟨q1, q2⟩ := h 0 d rfl
    simp at q1 q2
    subst q1 q2
    obtain ⟨q, r⟩ := r
    exact ⟨q, SRp.forget (σ := σ) (σ' := σ') (γ := γ) (γ' := γ') r (by simpa using h1) (by simpa using h2) fun i d e => by simpa using h (i + 1) d (by simpa using e)⟩
  | [], [], [], _ :: _, _, _, h2, _ => by simp at h2
  | [], _ :: _, _, _, _, h1, _, _ => by simp at h1
  | _ :: _, [], _, _, _, h1, _, _ => by simp at h1
  | [], [], _ :: _, _, h, _, _, _ => h.elim
  | _ :: _, _ :: _, [], _, h, _, _, _ => h.elim
  | _ :: _, _ :: _, _ :: _, [], _, _, h2, _ => by simp at h2

section
variable {b : Bs} {A : Abs} {T : Tmp} {σ : St} {H H2 G G2 : Hp} {v : V} {d : Dt}
theorem MOk.ext {a : Addr} (e : Ex G G2) (h : Ex H H2) (n : ∀ l, H l ≠ none → G l = none → G2 l = none) : ∀ {m : MO}, MOk G H a m → MOk G2 H2 a m
  | .d (.lst ds), ⟨xs, h1, h2⟩ => ⟨xs, h _ _ h1, h2.mono e⟩
  | .d (.dK es), ⟨kvs, h1, h2, h3⟩ => ⟨kvs, h _ _ h1, h2, h3.mono e⟩
  | .d (.dT es), ⟨kvs, h1, h2, h3⟩ => ⟨kvs, h _ _ h1, h2, h3.mono e⟩
  | .d (.ins C es), ⟨dx, fs, h1, h2, h3⟩ => ⟨dx, fs, h _ _ h1, h2, h3.mono e⟩
  | .d .non, x => x.elim
  | .d (.bl _), x => x.elim
  | .d (.int _), x => x.elim
  | .d (.str _), x => x.elim
  | .d (.ty _), x => x.elim
  | .d (.tup _), x => x.elim
  | .d (.obj _), x => x.elim
  | .d (.xd _), x => x.elim
  | .dL es, ⟨h1, h2⟩ => ⟨h _ _ h1, fun e' he => by
    obtain ⟨h3, xs, h4, h5⟩ := h2 e' he
    exact ⟨n _ (by rw [h4]; simp) h3, xs, h _ _ h4, h5.mono e⟩⟩
theorem MOk.there {a : Addr} : ∀ {m : MO}, MOk G H a m → ∀ q ∈ own (a, m), H q ≠ none
  | .d (.lst ds), ⟨xs, h1, _⟩, q, hq => by simp [own] at hq; subst hq; rw [h1]; simp
  | .d (.dK es), ⟨kvs, h1, _⟩, q, hq => by simp [own] at hq; subst hq; rw [h1]; simp
  | .d (.dT es), ⟨kvs, h1, _⟩, q, hq => by simp [own] at hq; subst hq; rw [h1]; simp
  | .d (.ins C es), ⟨dx, fs, h1, _⟩, q, hq => by simp [own] at hq; subst hq; rw [h1]; simp
  | .d .non, x, _, _ => x.elim
  | .d (.bl _), x, _, _ => x.elim
  | .d (.int _), x, _, _ => x.elim
  | .d (.str _), x, _, _ => x.elim
  | .d (.ty _), x, _, _ => x.elim
  | .d (.tup _), x, _, _ => x.elim
  | .d (.obj _), x, _, _ => x.elim
  | .d (.xd _), x, _, _ => x.elim
  | .dL es, ⟨h1, h2⟩, q, hq => by
    rcases List.mem_cons.mp hq with e | h
    · rw [e, h1]; simp
    · obtain ⟨e, he, rfl⟩ := List.mem_map.mp h
      obtain ⟨_, xs, h4, _⟩ := h2 e he
      rw [h4]; simp
/-- a step that only adds -/
theorem ConcG.grow (c : ConcG b A T σ H G) (e : Ex G G2) (g : Ex G2 H2) (h : Ex H H2) (n : Nw G H G2) : ConcG b A T σ H2 G2 where
  g0 := c.g0.trans e
  gh := g
  nw := fun a h1 h2 => by
    have q := c.nw a h1 h2
    exact n a (c.kp.2 a h1) q
  kp := ⟨fun a o hm ho => h _ _ (c.kp.1 a o hm ho), fun a ha => by
    cases q : H a with
    | none => exact absurd q (c.kp.2 a ha)
    | some o => rw [h _ _ q]; simp⟩
  sl := c.sl.mono e
  tm := fun p hp => (c.tm p hp).mono e
  mo := fun p hp => by
    obtain ⟨h1, h2⟩ := c.mo p hp
    have hne : H p.1 ≠ none := h2.there p.1 (by obtain ⟨a, m⟩ := p; cases m <;> simp [own])
    exact ⟨n _ hne h1, h2.ext e h n⟩
  nd := c.nd
  nw' := c.nw'
  t0 := fun p hp => (c.t0 p hp).mono e
theorem ConcG.push (c : ConcG b A T σ H G) (r : Rp G v d) : ConcG b A ((v, d) :: T) σ H G := { c with tm := fun p hp => (List.mem_cons.mp hp).elim (fun e => e ▸ r) (c.tm p) }
theorem ConcG.sub {T' : Tmp} (c : ConcG b A T σ H G) (h : ∀ p ∈ T', p ∈ T) : ConcG b A T' σ H G := { c with tm := fun p hp => c.tm p (h p hp) }
theorem ConcG.Refl (c : ConcG b A T σ H G) : Conc b A T σ H := ⟨G, c⟩
theorem Conc.sub {T' : Tmp} (c : Conc b A T σ H) (h : ∀ p ∈ T', p ∈ T) : Conc b A T' σ H := let ⟨G, c⟩ := c; ⟨G, c.sub h⟩
theorem Conc.pop {p : V × Dt} (c : Conc b A (p :: T) σ H) : Conc b A T σ H := c.sub fun _ h => List.mem_cons_of_mem _ h
theorem Conc.pop2 {p q : V × Dt} (c : Conc b A (p :: q :: T) σ H) : Conc b A T σ H := c.pop.pop
/-- a new frozen object -/
theorem ConcG.new {p : Addr} {o : HO} (c : ConcG b A T σ H G) (hp : H p = none) : ConcG b A T σ (upd H p o) (upd G p o) ∧ Ex G (upd G p o) := by
  have gp : G p = none := by
    cases q : G p with
    | none => rfl
    | some u => rw [c.gh _ _ q] at hp; cases hp
  have e : Ex G (upd G p o) := Evl.Ex.new gp
  refine ⟨c.grow e (fun a u h => ?_) (Evl.Ex.new hp) fun a h1 h2 => ?_, e⟩
  · by_cases q : a = p
    · subst q; rw [upd_same] at h ⊢; exact h
    · rw [upd_ne q] at h ⊢; exact c.gh _ _ h
  · have q : a ≠ p := fun q => h1 (by rw [q]; exact hp)
    rw [upd_ne q]; exact h2
/-- a new changing object -/
theorem ConcG.newM {p : Addr} {o : HO} {m : Dt} (c : ConcG b A T σ H G) (hp : H p = none) (hm : MOk G (upd H p o) p (.d m)) : ConcG b ⟨A.γ, (p, .d m) :: A.M⟩ T σ (upd H p o) G ∧ G p = none := by
  have gp : G p = none := by
    cases q : G p with
    | none => rfl
    | some u => rw [c.gh _ _ q] at hp; cases hp
  have c' := c.grow (H2 := upd H p o) (Evl.Ex.refl G) (c.gh.trans (Evl.Ex.new hp)) (Evl.Ex.new hp) fun a _ h => h
  have h0 : b.H0 p = none := by
    cases q : b.H0 p with
    | none => rfl
    | some u => exact absurd hp (c.kp.2 p (by rw [q]; simp))
  refine ⟨{ c' with mo := ?_, nd := ?_, nw' := ?_ }, gp⟩
  · intro q hq
    rcases List.mem_cons.mp hq with e | h
    · rw [e]; exact ⟨gp, hm⟩
    · exact c'.mo q h
  · show (p :: A.M.flatMap own).Nodup
    refine List.nodup_cons.mpr ⟨fun hm' => ?_, c.nd⟩
    obtain ⟨q, hq, e⟩ := List.mem_flatMap.mp hm'
    exact (c.mo q hq).2.there p e hp
  · intro q hq
    rcases List.mem_cons.mp hq with e | h
    · rw [e]
      intro q' hq'
      have e' : q' = p := by simpa [own] using hq'
      rw [e']; exact .inl h0
    · exact c.nw' q h
theorem ConcG.get {i : Nat} (c : ConcG b A T σ H G) (h : A.γ[i]? = some (some d)) : ∃ x, σ[i]? = some (some x) ∧ Rp G x d := c.sl.get h
theorem ConcG.set {i : Nat} (c : ConcG b A T σ H G) (h : Rp G v d) : ConcG b ⟨A.γ.set i (some d), A.M⟩ T (σ.set i (some v)) H G := { c with sl := c.sl.set h i }
theorem Rp.lst_inv {ds : List Dt} (h : Rp G v (.lst ds)) : ∃ a xs, v = .ref a ∧ G a = some (.lst xs) ∧ RpAll G xs ds := by
  cases h with | lst h r => exact ⟨_, _, rfl, h, r⟩
theorem Rp.tup_inv {ds : List Dt} (h : Rp G v (.tup ds)) : ∃ a xs, v = .ref a ∧ G a = some (.tup xs) ∧ RpAll G xs ds := by
  cases h with | tup h r => exact ⟨_, _, rfl, h, r⟩
theorem Rp.int_inv {i : Int} (h : Rp G v (.int i)) : v = .int i := by cases h; rfl
theorem Rp.str_inv {i : Str} (h : Rp G v (.str i)) : v = .str i := by cases h; rfl
theorem Rp.bl_inv {i : Bool} (h : Rp G v (.bl i)) : v = .bl i := by cases h; rfl
theorem Rp.non_inv (h : Rp G v .non) : v = .non := by cases h; rfl
theorem Rp.ty_inv {n : String} (h : Rp G v (.ty n)) : v = .ty n := by cases h; rfl
theorem Rp.obj_inv {a : Addr} (h : Rp G v (.obj a)) : v = .ref a := by cases h; rfl
end
end LD
/-! LE: what an expression, a statement does to the data. -/
namespace LD
open PySem L2

section
variable (b : Bs)
/-- te gives d and leads from A to A' -/
def EvM (te : TE) (A : Abs) (d : Dt) (A' : Abs) : Prop := ∀ T σ H, Conc b A T σ H → ∀ Q : VK, (∀ v H2, Conc b A' ((v, d) :: T) σ H2 → Q v H2) → te σ H Q
/-- one of several answers -/
def EvR (te : TE) (A : Abs) (R : Dt → Abs → Prop) : Prop := ∀ T σ H, Conc b A T σ H → ∀ Q : VK, (∀ v d A' H2, R d A' → Conc b A' ((v, d) :: T) σ H2 → Q v H2) → te σ H Q
/-- te gives a new list -/
def EvF (te : TE) (A : Abs) (ds : List Dt) (A' : Abs) : Prop := ∀ T σ H, Conc b A T σ H → ∀ Q : VK, (∀ p H2, Conc b ⟨A'.γ, (p, .d (.lst ds)) :: A'.M⟩ ((.ref p, .obj p) :: T) σ H2 → Q (.ref p) H2) → te σ H Q
def EvA (ta : TA) (A : Abs) (ds : List Dt) (A' : Abs) : Prop := ∀ T σ H, Conc b A T σ H → ∀ Q : List V → Hp → Prop, (∀ vs H2, vs.length = ds.length → Conc b A' (vs.zip ds ++ T) σ H2 → Q vs H2) → ta σ H Q
def EvT (tt : TT) (A : Abs) (c : Bool) (A' : Abs) : Prop := ∀ T σ H, Conc b A T σ H → ∀ Q : Bool → Hp → Prop, (∀ H2, Conc b A' T σ H2 → Q c H2) → tt σ H Q
def EvO (to : TO) (A : Abs) (o : Option Int) (A' : Abs) : Prop := ∀ T σ H, Conc b A T σ H → ∀ Q : Option Int → Hp → Prop, (∀ H2, Conc b A' T σ H2 → Q o H2) → to σ H Q
/-- an assignment to the target g -/
def GA (g : TG) (d : Dt) (A A' : Abs) : Prop := ∀ T σ H v, Conc b A ((v, d) :: T) σ H → ∀ Q : St → Hp → Prop, (∀ σ' H', Conc b A' T σ' H' → Q σ' H') → g v σ H Q
def GAs (g : TGs) (ds : List Dt) (A A' : Abs) : Prop := ∀ T σ H vs, vs.length = ds.length → Conc b A (vs.zip ds ++ T) σ H → ∀ Q : St → Hp → Prop, (∀ σ' H', Conc b A' T σ' H' → Q σ' H') → g vs σ H Q
end
/-- what is wanted behind a statement -/
structure Post where
  nx : Abs → Prop
  bk : Abs → Prop
  ct : Abs → Prop
  rt : Dt → Abs → Prop
def StA (b : Bs) (t : TS) (A : Abs) (P : Post) : Prop := ∀ T σ H, Conc b A T σ H → ∀ D : Ends, (∀ A' σ' H', P.nx A' → Conc b A' T σ' H' → D.nx σ' H') → (∀ A' σ' H', P.bk A' → Conc b A' T σ' H' → D.bk σ' H') →
  (∀ A' σ' H', P.ct A' → Conc b A' T σ' H' → D.ct σ' H') → (∀ v d A' σ' H', P.rt d A' → Conc b A' ((v, d) :: T) σ' H' → D.rt v H') → t D σ H

section
variable {b : Bs} {A A1 A2 A3 : Abs} {T : Tmp} {σ : St} {H H2 G : Hp} {v : V} {d e z : Dt} {ds es : List Dt} {te ta tb tc : TE} {i j : Int} {c c' : Bool} {tt uu : TT} {K : PySem.W.Frag}

theorem zip_rp : ∀ {vs : List V} {ds : List Dt}, vs.length = ds.length → (∀ p ∈ vs.zip ds, Rp G p.1 p.2) → RpAll G vs ds
  | [], [], _, _ => .nil
  | v :: vs, d :: ds, hl, h => .cons (h (v, d) (by simp)) (zip_rp (by simpa using hl) fun p hp => h p (by rw [List.zip_cons_cons]; exact List.mem_cons_of_mem _ hp))
theorem rp_zip : ∀ {vs : List V} {ds : List Dt}, RpAll G vs ds → ∀ p ∈ vs.zip ds, Rp G p.1 p.2
  | [], _, _ => by simp
  | _ :: _, [], _ => by simp
  | v :: vs, d :: ds, .cons h r => fun p hp => by
    rw [List.zip_cons_cons] at hp
    rcases List.mem_cons.mp hp with e | h'
    · rw [e]; exact h
    · exact rp_zip r p h'
theorem Conc.top (c : Conc b A ((v, d) :: T) σ H) : ∃ G, ConcG b A T σ H G ∧ Rp G v d := by
  obtain ⟨G, c⟩ := c
  exact ⟨G, c.sub fun _ h => List.mem_cons_of_mem _ h, c.tm (v, d) List.mem_cons_self⟩
theorem Conc.top2 {w : V} (c : Conc b A ((w, e) :: (v, d) :: T) σ H) : ∃ G, ConcG b A T σ H G ∧ Rp G w e ∧ Rp G v d := by
  obtain ⟨G, c⟩ := c
  exact ⟨G, c.sub fun _ h => List.mem_cons_of_mem _ (List.mem_cons_of_mem _ h), c.tm (w, e) List.mem_cons_self, c.tm (v, d) (List.mem_cons_of_mem _ List.mem_cons_self)⟩
theorem Conc.zip {vs : List V} (hl : vs.length = ds.length) (c : Conc b A (vs.zip ds ++ T) σ H) : ∃ G, ConcG b A T σ H G ∧ RpAll G vs ds := by
  obtain ⟨G, c⟩ := c
  exact ⟨G, c.sub fun _ h => List.mem_append_right _ h, zip_rp hl fun p hp => c.tm p (List.mem_append_left _ hp)⟩
theorem ConcG.pushAll {vs : List V} (c : ConcG b A T σ H G) (r : RpAll G vs ds) : ConcG b A (vs.zip ds ++ T) σ H G := { c with tm := fun p hp => (List.mem_append.mp hp).elim (rp_zip r p) (c.tm p) }
theorem ConcG.out (c : ConcG b A T σ H G) (r : Rp G v d) : Conc b A ((v, d) :: T) σ H := ⟨G, c.push r⟩

/-! ### expressions -/
theorem EvM.r {R : Dt → Abs → Prop} (h : EvM b te A d A1) (q : R d A1) : EvR b te A R := fun T σ H c Q k => h T σ H c Q fun v H2 c2 => k v d A1 H2 q c2
theorem EvM.is (h : EvM b te A d A1) (q : d = e) : EvM b te A e A1 := q ▸ h
theorem EvT.is (h : EvT b tt A c A1) (q : c = c') : EvT b tt A c' A1 := q ▸ h
theorem ev_var {n : Nat} (h : A.γ[n]? = some (some d)) : EvM b (tVar n) A d A := fun T σ H c Q k => by
  obtain ⟨G, c⟩ := c
  obtain ⟨x, hx, r⟩ := c.get h
  exact ⟨x, hx, k x H (c.out r)⟩
theorem ev_c {x : V} (h : ∀ G, Rp G x d) : EvM b (tC x) A d A := fun T σ H c Q k => by
  obtain ⟨G, c⟩ := c
  exact k x H (c.out (h G))
theorem ev_int : EvM b (tC (.int i)) A (.int i) A := ev_c fun _ => .int i
theorem ev_bl : EvM b (tC (.bl c)) A (.bl c) A := ev_c fun _ => .bl c
theorem ev_str {s : Str} : EvM b (tC (.str s)) A (.str s) A := ev_c fun _ => .str s
theorem ev_non : EvM b (tC .non) A .non A := ev_c fun _ => .non
theorem ev_ty {n : String} : EvM b (tC (.ty n)) A (.ty n) A := ev_c fun _ => .ty n
theorem ev_ref {a : Addr} : EvM b (tC (.ref a)) A (.obj a) A := ev_c fun _ => .obj a
/-- a two-place operation by its data -/
def RVd (b : Bs) (r : R2) (A : Abs) (d e z : Dt) (A' : Abs) : Prop := ∀ T σ H v w, Conc b A ((w, e) :: (v, d) :: T) σ H → ∀ Q : VK, (∀ u H2, Conc b A' ((u, z) :: T) σ H2 → Q u H2) → r v w H Q
theorem ev_op {r : R2} (ha : EvM b ta A d A1) (hb : EvM b tb A1 e A2) (hr : RVd b r A2 d e z A3) : EvM b (tOp r ta tb) A z A3 := fun T σ H c Q k =>
  ha T σ H c _ fun v H1 c1 => hb _ σ H1 c1 _ fun w H2 c2 => hr T σ H2 v w c2 Q k
theorem rv_I {C : Int → Int → Prop} {g : Int → Int → V} (hc : C i j) (hz : ∀ G, Rp G (g i j) z) : RVd b (rI C g) A (.int i) (.int j) z A := fun T σ H v w c Q k => by
  obtain ⟨G, c, r1, r2⟩ := c.top2
  exact ⟨i, j, r2.int_inv, r1.int_inv, hc, k _ H (c.out (hz G))⟩
theorem rv_I0 {g : Int → Int → V} (hz : ∀ G, Rp G (g i j) z) : RVd b (rI0 g) A (.int i) (.int j) z A := fun T σ H v w c Q k => by
  obtain ⟨G, c, r1, r2⟩ := c.top2
  exact ⟨i, j, r2.int_inv, r1.int_inv, k _ H (c.out (hz G))⟩
theorem rv_l {r r' : R2} (h : RVd b r A d e z A1) : RVd b (fun x y H Q => r x y H Q ∨ r' x y H Q) A d e z A1 := fun T σ H v w c Q k => .inl (h T σ H v w c Q k)
theorem rv_r {r r' : R2} (h : RVd b r' A d e z A1) : RVd b (fun x y H Q => r x y H Q ∨ r' x y H Q) A d e z A1 := fun T σ H v w c Q k => .inr (h T σ H v w c Q k)

/-! #### + and *: ints, texts, lists -/
def rAddS2 : R2 := fun x y H Q => ∃ i j, x = .str i ∧ y = .str j ∧ i.length + j.length ≤ sizeLine ∧ Q (.str (i ++ j)) H
def rPlus (K : PySem.W.Frag) : R2 := fun x y H Q => rI0 (fun i j => .int (i + j)) x y H Q ∨ rAddS2 x y H Q ∨ rCat x y H Q ∨ rCatA K x y H Q
theorem op_plus {X : Cx} : OpR X (binaryOp .Add) (rPlus X.K) := OpR.or op_add (OpR.or op_add_str (OpR.or op_cat op_catA))
theorem ev_add (ha : EvM b ta A (.int i) A1) (hb : EvM b tb A1 (.int j) A2) : EvM b (tOp (rPlus K) ta tb) A (.int (i + j)) A2 := ev_op ha hb (rv_l (rv_I0 fun _ => .int _))
theorem ev_addS {s t : Str} (ha : EvM b ta A (.str s) A1) (hb : EvM b tb A1 (.str t) A2) (hl : s.length + t.length ≤ sizeLine) : EvM b (tOp (rPlus K) ta tb) A (.str (s ++ t)) A2 :=
  ev_op ha hb fun T σ H v w c Q k => .inr (.inl (by
    obtain ⟨G, c, r1, r2⟩ := c.top2
    exact ⟨s, t, r2.str_inv, r1.str_inv, hl, k _ H (c.out (.str _))⟩))
theorem ConcG.lst {p : Addr} {xs : List V} (c : ConcG b A T σ H G) (hp : H p = none) (r : RpAll G xs ds) : Conc b A ((.ref p, .lst ds) :: T) σ (upd H p (.lst xs)) := by
  obtain ⟨c', e⟩ := c.new (o := .lst xs) hp
  exact c'.out (.lst upd_same (r.mono e))
theorem ConcG.tup {p : Addr} {xs : List V} (c : ConcG b A T σ H G) (hp : H p = none) (r : RpAll G xs ds) : Conc b A ((.ref p, .tup ds) :: T) σ (upd H p (.tup xs)) := by
  obtain ⟨c', e⟩ := c.new (o := .tup xs) hp
  exact c'.out (.tup upd_same (r.mono e))
theorem ConcG.lstM {p : Addr} {xs : List V} (c : ConcG b A T σ H G) (hp : H p = none) (r : RpAll G xs ds) : Conc b ⟨A.γ, (p, .d (.lst ds)) :: A.M⟩ ((.ref p, .obj p) :: T) σ (upd H p (.lst xs)) := by
  obtain ⟨c', e⟩ := c.newM (o := .lst xs) (m := .lst ds) hp ⟨xs, upd_same, r⟩
  exact c'.out (.obj p)
theorem ev_cat (ha : EvM b ta A (.lst ds) A1) (hb : EvM b tb A1 (.lst es) A2) (hl : ds.length + es.length ≤ sizeLine) : EvM b (tOp (rPlus K) ta tb) A (.lst (ds ++ es)) A2 :=
  ev_op ha hb fun T σ H v w c Q k => .inr (.inr (.inl (by
    obtain ⟨G, c, r1, r2⟩ := c.top2
    obtain ⟨p, xs, e1, e2, e3⟩ := r2.lst_inv
    obtain ⟨q, ys, f1, f2, f3⟩ := r1.lst_inv
    exact ⟨p, q, xs, ys, e1, f1, c.gh _ _ e2, c.gh _ _ f2, by rw [e3.length, f3.length]; exact hl, fun l hl => k _ _ (c.lst hl (e3.append f3))⟩)))
theorem ef_cat (ha : EvM b ta A (.lst ds) A1) (hb : EvM b tb A1 (.lst es) A2) (hl : ds.length + es.length ≤ sizeLine) : EvF b (tOp (rPlus K) ta tb) A (ds ++ es) A2 := fun T σ H c Q k =>
  ha T σ H c _ fun v H1 c1 => hb _ σ H1 c1 _ fun w H2 c2 => .inr (.inr (.inl (by
    obtain ⟨G, c, r1, r2⟩ := c2.top2
    obtain ⟨p, xs, e1, e2, e3⟩ := r2.lst_inv
    obtain ⟨q, ys, f1, f2, f3⟩ := r1.lst_inv
    exact ⟨p, q, xs, ys, e1, f1, c.gh _ _ e2, c.gh _ _ f2, by rw [e3.length, f3.length]; exact hl, fun l hl => k _ _ (c.lstM hl (e3.append f3))⟩)))
/-- a text, so many times -/
def rMulS : R2 := fun x y H Q => ∃ z n, x = .str z ∧ y = .int n ∧ MulOk z n ∧ Q (.str (Txt.mul z n)) H
theorem op_mulS {X : Cx} : OpR X (binaryOp .Mult) rMulS := by
  intro pins s σ H x y v u Q I rx ry h
  obtain ⟨z, n, rfl, rfl, hz, q⟩ := h
  obtain ⟨t, rfl⟩ := rx
  obtain ⟨t', rfl⟩ := ry
  exact SB.mul hz fun t' k => ⟨.str (Txt.mul z n), H, I.tok _, ⟨_, rfl⟩, q⟩
def rTimes (K : PySem.W.Frag) : R2 := fun x y H Q => rI CMul (fun i j => .int (i * j)) x y H Q ∨ rRep x y H Q ∨ rMulS x y H Q
theorem op_times {X : Cx} : OpR X (binaryOp .Mult) (rTimes X.K) := OpR.or op_mul (OpR.or op_rep op_mulS)
theorem ev_mulS {s : Str} (ha : EvM b ta A (.str s) A1) (hb : EvM b tb A1 (.int i) A2) (hc : MulOk s i) : EvM b (tOp (rTimes K) ta tb) A (.str (Txt.mul s i)) A2 := ev_op ha hb fun T σ H v w c Q k => .inr (.inr (by
  obtain ⟨G, c, r1, r2⟩ := c.top2
  exact ⟨s, i, r2.str_inv, r1.int_inv, hc, k _ H (c.out (.str _))⟩))
theorem ev_mul (ha : EvM b ta A (.int i) A1) (hb : EvM b tb A1 (.int j) A2) (hc : CMul i j) : EvM b (tOp (rTimes K) ta tb) A (.int (i * j)) A2 := ev_op ha hb (rv_l (rv_I hc fun _ => .int _))
theorem ev_rep (ha : EvM b ta A (.lst ds) A1) (hb : EvM b tb A1 (.int i) A2) (h0 : 0 ≤ i) (h1 : i < 2 ^ 63) (hl : ds.length * i.toNat ≤ sizeLine) : EvM b (tOp (rTimes K) ta tb) A (.lst (List.replicate i.toNat ds).flatten) A2 :=
  ev_op ha hb fun T σ H v w c Q k => .inr (.inl (by
    obtain ⟨G, c, r1, r2⟩ := c.top2
    obtain ⟨p, xs, e1, e2, e3⟩ := r2.lst_inv
    exact ⟨p, i, xs, e1, r1.int_inv, c.gh _ _ e2, by omega, h1, by rw [e3.length]; exact hl, fun l hl => k _ _ (c.lst hl (e3.replicate _))⟩))
theorem ef_rep (ha : EvM b ta A (.lst ds) A1) (hb : EvM b tb A1 (.int i) A2) (h0 : 0 ≤ i) (h1 : i < 2 ^ 63) (hl : ds.length * i.toNat ≤ sizeLine) : EvF b (tOp (rTimes K) ta tb) A (List.replicate i.toNat ds).flatten A2 := fun T σ H c Q k =>
  ha T σ H c _ fun v H1 c1 => hb _ σ H1 c1 _ fun w H2 c2 => .inr (.inl (by
    obtain ⟨G, c, r1, r2⟩ := c2.top2
    obtain ⟨p, xs, e1, e2, e3⟩ := r2.lst_inv
    exact ⟨p, i, xs, e1, r1.int_inv, c.gh _ _ e2, by omega, h1, by rw [e3.length]; exact hl, fun l hl => k _ _ (c.lstM hl (e3.replicate _))⟩))
theorem ev_sub (ha : EvM b ta A (.int i) A1) (hb : EvM b tb A1 (.int j) A2) : EvM b (tOp (rI0 fun i j => .int (i - j)) ta tb) A (.int (i - j)) A2 := ev_op ha hb (rv_I0 fun _ => .int _)
theorem ev_mod (ha : EvM b ta A (.int i) A1) (hb : EvM b tb A1 (.int j) A2) (hc : 0 < j) : EvM b (tOp (rI (fun _ j => 0 < j) fun i j => .int (i % j)) ta tb) A (.int (i % j)) A2 := ev_op ha hb (rv_I hc fun _ => .int _)
theorem ev_div (ha : EvM b ta A (.int i) A1) (hb : EvM b tb A1 (.int j) A2) (hc : CDiv i j) : EvM b (tOp (rI CDiv fun i j => .int (i / j)) ta tb) A (.int (i / j)) A2 := ev_op ha hb (rv_I hc fun _ => .int _)
theorem ev_pow (ha : EvM b ta A (.int i) A1) (hb : EvM b tb A1 (.int j) A2) (hc : CPow i j) : EvM b (tOp (rI CPow fun i j => .int (i ^ j.toNat)) ta tb) A (.int (i ^ j.toNat)) A2 := ev_op ha hb (rv_I hc fun _ => .int _)
theorem ev_lt (ha : EvM b ta A (.int i) A1) (hb : EvM b tb A1 (.int j) A2) : EvM b (tOp (rI0 fun i j => .bl (decide (i < j))) ta tb) A (.bl (decide (i < j))) A2 := ev_op ha hb (rv_I0 fun _ => .bl _)
theorem ev_le (ha : EvM b ta A (.int i) A1) (hb : EvM b tb A1 (.int j) A2) : EvM b (tOp (rI0 fun i j => .bl (decide (i ≤ j))) ta tb) A (.bl (decide (i ≤ j))) A2 := ev_op ha hb (rv_I0 fun _ => .bl _)
theorem ev_gt (ha : EvM b ta A (.int i) A1) (hb : EvM b tb A1 (.int j) A2) : EvM b (tOp (rI0 fun i j => .bl (decide (j < i))) ta tb) A (.bl (decide (j < i))) A2 := ev_op ha hb (rv_I0 fun _ => .bl _)
theorem ev_ge (ha : EvM b ta A (.int i) A1) (hb : EvM b tb A1 (.int j) A2) : EvM b (tOp (rI0 fun i j => .bl (decide (j ≤ i))) ta tb) A (.bl (decide (j ≤ i))) A2 := ev_op ha hb (rv_I0 fun _ => .bl _)
theorem ev_neg (ha : EvM b ta A (.int i) A1) : EvM b (tUn (rU fun i => .int (-i)) ta) A (.int (-i)) A1 := fun T σ H c Q k =>
  ha T σ H c _ fun v H1 c1 => by
    obtain ⟨G, c, r⟩ := c1.top
    exact ⟨i, r.int_inv, k _ _ (c.out (.int _))⟩
end

/-! ### == over data -/
mutual
def toPy : Dt → PyData
  | .non => .none
  | .bl b => .bool b
  | .int i => .int i
  | .str s => .str s
  | .lst ds => .list (toPys ds)
  | .tup ds => .tuple (toPys ds)
  | _ => .none
def toPys : List Dt → List PyData
  | [] => []
  | d :: ds => toPy d :: toPys ds
end
/-- data that == compares: no objects, no bools, depth at most n -/
def eqOk : Nat → Dt → Bool
  | _, .non => true
  | _, .int _ => true
  | _, .str s => PyData.strOk s
  | n + 1, .lst ds => ds.all (eqOk n)
  | n + 1, .tup ds => ds.all (eqOk n)
  | _, _ => false
theorem dp_all {K : PySem.W.Frag} {G H : Hp} {n : Nat} (f : ∀ {v : V} {d : Dt}, eqOk n d = true → Rp G v d → Dp K H v (toPy d)) : ∀ {vs : List V} {ds : List Dt}, ds.all (eqOk n) = true → RpAll G vs ds → DpAll K H vs (toPys ds)
  | _, _, _, .nil => by rw [toPys]; exact .nil
  | _, _, h, .cons q r => by
    rw [List.all_cons, Bool.and_eq_true] at h
    rw [toPys]
    exact .cons (f h.1 q) (dp_all f h.2 r)
theorem dp_of {K : PySem.W.Frag} {G H : Hp} (e : Ex G H) : ∀ (n : Nat) {v : V} {d : Dt}, eqOk n d = true → Rp G v d → Dp K H v (toPy d) := by
  intro n
  induction n with
  | zero =>
    intro v d h r
    cases r with
    | non => rw [toPy]; exact .non
    | int i => rw [toPy]; exact .int i
    | str s => rw [toPy]; exact .str s
    | _ => cases h
  | succ n ih =>
    intro v d h r
    cases r with
    | non => rw [toPy]; exact .non
    | int i => rw [toPy]; exact .int i
    | str s => rw [toPy]; exact .str s
    | lst ha r =>
      rw [toPy]
      exact .lst (SqL.of (e _ _ ha)) (dp_all ih h r)
    | tup ha r =>
      rw [toPy]
      exact .tup (SqT.of (e _ _ ha)) (dp_all ih h r)
    | _ => cases h
theorem canLays {n : Nat} (f : ∀ d, eqOk n d = true → (toPy d).canLay0 = true ∧ (toPy d).depth ≤ n) : ∀ {ds : List Dt}, ds.all (eqOk n) = true → PyData.canLayAll0 (toPys ds) = true ∧ PyData.depthAll (toPys ds) ≤ n
  | [], _ => by rw [toPys, PyData.canLayAll0, PyData.depthAll]; exact ⟨rfl, Nat.zero_le _⟩
  | d :: ds, h => by
    rw [List.all_cons, Bool.and_eq_true] at h
    obtain ⟨h1, h2⟩ := f d h.1
    obtain ⟨h3, h4⟩ := canLays f h.2
    rw [toPys, PyData.canLayAll0, PyData.depthAll, h1, h3]
    exact ⟨rfl, Nat.max_le.mpr ⟨h2, h4⟩⟩
theorem canLay : ∀ (n : Nat) (d : Dt), eqOk n d = true → (toPy d).canLay0 = true ∧ (toPy d).depth ≤ n := by
  intro n
  induction n with
  | zero =>
    intro d h
    cases d with
    | str s => exact ⟨by rw [toPy, PyData.canLay0]; exact h, by rw [toPy, PyData.depth]; exact Nat.le_refl _⟩
    | non => exact ⟨by rw [toPy, PyData.canLay0], by rw [toPy, PyData.depth]; exact Nat.le_refl _⟩
    | int i => exact ⟨by rw [toPy, PyData.canLay0], by rw [toPy, PyData.depth]; exact Nat.le_refl _⟩
    | _ => cases h
  | succ n ih =>
    intro d h
    cases d with
    | str s => exact ⟨by rw [toPy, PyData.canLay0]; exact h, by rw [toPy, PyData.depth]; exact Nat.zero_le _⟩
    | non => exact ⟨by rw [toPy, PyData.canLay0], by rw [toPy, PyData.depth]; exact Nat.zero_le _⟩
    | int i => exact ⟨by rw [toPy, PyData.canLay0], by rw [toPy, PyData.depth]; exact Nat.zero_le _⟩
    | lst ds =>
      obtain ⟨h1, h2⟩ := canLays ih h
      exact ⟨by rw [toPy, PyData.canLay0]; exact h1, by rw [toPy, PyData.depth]; exact Nat.succ_le_succ h2⟩
    | tup ds =>
      obtain ⟨h1, h2⟩ := canLays ih h
      exact ⟨by rw [toPy, PyData.canLay0]; exact h1, by rw [toPy, PyData.depth]; exact Nat.succ_le_succ h2⟩
    | _ => cases h
theorem shaped_of {n : Nat} {d : Dt} (h : eqOk n d = true) (hn : n ≤ 64) : SeqAt.shaped (toPy d) = true := by
  obtain ⟨h1, h2⟩ := canLay n d h
  unfold SeqAt.shaped
  rw [h1, Bool.true_and, decide_eq_true (Nat.le_trans h2 hn)]
/-- == on data -/
def eqD (d e : Dt) : Bool := PyData.eqv (toPy d) (toPy e)
theorem eqs_iff {n : Nat} (f : ∀ d e, eqOk n d = true → eqOk n e = true → (eqD d e = true ↔ d = e)) : ∀ {ds es : List Dt}, ds.all (eqOk n) = true → es.all (eqOk n) = true → (PyData.eqvAll (toPys ds) (toPys es) = true ↔ ds = es)
  | [], [], _, _ => by rw [toPys, PyData.eqvAll]; simp
  | [], e :: es, _, _ => by rw [toPys, toPys, PyData.eqvAll]; simp
  | d :: ds, [], _, _ => by rw [toPys, toPys, PyData.eqvAll]; simp
  | d :: ds, e :: es, h, k => by
    rw [List.all_cons, Bool.and_eq_true] at h k
    rw [toPys, toPys, PyData.eqvAll, Bool.and_eq_true, eqs_iff f h.2 k.2]
    have := f d e h.1 k.1
    unfold eqD at this
    rw [this, List.cons.injEq]
theorem eqD_iff : ∀ (n : Nat) (d e : Dt), eqOk n d = true → eqOk n e = true → (eqD d e = true ↔ d = e) := by
  intro n
  induction n with
  | zero =>
    intro d e h k
    cases d <;> cases e <;> first | (cases h; done) | (cases k; done) | (unfold eqD; simp [toPy, PyData.eqv])
  | succ n ih =>
    intro d e h k
    cases d <;> cases e <;> first | (cases h; done) | (cases k; done) | (unfold eqD; simp [toPy, PyData.eqv]; done) | (unfold eqD; rw [toPy, toPy, PyData.eqv, eqs_iff ih h k]; simp)
theorem eqD_self {n : Nat} {d : Dt} (h : eqOk n d = true) : eqD d d = true := (eqD_iff n d d h h).mpr rfl
theorem eqD_ne {n : Nat} {d e : Dt} (h : eqOk n d = true) (k : eqOk n e = true) (hn : d ≠ e) : eqD d e = false := by
  cases q : eqD d e with
  | false => rfl
  | true => exact absurd ((eqD_iff n d e h k).mp q) hn

section
variable {b : Bs} {A A1 A2 A3 : Abs} {T : Tmp} {σ : St} {H H2 G : Hp} {v : V} {d e z : Dt} {ds es : List Dt} {te ta tb tc : TE} {i j : Int} {c c' : Bool} {tt uu : TT} {K : PySem.W.Frag}
/-- == : scalars, data -/
def rEqAny (K : PySem.W.Frag) : R2 := fun x y H Q => rEq x y H Q ∨ rEqD K x y H Q
def rNeAny (K : PySem.W.Frag) : R2 := fun x y H Q => rNe x y H Q ∨ rNeD K x y H Q
theorem op_eqAny {X : Cx} (hu : X.A.units + 64 < cLine) : OpR X (compareOp .Eq) (rEqAny X.K) := OpR.or op_eq (op_eqD hu)
theorem op_neAny {X : Cx} (hu : X.A.units + 64 < cLine) : OpR X (compareOp .NotEq) (rNeAny X.K) := OpR.or op_ne (op_neD hu)
theorem ev_eqI (ha : EvM b ta A (.int i) A1) (hb : EvM b tb A1 (.int j) A2) : EvM b (tOp (rEqAny K) ta tb) A (.bl (decide (i = j))) A2 := ev_op ha hb fun T σ H v w c Q k => .inl (by
  obtain ⟨G, c, r1, r2⟩ := c.top2
  rw [r2.int_inv, r1.int_inv]
  exact ⟨rfl, k _ H (c.out (by rw [show decide (V.int i = V.int j) = decide (i = j) by simp]; exact .bl _))⟩)
theorem ev_neI (ha : EvM b ta A (.int i) A1) (hb : EvM b tb A1 (.int j) A2) : EvM b (tOp (rNeAny K) ta tb) A (.bl (!decide (i = j))) A2 := ev_op ha hb fun T σ H v w c Q k => .inl (by
  obtain ⟨G, c, r1, r2⟩ := c.top2
  rw [r2.int_inv, r1.int_inv]
  exact ⟨rfl, k _ H (c.out (by rw [show decide (V.int i = V.int j) = decide (i = j) by simp]; exact .bl _))⟩)
theorem ev_eqS {s t : Str} (ha : EvM b ta A (.str s) A1) (hb : EvM b tb A1 (.str t) A2) : EvM b (tOp (rEqAny K) ta tb) A (.bl (decide (s = t))) A2 := ev_op ha hb fun T σ H v w c Q k => .inl (by
  obtain ⟨G, c, r1, r2⟩ := c.top2
  rw [r2.str_inv, r1.str_inv]
  exact ⟨rfl, k _ H (c.out (by rw [show decide (V.str s = V.str t) = decide (s = t) by simp]; exact .bl _))⟩)
theorem ev_neS {s t : Str} (ha : EvM b ta A (.str s) A1) (hb : EvM b tb A1 (.str t) A2) : EvM b (tOp (rNeAny K) ta tb) A (.bl (!decide (s = t))) A2 := ev_op ha hb fun T σ H v w c Q k => .inl (by
  obtain ⟨G, c, r1, r2⟩ := c.top2
  rw [r2.str_inv, r1.str_inv]
  exact ⟨rfl, k _ H (c.out (by rw [show decide (V.str s = V.str t) = decide (s = t) by simp]; exact .bl _))⟩)
theorem ev_eqD (n : Nat) (ha : EvM b ta A d A1) (hb : EvM b tb A1 e A2) (h1 : eqOk n d = true) (h2 : eqOk n e = true) (hn : n ≤ 64) : EvM b (tOp (rEqAny K) ta tb) A (.bl (eqD d e)) A2 := ev_op ha hb fun T σ H v w c Q k => .inr (by
  obtain ⟨G, c, r1, r2⟩ := c.top2
  exact ⟨toPy d, toPy e, dp_of c.gh n h1 r2, dp_of c.gh n h2 r1, shaped_of h1 hn, shaped_of h2 hn, k _ H (c.out (.bl _))⟩)
theorem ev_neD (n : Nat) (ha : EvM b ta A d A1) (hb : EvM b tb A1 e A2) (h1 : eqOk n d = true) (h2 : eqOk n e = true) (hn : n ≤ 64) : EvM b (tOp (rNeAny K) ta tb) A (.bl (!eqD d e)) A2 := ev_op ha hb fun T σ H v w c Q k => .inr (by
  obtain ⟨G, c, r1, r2⟩ := c.top2
  exact ⟨toPy d, toPy e, dp_of c.gh n h1 r2, dp_of c.gh n h2 r1, shaped_of h1 hn, shaped_of h2 hn, k _ H (c.out (.bl _))⟩)
end
end LD
/-! LF: subscripts, calls, tests, targets, statements, loops. -/
namespace LD
open PySem L2

/-- M's object at l: m becomes m', M becomes M' -/
inductive At : List (Addr × MO) → Addr → MO → MO → List (Addr × MO) → Prop
  | here {M : List (Addr × MO)} {l : Addr} {m m' : MO} : At ((l, m) :: M) l m m' ((l, m') :: M)
  | there {M M' : List (Addr × MO)} {l : Addr} {m m' : MO} {p : Addr × MO} (h : At M l m m' M') : At (p :: M) l m m' (p :: M')
/-- M' is M without the object at l -/
inductive Del : List (Addr × MO) → Addr → MO → List (Addr × MO) → Prop
  | here {M : List (Addr × MO)} {l : Addr} {m : MO} : Del ((l, m) :: M) l m M
  | there {M M' : List (Addr × MO)} {l : Addr} {m : MO} {p : Addr × MO} (h : Del M l m M') : Del (p :: M) l m (p :: M')
theorem At.mem {M M' : List (Addr × MO)} {l : Addr} {m m' : MO} : At M l m m' M' → (l, m) ∈ M
  | .here => List.mem_cons_self
  | .there h => List.mem_cons_of_mem _ h.mem
theorem Del.mem {M M' : List (Addr × MO)} {l : Addr} {m : MO} : Del M l m M' → (l, m) ∈ M
  | .here => List.mem_cons_self
  | .there h => List.mem_cons_of_mem _ h.mem
theorem Del.sub {M M' : List (Addr × MO)} {l : Addr} {m : MO} : Del M l m M' → M'.Sublist M
  | .here => List.sublist_cons_self _ _
  | .there h => h.sub.cons_cons _
theorem At.of_mem {M M' : List (Addr × MO)} {l : Addr} {m m' : MO} (a : At M l m m' M') : ∀ p ∈ M', p = (l, m') ∨ p ∈ M := by
  induction a with
  | here => intro p hp; rcases List.mem_cons.mp hp with e | h; exact .inl e; exact .inr (List.mem_cons_of_mem _ h)
  | there h ih =>
    intro p hp
    rcases List.mem_cons.mp hp with e | h'
    · exact .inr (by rw [e]; exact List.mem_cons_self)
    · rcases ih p h' with e | h'
      · exact .inl e
      · exact .inr (List.mem_cons_of_mem _ h')
theorem At.own_eq {M M' : List (Addr × MO)} {l : Addr} {m m' : MO} (a : At M l m m' M') (h : own (l, m) = own (l, m')) : M'.flatMap own = M.flatMap own := by
  induction a with
  | here => rw [List.flatMap_cons, List.flatMap_cons, h]
  | there _ ih => rw [List.flatMap_cons, List.flatMap_cons, ih h]
/-- no address is taken twice -/
theorem own_inj : ∀ {M : List (Addr × MO)} {p q : Addr × MO} {x : Addr}, (M.flatMap own).Nodup → p ∈ M → q ∈ M → x ∈ own p → x ∈ own q → p = q
  | [], _, _, _, _, h, _, _, _ => by cases h
  | r :: M, p, q, x, nd, hp, hq, h1, h2 => by
    rw [List.flatMap_cons, List.nodup_append] at nd
    obtain ⟨_, n2, n3⟩ := nd
    rcases List.mem_cons.mp hp with e | hp' <;> rcases List.mem_cons.mp hq with f | hq'
    · rw [e, f]
    · exact absurd rfl (n3 x (e ▸ h1) x (List.mem_flatMap.mpr ⟨q, hq', h2⟩))
    · exact absurd rfl (n3 x (f ▸ h2) x (List.mem_flatMap.mpr ⟨p, hp', h1⟩))
    · exact own_inj n2 hp' hq' h1 h2
theorem self_own {l : Addr} {m : MO} : l ∈ own (l, m) := by cases m <;> simp [own]
/-- the rest of M, apart from l -/
theorem At.apart {M M' : List (Addr × MO)} {l : Addr} {m m' : MO} (a : At M l m m' M') (nd : (M.flatMap own).Nodup) : ∀ p ∈ M', p = (l, m') ∨ (p ∈ M ∧ ∀ x ∈ own p, x ≠ l) := by
  induction a with
  | here =>
    intro p hp
    rcases List.mem_cons.mp hp with e | h
    · exact .inl e
    · refine .inr ⟨List.mem_cons_of_mem _ h, fun x hx e => ?_⟩
      rw [List.flatMap_cons, List.nodup_append] at nd
      exact nd.2.2 _ self_own x (List.mem_flatMap.mpr ⟨p, h, hx⟩) e.symm
  | there h ih =>
    intro p hp
    rw [List.flatMap_cons, List.nodup_append] at nd
    rcases List.mem_cons.mp hp with e | h'
    · refine .inr ⟨by rw [e]; exact List.mem_cons_self, fun x hx e' => ?_⟩
      exact nd.2.2 x (e ▸ hx) _ (List.mem_flatMap.mpr ⟨_, h.mem, self_own⟩) e'
    · rcases ih nd.2.1 p h' with e | h'
      · exact .inl e
      · exact .inr ⟨List.mem_cons_of_mem _ h'.1, h'.2⟩
theorem Del.apart {M M' : List (Addr × MO)} {l : Addr} {m : MO} (a : Del M l m M') (nd : (M.flatMap own).Nodup) : ∀ p ∈ M', p ∈ M ∧ ∀ x ∈ own p, x ∉ own (l, m) := by
  induction a with
  | here =>
    intro p hp
    refine ⟨List.mem_cons_of_mem _ hp, fun x hx e => ?_⟩
    rw [List.flatMap_cons, List.nodup_append] at nd
    exact nd.2.2 _ e x (List.mem_flatMap.mpr ⟨p, hp, hx⟩) rfl
  | there h ih =>
    intro p hp
    rw [List.flatMap_cons, List.nodup_append] at nd
    rcases List.mem_cons.mp hp with e | h'
    · refine ⟨by rw [e]; exact List.mem_cons_self, fun x hx e' => ?_⟩
      exact nd.2.2 x (e ▸ hx) _ (List.mem_flatMap.mpr ⟨_, h.mem, e'⟩) rfl
    · exact ⟨List.mem_cons_of_mem _ (ih nd.2.1 p h').1, (ih nd.2.1 p h').2⟩

theorem sub_flat {α β : Type} (f : α → List β) : ∀ {l₁ l₂ : List α}, l₁.Sublist l₂ → (l₁.flatMap f).Sublist (l₂.flatMap f)
  | _, _, .slnil => List.Sublist.refl _
  | _, _, .cons a h => by
    rw [List.flatMap_cons]
    exact (sub_flat f h).trans (List.sublist_append_right _ _)
  | _, _, .cons_cons a h => by
    rw [List.flatMap_cons, List.flatMap_cons]
    exact (List.Sublist.refl _).append (sub_flat f h)

section
variable {b : Bs} {A A1 A2 A3 : Abs} {T : Tmp} {σ : St} {H H2 G : Hp} {v : V} {d e z : Dt} {ds es : List Dt} {te ta tb tc : TE} {i j : Int} {c c' : Bool} {tt uu : TT} {K : PySem.W.Frag}

theorem MOk.upd {a l : Addr} {o : HO} {m : MO} (h : MOk G H a m) (n : ∀ x ∈ own (a, m), x ≠ l) : MOk G (upd H l o) a m := by
  have na : a ≠ l := n a self_own
  cases m with
  | d d =>
    cases d with
    | lst ds => obtain ⟨xs, h1, h2⟩ := h; exact ⟨xs, by rw [upd_ne na]; exact h1, h2⟩
    | dK es => obtain ⟨xs, h1, h2⟩ := h; exact ⟨xs, by rw [upd_ne na]; exact h1, h2⟩
    | dT es => obtain ⟨xs, h1, h2⟩ := h; exact ⟨xs, by rw [upd_ne na]; exact h1, h2⟩
    | ins C es => obtain ⟨dx, fs, h1, h2⟩ := h; exact ⟨dx, fs, by rw [upd_ne na]; exact h1, h2⟩
    | _ => exact h.elim
  | dL es =>
    obtain ⟨h1, h2⟩ := h
    refine ⟨by rw [upd_ne na]; exact h1, fun e he => ?_⟩
    obtain ⟨h3, xs, h4, h5⟩ := h2 e he
    have ne : e.2.1 ≠ l := n _ (List.mem_cons_of_mem _ (List.mem_map.mpr ⟨e, he, rfl⟩))
    exact ⟨h3, xs, by rw [upd_ne ne]; exact h4, h5⟩
/-- a changing object is changed -/
theorem ConcG.at_ {l : Addr} {m m' : Dt} {M' : List (Addr × MO)} {o : HO} (c : ConcG b A T σ H G) (a : At A.M l (.d m) (.d m') M') (ok : MOk G (upd H l o) l (.d m')) : ConcG b ⟨A.γ, M'⟩ T σ (upd H l o) G := by
  have hm := c.mo _ a.mem
  have nl : G l = none := hm.1
  refine ⟨c.g0, fun x u h => ?_, c.nw, ⟨fun x u hx h => ?_, fun x hx => ?_⟩, c.sl, c.tm, fun p hp => ?_, ?_, fun p hp q hq => ?_, c.t0⟩
  · have ne : x ≠ l := fun e => by rw [e, nl] at h; cases h
    rw [upd_ne ne]; exact c.gh _ _ h
  · have ne : x ≠ l := fun e => by
      have := c.nw' _ a.mem l self_own
      rw [e] at h hx
      rcases this with q | q
      · rw [h] at q; cases q
      · exact hx q
    rw [upd_ne ne]; exact c.kp.1 _ _ hx h
  · by_cases e : x = l
    · rw [e, upd_same]; simp
    · rw [upd_ne e]; exact c.kp.2 x hx
  · rcases a.apart c.nd p hp with e | ⟨h1, h2⟩
    · rw [e]; exact ⟨nl, ok⟩
    · exact ⟨(c.mo p h1).1, (c.mo p h1).2.upd h2⟩
  · show (M'.flatMap LD.own).Nodup
    rw [a.own_eq rfl]; exact c.nd
  · rcases a.of_mem p hp with e | h
    · rw [e] at hq
      exact c.nw' _ a.mem q hq
    · exact c.nw' p h q hq
/-- a changing object of one's own is frozen -/
theorem ConcG.freeze {l : Addr} {m : Dt} {M' : List (Addr × MO)} (c : ConcG b A T σ H G) (a : Del A.M l (.d m) M') (hl : l ∉ b.mu) : ∃ G2, ConcG b ⟨A.γ, M'⟩ T σ H G2 ∧ Ex G G2 ∧ Rp G2 (.ref l) m := by
  obtain ⟨nl, ok⟩ := c.mo _ a.mem
  obtain ⟨o, ho⟩ : ∃ o, H l = some o := by
    cases q : H l with
    | none => exact absurd q (ok.there l self_own)
    | some o => exact ⟨o, rfl⟩
  have e : Ex G (upd G l o) := Evl.Ex.new nl
  have h0 : b.H0 l = none := (c.nw' _ a.mem l self_own).resolve_right hl
  refine ⟨upd G l o, ⟨c.g0.trans e, fun x u h => ?_, fun x h1 h2 => ?_, c.kp, c.sl.mono e, fun p hp => (c.tm p hp).mono e, fun p hp => ?_, c.nd.sublist (sub_flat _ a.sub), fun p hp => c.nw' p (a.sub.subset hp), fun p hp => (c.t0 p hp).mono e⟩, e, ?_⟩
  · by_cases q : x = l
    · rw [q, upd_same] at h; rw [q, ho]; exact h
    · rw [upd_ne q] at h; exact c.gh _ _ h
  · have ne : x ≠ l := fun q => h1 (by rw [q]; exact h0)
    rw [upd_ne ne]; exact c.nw x h1 h2
  · obtain ⟨h1, h2⟩ := a.apart c.nd p hp
    obtain ⟨h3, h4⟩ := c.mo p h1
    have ne : ∀ x ∈ own p, x ≠ l := fun x hx q => h2 x hx (by rw [q]; exact self_own)
    refine ⟨by rw [upd_ne (ne _ self_own)]; exact h3, ?_⟩
    obtain ⟨a', m'⟩ := p
    cases m' with
    | d d =>
      cases d with
      | lst ds => obtain ⟨xs, k1, k2⟩ := h4; exact ⟨xs, k1, k2.mono e⟩
      | dK es => obtain ⟨xs, k1, k2, k3⟩ := h4; exact ⟨xs, k1, k2, k3.mono e⟩
      | dT es => obtain ⟨xs, k1, k2, k3⟩ := h4; exact ⟨xs, k1, k2, k3.mono e⟩
      | ins C es => obtain ⟨dx, xs, k1, k2, k3⟩ := h4; exact ⟨dx, xs, k1, k2, k3.mono e⟩
      | _ => exact h4.elim
    | dL es =>
      obtain ⟨k1, k2⟩ := h4
      refine ⟨k1, fun e' he => ?_⟩
      obtain ⟨k3, xs, k4, k5⟩ := k2 e' he
      exact ⟨by rw [upd_ne (ne _ (List.mem_cons_of_mem _ (List.mem_map.mpr ⟨e', he, rfl⟩)))]; exact k3, xs, k4, k5.mono e⟩
  · cases m with
    | lst ds => obtain ⟨xs, k1, k2⟩ := ok; rw [ho] at k1; cases k1; exact .lst upd_same (k2.mono e)
    | dK es => obtain ⟨xs, k1, k2, k3⟩ := ok; rw [ho] at k1; cases k1; exact .dK upd_same k2 (k3.mono e)
    | dT es => obtain ⟨xs, k1, k2, k3⟩ := ok; rw [ho] at k1; cases k1; exact .dT upd_same k2 (k3.mono e)
    | ins C es => obtain ⟨dx, xs, k1, k2, k3⟩ := ok; rw [ho] at k1; cases k1; exact .ins upd_same k2 (k3.mono e)
    | _ => exact ok.elim
theorem ConcG.congr {A' : Abs} (c : ConcG b A T σ H G) (h : A = A') : ConcG b A' T σ H G := h ▸ c
/-- a value that is a changing list of one's own, taken as data from now on -/
theorem ev_frz {l : Addr} {m : Dt} {M' : List (Addr × MO)} (h : EvM b te A (.obj l) A1) (a : Del A1.M l (.d m) M') (hl : l ∉ b.mu) : EvM b te A m ⟨A1.γ, M'⟩ := fun T σ H c Q k => h T σ H c _ fun v H1 c1 => by
  obtain ⟨G, c, r⟩ := c1.top
  obtain ⟨G2, c2, e, r2⟩ := c.freeze a hl
  rw [r.obj_inv]
  exact k _ _ (c2.out r2)
theorem EvF.ev (h : EvF b te A ds A1) (hmu : b.mu = []) : EvM b te A (.lst ds) A1 := fun T σ H c Q k => h T σ H c _ fun p H1 c1 => by
  obtain ⟨G, c, r⟩ := c1.top
  obtain ⟨G2, c2, e, r2⟩ := c.freeze (M' := A1.M) .here (by rw [hmu]; simp)
  exact k _ _ (c2.out r2)

/-! ### arguments, displays -/
theorem ea_nil : EvA b tNil A [] A := fun T σ H c Q k => k [] H rfl c
theorem ea_cons {tr : TA} (h : EvM b ta A d A1) (hr : EvA b tr A1 ds A2) : EvA b (tCons ta tr) A (d :: ds) A2 := fun T σ H c Q k =>
  h T σ H c _ fun v H1 c1 => hr _ σ H1 c1 _ fun vs H2 hl c2 => k (v :: vs) H2 (by simp [hl]) (c2.sub fun p hp => by
    rw [List.zip_cons_cons, List.cons_append] at hp
    rcases List.mem_cons.mp hp with e | h
    · exact List.mem_append_right _ (by rw [e]; exact List.mem_cons_self)
    · rcases List.mem_append.mp h with h | h
      · exact List.mem_append_left _ h
      · exact List.mem_append_right _ (List.mem_cons_of_mem _ h))
theorem ev_tup {t : TA} (h : EvA b t A ds A1) (hl : ds.length ≤ sizeLine := by exact Nat.le_of_ble_eq_true rfl) : EvM b (tTup t) A (.tup ds) A1 := fun T σ H c Q k =>
  h T σ H c _ fun vs H1 hv c1 => ⟨by rw [hv]; exact hl, fun p hp => by
    obtain ⟨G, c, r⟩ := c1.zip hv
    exact k _ _ (c.tup hp r)⟩
theorem ev_lst {t : TA} (h : EvA b t A ds A1) (hl : ds.length ≤ sizeLine := by exact Nat.le_of_ble_eq_true rfl) : EvM b (tLst t) A (.lst ds) A1 := fun T σ H c Q k =>
  h T σ H c _ fun vs H1 hv c1 => ⟨by rw [hv]; exact hl, fun p hp => by
    obtain ⟨G, c, r⟩ := c1.zip hv
    exact k _ _ (c.lst hp r)⟩
theorem ef_lst {t : TA} (h : EvA b t A ds A1) (hl : ds.length ≤ sizeLine := by exact Nat.le_of_ble_eq_true rfl) : EvF b (tLst t) A ds A1 := fun T σ H c Q k =>
  h T σ H c _ fun vs H1 hv c1 => ⟨by rw [hv]; exact hl, fun p hp => by
    obtain ⟨G, c, r⟩ := c1.zip hv
    exact k _ _ (c.lstM hp r)⟩

/-! ### subscripts -/
theorem atI_len {α β : Type} {xs : List α} {ys : List β} (h : xs.length = ys.length) {i : Int} {y : β} (hy : atI ys i = some y) : ∃ j, ixN ys.length i = some j ∧ ys[j]? = some y ∧ j < xs.length := by
  unfold atI at hy
  cases e : ixN ys.length i with
  | none => rw [e] at hy; cases hy
  | some j =>
    rw [e] at hy
    exact ⟨j, rfl, hy, by have := (List.getElem?_eq_some_iff.mp (show ys[j]? = some y from hy)).1; omega⟩
theorem RpAll.atI {xs : List V} (r : RpAll G xs ds) (h : atI ds i = some d) : ∃ v, L2.atI xs i = some v ∧ Rp G v d := by
  obtain ⟨j, h1, h2, _⟩ := atI_len r.length h
  obtain ⟨v, h3, h4⟩ := r.getD h2
  refine ⟨v, ?_, h4⟩
  unfold L2.atI
  rw [r.length, h1]
  exact h3
theorem ev_ixL (ha : EvM b ta A (.lst ds) A1) (hb : EvM b tb A1 (.int i) A2) (h : atI ds i = some d) : EvM b (tOp (rIx K) ta tb) A d A2 := ev_op ha hb fun T σ H v w c Q k => .inl (by
  obtain ⟨G, c, r1, r2⟩ := c.top2
  obtain ⟨p, xs, e1, e2, e3⟩ := r2.lst_inv
  obtain ⟨x, h1, h2⟩ := e3.atI h
  exact ⟨p, xs, i, x, e1, r1.int_inv, SqL.of (c.gh _ _ e2), h1, k _ H (c.out h2)⟩)
theorem ev_ixT (ha : EvM b ta A (.tup ds) A1) (hb : EvM b tb A1 (.int i) A2) (h : atI ds i = some d) : EvM b (tOp (rIx K) ta tb) A d A2 := ev_op ha hb fun T σ H v w c Q k => .inr (.inl (by
  obtain ⟨G, c, r1, r2⟩ := c.top2
  obtain ⟨p, xs, e1, e2, e3⟩ := r2.tup_inv
  obtain ⟨x, h1, h2⟩ := e3.atI h
  exact ⟨p, xs, i, x, e1, r1.int_inv, SqT.of (c.gh _ _ e2), h1, k _ H (c.out h2)⟩))
theorem ev_ixS {s : Str} {n : Nat} (ha : EvM b ta A (.str s) A1) (hb : EvM b tb A1 (.int i) A2) (hl : s.length ≤ sizeLine) (h : atI s.cps.toList i = some n) : EvM b (tOp (rIx K) ta tb) A (.str ⟨#[n]⟩) A2 := ev_op ha hb fun T σ H v w c Q k => .inr (.inr (by
  obtain ⟨G, c, r1, r2⟩ := c.top2
  exact ⟨s, i, n, r2.str_inv, r1.int_inv, hl, h, k _ H (c.out (.str _))⟩))
theorem ConcG.lst_at {l : Addr} {M' : List (Addr × MO)} {m' : MO} (c : ConcG b A T σ H G) (a : At A.M l (.d (.lst ds)) m' M') : ∃ xs, H l = some (.lst xs) ∧ RpAll G xs ds := (c.mo _ a.mem).2
theorem ev_ixM {l : Addr} {M' : List (Addr × MO)} (ha : EvM b ta A (.obj l) A1) (hb : EvM b tb A1 (.int i) A2) (hm : At A2.M l (.d (.lst ds)) (.d (.lst ds)) M') (h : atI ds i = some d) : EvM b (tOp (rIx K) ta tb) A d A2 := ev_op ha hb fun T σ H v w c Q k => .inl (by
  obtain ⟨G, c, r1, r2⟩ := c.top2
  obtain ⟨xs, e2, e3⟩ := c.lst_at hm
  obtain ⟨x, h1, h2⟩ := e3.atI h
  exact ⟨l, xs, i, x, r2.obj_inv, r1.int_inv, SqL.of e2, h1, k _ H (c.out h2)⟩)
theorem eo_none : EvO b tNoPart A none A := fun T σ H c Q k => k H c
theorem eo_some (h : EvM b te A (.int i) A1) : EvO b (tPart te) A (some i) A1 := fun T σ H c Q k => h T σ H c _ fun v H1 c1 => by
  obtain ⟨G, c, r⟩ := c1.top
  exact ⟨i, r.int_inv, k _ ⟨G, c⟩⟩
def cutG {α : Type} (xs : List α) (lo hi : Option Int) : List α := (xs.drop (HT.sIx xs.length 0 lo)).take (HT.sIx xs.length xs.length hi - HT.sIx xs.length 0 lo)
theorem RpAll.cut {xs : List V} (r : RpAll G xs ds) (lo hi : Option Int) : RpAll G (cutV xs lo hi) (cutG ds lo hi) := by
  unfold cutV cutG
  rw [r.length]
  exact (r.drop _).take _
def rSl (K : PySem.W.Frag) : V → Option Int → Option Int → Hp → VK → Prop := fun x lo hi H Q => rSlL K x lo hi H Q ∨ rSlS x lo hi H Q
theorem sl_any {X : Cx} : SlR X (rSl X.K) := SlR.or sl_list sl_str
theorem ev_slL {tl th : TO} {lo hi : Option Int} (h : EvM b te A (.lst ds) A1) (h1 : EvO b tl A1 lo A2) (h2 : EvO b th A2 hi A3) : EvM b (tSl (rSl K) te tl th) A (.lst (cutG ds lo hi)) A3 := fun T σ H c Q k =>
  h T σ H c _ fun v H1 c1 => h1 _ σ H1 c1 _ fun H2 c2 => h2 _ σ H2 c2 _ fun H3 c3 => .inl (by
    obtain ⟨G, c, r⟩ := c3.top
    obtain ⟨p, xs, e1, e2, e3⟩ := r.lst_inv
    exact ⟨p, xs, e1, SqL.of (c.gh _ _ e2), fun q hq => k _ _ (c.lst hq (e3.cut lo hi))⟩)
theorem ef_slL {tl th : TO} {lo hi : Option Int} (h : EvM b te A (.lst ds) A1) (h1 : EvO b tl A1 lo A2) (h2 : EvO b th A2 hi A3) : EvF b (tSl (rSl K) te tl th) A (cutG ds lo hi) A3 := fun T σ H c Q k =>
  h T σ H c _ fun v H1 c1 => h1 _ σ H1 c1 _ fun H2 c2 => h2 _ σ H2 c2 _ fun H3 c3 => .inl (by
    obtain ⟨G, c, r⟩ := c3.top
    obtain ⟨p, xs, e1, e2, e3⟩ := r.lst_inv
    exact ⟨p, xs, e1, SqL.of (c.gh _ _ e2), fun q hq => k _ _ (c.lstM hq (e3.cut lo hi))⟩)
theorem ev_slS {tl th : TO} {lo hi : Option Int} {s : Str} (h : EvM b te A (.str s) A1) (h1 : EvO b tl A1 lo A2) (h2 : EvO b th A2 hi A3) (hl : s.length ≤ sizeLine) : EvM b (tSl (rSl K) te tl th) A (.str (cutS s lo hi)) A3 := fun T σ H c Q k =>
  h T σ H c _ fun v H1 c1 => h1 _ σ H1 c1 _ fun H2 c2 => h2 _ σ H2 c2 _ fun H3 c3 => .inr (by
    obtain ⟨G, c, r⟩ := c3.top
    exact ⟨s, r.str_inv, hl, k _ _ (c.out (.str _))⟩)
theorem ev_revL (h : EvM b te A (.lst ds) A1) : EvM b (tRevL K te) A (.lst ds.reverse) A1 := fun T σ H c Q k => h T σ H c _ fun v H1 c1 => by
  obtain ⟨G, c, r⟩ := c1.top
  obtain ⟨p, xs, e1, e2, e3⟩ := r.lst_inv
  exact ⟨p, xs, e1, SqL.of (c.gh _ _ e2), fun q hq => k _ _ (c.lst hq e3.reverse)⟩

/-! ### built-in calls -/
def rLen (K : PySem.W.Frag) : List V → Hp → VK → Prop := fun xs H Q => ∃ x n, xs = [x] ∧ LenV K x H n ∧ Q (.int n) H
theorem call_len' {X : Cx} : CallR X (.builtin "len") (rLen X.K) := call_len
theorem ev_lenL (h : EvM b ta A (.lst ds) A1) : EvM b (tCB (rLen K) (tCons ta tNil)) A (.int (ds.length : Int)) A1 := fun T σ H c Q k => h T σ H c _ fun v H1 c1 => by
  obtain ⟨G, c, r⟩ := c1.top
  obtain ⟨p, xs, e1, e2, e3⟩ := r.lst_inv
  subst e1
  exact ⟨_, xs.length, rfl, .inl ⟨xs, SqL.of (c.gh _ _ e2), rfl⟩, k _ _ (c.out (by rw [e3.length]; exact .int _))⟩
theorem ev_lenT (h : EvM b ta A (.tup ds) A1) : EvM b (tCB (rLen K) (tCons ta tNil)) A (.int (ds.length : Int)) A1 := fun T σ H c Q k => h T σ H c _ fun v H1 c1 => by
  obtain ⟨G, c, r⟩ := c1.top
  obtain ⟨p, xs, e1, e2, e3⟩ := r.tup_inv
  subst e1
  exact ⟨_, xs.length, rfl, .inr ⟨xs, SqT.of (c.gh _ _ e2), rfl⟩, k _ _ (c.out (by rw [e3.length]; exact .int _))⟩
theorem ev_lenS {s : Str} (h : EvM b ta A (.str s) A1) (hl : s.length ≤ sizeLine) : EvM b (tCB (rLen K) (tCons ta tNil)) A (.int (s.length : Int)) A1 := fun T σ H c Q k => h T σ H c _ fun v H1 c1 => by
  obtain ⟨G, c, r⟩ := c1.top
  obtain rfl := r.str_inv
  exact ⟨_, s.length, rfl, ⟨hl, rfl⟩, k _ _ (c.out (.int _))⟩
theorem ev_lenM {l : Addr} {M' : List (Addr × MO)} (h : EvM b ta A (.obj l) A1) (hm : At A1.M l (.d (.lst ds)) (.d (.lst ds)) M') : EvM b (tCB (rLen K) (tCons ta tNil)) A (.int (ds.length : Int)) A1 := fun T σ H c Q k => h T σ H c _ fun v H1 c1 => by
  obtain ⟨G, c, r⟩ := c1.top
  obtain rfl := r.obj_inv
  obtain ⟨xs, e2, e3⟩ := c.lst_at hm
  exact ⟨_, xs.length, rfl, .inl ⟨xs, SqL.of e2, rfl⟩, k _ _ (c.out (by rw [e3.length]; exact .int _))⟩
def rInt1 : List V → Hp → VK → Prop := fun xs H Q => (∃ i, xs = [.int i] ∧ Q (.int i) H) ∨ ∃ k, xs = [.bl k] ∧ Q (.int (if k then 1 else 0)) H
theorem call_int' {X : Cx} : CallR X (.type "int") rInt1 := call_int1
theorem ev_intI (h : EvM b ta A (.int i) A1) : EvM b (tCB rInt1 (tCons ta tNil)) A (.int i) A1 := fun T σ H c Q k => h T σ H c _ fun v H1 c1 => by
  obtain ⟨G, c, r⟩ := c1.top
  obtain rfl := r.int_inv
  exact .inl ⟨i, rfl, k _ _ (c.out (.int _))⟩
def rMin2' : List V → Hp → VK → Prop := fun xs H Q => ∃ i j, xs = [.int i, .int j] ∧ Q (.int (if j < i then j else i)) H
theorem call_min2' {X : Cx} (hc : X.calm = true) : CallR X (.builtin "min") rMin2' := call_min2 hc
theorem ev_min2 (ha : EvM b ta A (.int i) A1) (hb : EvM b tb A1 (.int j) A2) : EvM b (tCB rMin2' (tCons ta (tCons tb tNil))) A (.int (if j < i then j else i)) A2 := fun T σ H c Q k =>
  ha T σ H c _ fun v H1 c1 => hb _ σ H1 c1 _ fun w H2 c2 => by
    obtain ⟨G, c, r1, r2⟩ := c2.top2
    rw [r1.int_inv, r2.int_inv]
    exact ⟨i, j, rfl, k _ _ (c.out (.int _))⟩
def rListOf (K : PySem.W.Frag) : List V → Hp → VK → Prop := fun xs H Q => ∃ p ys, xs = [.ref p] ∧ (SqL K H p ys ∨ SqT K H p ys) ∧ ∀ l, H l = none → Q (.ref l) (upd H l (.lst ys))
theorem call_list' {X : Cx} : CallR X (.type "list") (rListOf X.K) := call_list_of
theorem ev_list (h : EvM b ta A (.lst ds) A1) : EvM b (tCB (rListOf K) (tCons ta tNil)) A (.lst ds) A1 := fun T σ H c Q k => h T σ H c _ fun v H1 c1 => by
  obtain ⟨G, c, r⟩ := c1.top
  obtain ⟨p, xs, e1, e2, e3⟩ := r.lst_inv
  subst e1
  exact ⟨p, xs, rfl, .inl (SqL.of (c.gh _ _ e2)), fun l hl => k _ _ (c.lst hl e3)⟩
theorem ef_list (h : EvM b ta A (.lst ds) A1) : EvF b (tCB (rListOf K) (tCons ta tNil)) A ds A1 := fun T σ H c Q k => h T σ H c _ fun v H1 c1 => by
  obtain ⟨G, c, r⟩ := c1.top
  obtain ⟨p, xs, e1, e2, e3⟩ := r.lst_inv
  subst e1
  exact ⟨p, xs, rfl, .inl (SqL.of (c.gh _ _ e2)), fun l hl => k _ _ (c.lstM hl e3)⟩
def rTupOf (K : PySem.W.Frag) : List V → Hp → VK → Prop := fun xs H Q => ∃ p ys, xs = [.ref p] ∧ ((SqL K H p ys ∧ ∀ l, H l = none → Q (.ref l) (upd H l (.tup ys))) ∨ (SqT K H p ys ∧ Q (.ref p) H))
theorem call_tuple' {X : Cx} : CallR X (.type "tuple") (rTupOf X.K) := call_tuple_of
theorem ev_tupL (h : EvM b ta A (.lst ds) A1) : EvM b (tCB (rTupOf K) (tCons ta tNil)) A (.tup ds) A1 := fun T σ H c Q k => h T σ H c _ fun v H1 c1 => by
  obtain ⟨G, c, r⟩ := c1.top
  obtain ⟨p, xs, e1, e2, e3⟩ := r.lst_inv
  subst e1
  exact ⟨p, xs, rfl, .inl ⟨SqL.of (c.gh _ _ e2), fun l hl => k _ _ (c.tup hl e3)⟩⟩
theorem ev_tupT (h : EvM b ta A (.tup ds) A1) : EvM b (tCB (rTupOf K) (tCons ta tNil)) A (.tup ds) A1 := fun T σ H c Q k => h T σ H c _ fun v H1 c1 => by
  obtain ⟨G, c, r⟩ := c1.top
  obtain ⟨p, xs, e1, e2, e3⟩ := id r.tup_inv
  subst e1
  exact ⟨p, xs, rfl, .inr ⟨SqT.of (c.gh _ _ e2), k _ _ (c.out r)⟩⟩
/-- isinstance(x, c), the type of such data t -/
def TyD (t : Value) : Dt → Prop
  | .non => t = .type "NoneType"
  | .bl _ => t = .type "bool"
  | .int _ => t = .type "int"
  | .str _ => t = .type "str"
  | .lst _ => t = .type "list"
  | .tup _ => t = .type "tuple"
  | _ => False

/-! ### methods of lists -/
theorem ev_pop {l : Addr} {M' : List (Addr × MO)} (h : EvM b ta A (.obj l) A1) (hm : At A1.M l (.d (.lst ds)) (.d (.lst ds.dropLast)) M') (hd : ds[ds.length - 1]? = some d) : EvM b (tBM0 K "list" rPop ta) A d ⟨A1.γ, M'⟩ := fun T σ H c Q k => h T σ H c _ fun v H1 c1 => by
  obtain ⟨G, c, r⟩ := c1.top
  obtain rfl := r.obj_inv
  obtain ⟨xs, e2, e3⟩ := c.lst_at hm
  obtain ⟨x, h1, h2⟩ := e3.getD hd
  rw [← e3.length] at h1
  refine ⟨.inl ⟨rfl, _, SqL.of e2⟩, l, xs, x, rfl, rfl, e2, h1, k _ _ ?_⟩
  exact (c.at_ hm ⟨xs.dropLast, upd_same, e3.dropLast⟩).out h2
theorem ev_append {l : Addr} {M' : List (Addr × MO)} (h : EvM b ta A (.obj l) A1) (hx : EvM b tb A1 d A2) (hm : At A2.M l (.d (.lst ds)) (.d (.lst (ds ++ [d]))) M') (hm0 : At A1.M l (.d (.lst es)) (.d (.lst es)) A1.M) (hl : ds.length < sizeLine) :
    EvM b (tBM K "list" rAppend ta (tCons tb tNil)) A .non ⟨A2.γ, M'⟩ := fun T σ H c Q k => h T σ H c _ fun v H1 c1 => by
  obtain ⟨G, c, r⟩ := c1.top
  obtain rfl := r.obj_inv
  obtain ⟨xs, e2, e3⟩ := c.lst_at hm0
  refine ⟨.inl ⟨rfl, _, SqL.of e2⟩, hx T σ H1 ⟨G, c⟩ _ fun w H2 c2 => ?_⟩
  obtain ⟨G, c, r⟩ := c2.top
  obtain ⟨xs, e2, e3⟩ := c.lst_at hm
  exact ⟨l, xs, w, rfl, rfl, e2, by rw [e3.length]; exact hl, k _ _ ((c.at_ hm ⟨xs ++ [w], upd_same, e3.append (.cons r .nil)⟩).out .non)⟩
theorem ev_extend {l : Addr} {M' : List (Addr × MO)} (h : EvM b ta A (.obj l) A1) (hx : EvM b tb A1 (.lst es) A2) (hm : At A2.M l (.d (.lst ds)) (.d (.lst (ds ++ es))) M') {fs : List Dt} (hm0 : At A1.M l (.d (.lst fs)) (.d (.lst fs)) A1.M) (hl : ds.length + es.length ≤ sizeLine) :
    EvM b (tBM K "list" rExtend ta (tCons tb tNil)) A .non ⟨A2.γ, M'⟩ := fun T σ H c Q k => h T σ H c _ fun v H1 c1 => by
  obtain ⟨G, c, r⟩ := c1.top
  obtain rfl := r.obj_inv
  obtain ⟨xs, e2, e3⟩ := c.lst_at hm0
  refine ⟨.inl ⟨rfl, _, SqL.of e2⟩, hx T σ H1 ⟨G, c⟩ _ fun w H2 c2 => ?_⟩
  obtain ⟨G, c, r⟩ := c2.top
  obtain ⟨xs, e2, e3⟩ := c.lst_at hm
  obtain ⟨p, ys, f1, f2, f3⟩ := r.lst_inv
  exact ⟨l, p, xs, ys, rfl, by rw [f1], e2, c.gh _ _ f2, by rw [e3.length, f3.length]; exact hl, k _ _ ((c.at_ hm ⟨xs ++ ys, upd_same, e3.append f3⟩).out .non)⟩
theorem At.refl {M M' : List (Addr × MO)} {l : Addr} {m m' : MO} (a : At M l m m' M') : At M l m m M := by
  induction a with
  | here => exact .here
  | there _ ih => exact .there ih

/-! ### tests -/
theorem et_val (h : EvM b te A (.bl c) A1) : EvT b (tTest te) A c A1 := fun T σ H k Q q => h T σ H k _ fun v H1 c1 => by
  obtain ⟨G, g, r⟩ := c1.top
  exact ⟨c, r.bl_inv, q _ ⟨G, g⟩⟩
theorem et_B (h : EvM b te A (.bl c) A1) : EvT b (tB te) A c A1 := fun T σ H k Q q => h T σ H k _ fun v H1 c1 => by
  obtain ⟨G, g, r⟩ := c1.top
  exact ⟨c, r.bl_inv, q _ ⟨G, g⟩⟩
theorem et_not (h : EvT b tt A c A1) : EvT b (tNot tt) A (!c) A1 := fun T σ H k Q q => h T σ H k _ fun H1 c1 => q H1 c1
theorem et_and (h : EvT b tt A c A1) (h2 : c = true → EvT b uu A1 c' A1) : EvT b (tAnd tt uu) A (c && c') A1 := fun T σ H k Q q => h T σ H k _ fun H1 c1 => by
  cases c with
  | true => exact iteT (h2 rfl T σ H1 c1 Q q)
  | false => exact iteF (q H1 c1)
theorem et_or (h : EvT b tt A c A1) (h2 : c = false → EvT b uu A1 c' A1) : EvT b (tOr tt uu) A (c || c') A1 := fun T σ H k Q q => h T σ H k _ fun H1 c1 => by
  cases c with
  | true => exact iteT (q H1 c1)
  | false => exact iteF (h2 rfl T σ H1 c1 Q q)
/-- by truth -/
def tTruth (K : PySem.W.Frag) (ta : TE) : TT := fun σ H Q => ta σ H fun x H' => ∃ k, TruV K x H' k ∧ Q k H'
theorem et_truL (h : EvM b te A (.lst ds) A1) : EvT b (tTruth K te) A (!ds.isEmpty) A1 := fun T σ H k Q q => h T σ H k _ fun v H1 c1 => by
  obtain ⟨G, g, r⟩ := c1.top
  obtain ⟨p, xs, e1, e2, e3⟩ := r.lst_inv
  subst e1
  refine ⟨_, .inl ⟨xs, SqL.of (g.gh _ _ e2), rfl⟩, ?_⟩
  rw [show xs.isEmpty = ds.isEmpty by have := e3.length; cases xs <;> cases ds <;> simp_all]
  exact q _ ⟨G, g⟩
theorem et_truM {l : Addr} {M' : List (Addr × MO)} (h : EvM b te A (.obj l) A1) (hm : At A1.M l (.d (.lst ds)) (.d (.lst ds)) M') : EvT b (tTruth K te) A (!ds.isEmpty) A1 := fun T σ H k Q q => h T σ H k _ fun v H1 c1 => by
  obtain ⟨G, g, r⟩ := c1.top
  obtain rfl := r.obj_inv
  obtain ⟨xs, e2, e3⟩ := g.lst_at hm
  refine ⟨_, .inl ⟨xs, SqL.of e2, rfl⟩, ?_⟩
  rw [show xs.isEmpty = ds.isEmpty by have := e3.length; cases xs <;> cases ds <;> simp_all]
  exact q _ ⟨G, g⟩
theorem et_truB (h : EvM b te A (.bl c) A1) : EvT b (tTruth K te) A c A1 := fun T σ H k Q q => h T σ H k _ fun v H1 c1 => by
  obtain ⟨G, g, r⟩ := c1.top
  obtain rfl := r.bl_inv
  exact ⟨c, rfl, q _ ⟨G, g⟩⟩
theorem ev_andV (h : EvM b ta A (.bl c) A1) (h2 : c = true → EvM b tb A1 (.bl c') A1) : EvM b (tAndV ta tb) A (.bl (c && c')) A1 := fun T σ H k Q q => h T σ H k _ fun v H1 c1 => by
  obtain ⟨G, g, r⟩ := c1.top
  refine ⟨c, r.bl_inv, ?_⟩
  cases c with
  | true => exact iteT (h2 rfl T σ H1 ⟨G, g⟩ Q q)
  | false => exact iteF (q _ _ (g.out (.bl _)))
theorem ev_orV (h : EvM b ta A (.bl c) A1) (h2 : c = false → EvM b tb A1 (.bl c') A1) : EvM b (tOrV ta tb) A (.bl (c || c')) A1 := fun T σ H k Q q => h T σ H k _ fun v H1 c1 => by
  obtain ⟨G, g, r⟩ := c1.top
  refine ⟨c, r.bl_inv, ?_⟩
  cases c with
  | true => exact iteT (q _ _ (g.out (.bl _)))
  | false => exact iteF (h2 rfl T σ H1 ⟨G, g⟩ Q q)
theorem ev_notV (h : EvM b ta A (.bl c) A1) : EvM b (tNotV ta) A (.bl (!c)) A1 := fun T σ H k Q q => h T σ H k _ fun v H1 c1 => by
  obtain ⟨G, g, r⟩ := c1.top
  exact ⟨c, r.bl_inv, q _ _ (g.out (.bl _))⟩
theorem ev_if (h : EvT b tt A c A1) (h1 : c = true → EvM b ta A1 d A2) (h2 : c = false → EvM b tb A1 d A2) : EvM b (tIf tt ta tb) A d A2 := fun T σ H k Q q => h T σ H k _ fun H1 c1 => by
  cases c with
  | true => exact iteT (h1 rfl T σ H1 c1 Q q)
  | false => exact iteF (h2 rfl T σ H1 c1 Q q)
/-- a < b < c of ints -/
theorem ev_chain {r r' : R2} {k' : Int} {f f' : Bool} (ha : EvM b ta A (.int i) A1) (hb : EvM b tb A1 (.int j) A2) (hr : RVd b r A2 (.int i) (.int j) (.bl f) A2) (hc : f = true → EvM b tc A2 (.int k') A2)
    (hr' : RVd b r' A2 (.int j) (.int k') (.bl f') A2) : EvM b (tChain r r' ta tb tc) A (.bl (f && f')) A2 := fun T σ H c Q q =>
  ha T σ H c _ fun v H1 c1 => hb _ σ H1 c1 _ fun w H2 c2 => by
    have w2 := c2
    obtain ⟨G, g, r1, r2⟩ := c2.top2
    obtain rfl := r1.int_inv
    obtain rfl := r2.int_inv
    refine hr T σ H2 _ _ w2 _ fun u H3 c3 => ?_
    obtain ⟨G3, g3, r3⟩ := c3.top
    refine ⟨f, r3.bl_inv, ?_⟩
    cases f with
    | true =>
      refine iteT (hc rfl ((V.int j, Dt.int j) :: T) σ H3 (g3.out (.int j)) _ fun x H4 c4 => ?_)
      exact hr' T σ H4 _ _ c4 _ q
    | false => exact iteF (q _ _ (g3.out (.bl _)))

/-! ### targets -/
theorem ga_name {n : Nat} : GA b (gName n) d A ⟨A.γ.set n (some d), A.M⟩ := fun T σ H v c Q q => by
  obtain ⟨G, g, r⟩ := c.top
  exact q _ _ ⟨G, g.set r⟩
theorem gas_nil : GAs b gNil [] A A := fun T σ H vs hl c Q q => by
  have e : vs = [] := List.eq_nil_of_length_eq_zero hl
  subst e
  exact ⟨rfl, q _ _ c⟩
theorem gas_cons {g : TG} {gs : TGs} (h : GA b g d A A1) (hs : GAs b gs ds A1 A2) : GAs b (gCons g gs) (d :: ds) A A2 := fun T σ H vs hl c Q q => by
  cases vs with
  | nil => simp at hl
  | cons v vs =>
    refine ⟨v, vs, rfl, h (vs.zip ds ++ T) σ H v c _ fun σ' H' c' => ?_⟩
    exact hs T σ' H' vs (by simpa using hl) c' _ q
theorem ga_tup {n : Nat} {gs : TGs} (h : GAs b gs ds A A1) (hn : ds.length = n := by rfl) : GA b (gTup K n gs) (.tup ds) A A1 := fun T σ H v c Q q => by
  obtain ⟨G, g, r⟩ := c.top
  obtain ⟨p, xs, e1, e2, e3⟩ := r.tup_inv
  refine ⟨p, xs, e1, SqT.of (g.gh _ _ e2), by rw [e3.length]; exact hn, ?_⟩
  exact h T σ H xs e3.length ⟨G, g.pushAll e3⟩ Q q

/-! ### statements -/
variable {P : Post} {t u : TS}
theorem s_seq (h : StA b t A { P with nx := fun A' => StA b u A' P }) : StA b (tSeq t u) A P := fun T σ H c D h1 h2 h3 h4 =>
  h T σ H c _ (fun A' σ' H' q c' => q T σ' H' c' D h1 h2 h3 h4) h2 h3 h4
theorem s_asg {n : Nat} (h : EvM b te A d A1) (k : P.nx ⟨A1.γ.set n (some d), A1.M⟩) : StA b (tAsg te (gName n)) A P := fun T σ H c D h1 h2 h3 h4 =>
  h T σ H c _ fun v H1 c1 => ga_name T σ H1 v c1 _ fun σ' H' c' => h1 _ _ _ k c'
theorem s_asgR {n : Nat} {R : Dt → Abs → Prop} (h : EvR b te A R) (k : ∀ d A1, R d A1 → P.nx ⟨A1.γ.set n (some d), A1.M⟩) : StA b (tAsg te (gName n)) A P := fun T σ H c D h1 h2 h3 h4 =>
  h T σ H c _ fun v d A1 H1 r c1 => ga_name T σ H1 v c1 _ fun σ' H' c' => h1 _ _ _ (k d A1 r) c'
/-- name = a new list -/
theorem s_asgF {n : Nat} (h : EvF b te A ds A1) (k : ∀ p, P.nx ⟨A1.γ.set n (some (.obj p)), (p, .d (.lst ds)) :: A1.M⟩) : StA b (tAsg te (gName n)) A P := fun T σ H c D h1 h2 h3 h4 =>
  h T σ H c _ fun p H1 c1 => ga_name T σ H1 _ c1 _ fun σ' H' c' => h1 _ _ _ (k p) c'
theorem s_tgt {g : TG} (h : EvM b te A d A1) (hg : GA b g d A1 A2) (k : P.nx A2) : StA b (tAsg te g) A P := fun T σ H c D h1 h2 h3 h4 =>
  h T σ H c _ fun v H1 c1 => hg T σ H1 v c1 _ fun σ' H' c' => h1 _ _ _ k c'
theorem s_drop (h : EvM b te A d A1) (k : P.nx A1) : StA b (tDrop te) A P := fun T σ H c D h1 h2 h3 h4 => h T σ H c _ fun v H1 c1 => h1 _ _ _ k c1.pop
theorem s_ret (h : EvM b te A d A1) (k : P.rt d A1) : StA b (tRet te) A P := fun T σ H c D h1 h2 h3 h4 => h T σ H c _ fun v H1 c1 => h4 _ _ _ _ _ k c1
theorem s_retR {R : Dt → Abs → Prop} (h : EvR b te A R) (k : ∀ d A1, R d A1 → P.rt d A1) : StA b (tRet te) A P := fun T σ H c D h1 h2 h3 h4 => h T σ H c _ fun v d A1 H1 r c1 => h4 _ _ _ _ _ (k d A1 r) c1
theorem s_retN (k : P.rt .non A) : StA b tRetN A P := fun T σ H c D h1 h2 h3 h4 => by
  obtain ⟨G, g⟩ := c
  exact h4 _ _ _ σ _ k (g.out .non)
theorem s_next (k : P.nx A) : StA b tNext A P := fun T σ H c D h1 h2 h3 h4 => h1 _ _ _ k c
theorem s_brk (k : P.bk A) : StA b tBreak A P := fun T σ H c D h1 h2 h3 h4 => h2 _ _ _ k c
theorem s_cont (k : P.ct A) : StA b tCont A P := fun T σ H c D h1 h2 h3 h4 => h3 _ _ _ k c
theorem s_if (h : EvT b tt A c A1) (h1 : c = true → StA b t A1 P) (h2 : c = false → StA b u A1 P) : StA b (tIfS tt t u) A P := fun T σ H k D q1 q2 q3 q4 => h T σ H k _ fun H1 c1 => by
  cases c with
  | true => exact iteT (h1 rfl T σ H1 c1 D q1 q2 q3 q4)
  | false => exact iteF (h2 rfl T σ H1 c1 D q1 q2 q3 q4)
theorem StA.mono {P' : Post} (h : StA b t A P) (h1 : ∀ A', P.nx A' → P'.nx A') (h2 : ∀ A', P.bk A' → P'.bk A') (h3 : ∀ A', P.ct A' → P'.ct A') (h4 : ∀ d A', P.rt d A' → P'.rt d A') : StA b t A P' := fun T σ H c D q1 q2 q3 q4 =>
  h T σ H c D (fun A' σ' H' q c' => q1 A' σ' H' (h1 _ q) c') (fun A' σ' H' q c' => q2 A' σ' H' (h2 _ q) c') (fun A' σ' H' q c' => q3 A' σ' H' (h3 _ q) c') fun v d A' σ' H' q c' => q4 v d A' σ' H' (h4 _ _ q) c'
/-- l[i] = v of a changing list -/
theorem s_setL {l : Addr} {M' : List (Addr × MO)} {n : Nat} (h : EvM b te A d A1) (ho : EvM b ta A1 (.obj l) A2) (hi : EvM b tb A2 (.int i) A3) (hx : ixN ds.length i = some n) (hm : At A3.M l (.d (.lst ds)) (.d (.lst (ds.set n d))) M') (k : P.nx ⟨A3.γ, M'⟩) :
    StA b (tAsg te (gSub ta tb rSetL)) A P := fun T σ H c D h1 h2 h3 h4 => h T σ H c _ fun v H1 c1 => ho _ σ H1 c1 _ fun w H2 c2 => hi _ σ H2 c2 _ fun x H3 c3 => by
  obtain ⟨G, g, r1, r2⟩ := c3.top2
  obtain ⟨G, g⟩ := c3
  have rv := g.tm (v, d) (by simp)
  have rw' := (g.tm (w, .obj l) (by simp)).obj_inv
  have rx := (g.tm (x, .int i) (by simp)).int_inv
  obtain ⟨xs, e2, e3⟩ := g.lst_at hm
  refine ⟨l, xs, i, n, rw', rx, e2, by rw [e3.length]; exact hx, h1 _ _ _ k ⟨G, ((g.at_ hm ⟨xs.set n v, upd_same, e3.set n rv⟩).sub fun p hp => by simp [hp])⟩⟩
/-- forgetting -/
def WkL : List (Option Dt) → List (Option Dt) → Prop
  | [], [] => True
  | _ :: γ, none :: γ' => WkL γ γ'
  | g :: γ, some d :: γ' => g = some d ∧ WkL γ γ'
  | _, _ => False
def Wk (A A' : Abs) : Prop := WkL A.γ A'.γ ∧ A'.M.Sublist A.M
theorem WkL.refl : ∀ γ, WkL γ γ
  | [] => True.intro
  | none :: γ => WkL.refl γ
  | some _ :: γ => ⟨rfl, WkL.refl γ⟩
theorem SRp.wk : ∀ {σ : St} {γ γ' : List (Option Dt)}, WkL γ γ' → SRp G σ γ → SRp G σ γ'
  | [], [], [], _, _ => True.intro
  | v :: σ, some d :: γ, none :: γ', w, r => SRp.wk (σ := σ) (γ := γ) (γ' := γ') w r.2
  | v :: σ, none :: γ, none :: γ', w, r => SRp.wk (σ := σ) (γ := γ) (γ' := γ') w r
  | v :: σ, some d :: γ, some d' :: γ', w, r => by
    obtain ⟨e, w⟩ := w
    cases e
    exact ⟨r.1, SRp.wk w r.2⟩
  | v :: σ, none :: γ, some d' :: γ', w, r => by cases w.1
  | [], [], _ :: _, w, _ => w.elim
  | [], _ :: _, _, _, r => r.elim
  | _ :: _, [], _, _, r => r.elim
  | _ :: _, none :: _, [], w, _ => w.elim
  | _ :: _, some _ :: _, [], w, _ => w.elim
theorem Conc.wk (c : Conc b A T σ H) (w : Wk A A1) : Conc b A1 T σ H := by
  obtain ⟨G, g⟩ := c
  exact ⟨G, g.g0, g.gh, g.nw, g.kp, g.sl.wk w.1, g.tm, fun p hp => g.mo p (w.2.subset hp), g.nd.sublist (sub_flat _ w.2), fun p hp => g.nw' p (w.2.subset hp), g.t0⟩
theorem StA.wk (h : StA b t A1 P) (w : Wk A A1) : StA b t A P := fun T σ H c => h T σ H (c.wk w)
/-- up to forgetting -/
def Up (I : Abs → Prop) (A : Abs) : Prop := ∃ A', Wk A A' ∧ I A'
theorem Up.of {I : Abs → Prop} (h : I A) : Up I A := ⟨A, ⟨WkL.refl _, List.Sublist.refl _⟩, h⟩
end

/-! ### what is walked -/
/-- J serves f 0, .., f (n - 1), while T0 stands -/
def Serves (b : Bs) (J : It) (n : Nat) (f : Nat → Dt) (T0 : Tmp) : Prop := ∀ i A T σ H, Conc b A (T0 ++ T) σ H → (n ≤ i → J.stop i H) ∧ (i < n → J.go i H ∧ ∀ x H', J.yld i H x H' → Conc b A ((x, f i) :: (T0 ++ T)) σ H')
def EvI (b : Bs) (wi : TI) (A : Abs) (n : Nat) (f : Nat → Dt) (A' : Abs) : Prop := ∀ T σ H, Conc b A T σ H → ∀ R : It → Hp → Prop, (∀ J T0 H2, Conc b A' (T0 ++ T) σ H2 → Serves b J n f T0 → R J H2) → wi σ H R
section
variable {b : Bs} {A A1 A2 A3 : Abs} {T : Tmp} {σ : St} {H H2 G : Hp} {v : V} {d e z : Dt} {ds es : List Dt} {te ta tb tc : TE} {i j : Int} {c c' : Bool} {tt uu : TT} {K : PySem.W.Frag} {P : Post} {t u : TS} {n : Nat} {f : Nat → Dt} {wi : TI}
theorem Rp.lst_at {a : Addr} (r : Rp G (.ref a) (.lst ds)) : ∃ xs, G a = some (.lst xs) ∧ RpAll G xs ds := by
  obtain ⟨p, xs, e1, e2, e3⟩ := r.lst_inv
  cases e1
  exact ⟨xs, e2, e3⟩
theorem Rp.tup_at {a : Addr} (r : Rp G (.ref a) (.tup ds)) : ∃ xs, G a = some (.tup xs) ∧ RpAll G xs ds := by
  obtain ⟨p, xs, e1, e2, e3⟩ := r.tup_inv
  cases e1
  exact ⟨xs, e2, e3⟩
theorem getD_some {i : Nat} (h : i < ds.length) : ds[i]? = some (ds.getD i .non) := by
  simp [List.getD, h]
theorem ei_list (h : EvM b te A (.lst ds) A1) : EvI b (iList K te) A ds.length (fun i => ds.getD i .non) A1 := fun T σ H c R k => h T σ H c _ fun v H1 c1 => by
  have w := c1
  obtain ⟨G, g, r⟩ := c1.top
  obtain ⟨a, xs, e1, e2, e3⟩ := r.lst_inv
  subst e1
  refine ⟨a, rfl, ⟨xs, SqL.of (g.gh _ _ e2)⟩, k _ [(.ref a, .lst ds)] H1 w fun i A T σ H c => ?_⟩
  obtain ⟨G, g⟩ := id c
  obtain ⟨xs, e2, e3⟩ := (g.tm (.ref a, .lst ds) (by simp)).lst_at
  have sq : SqL K H a xs := SqL.of (g.gh _ _ e2)
  refine ⟨fun hn => ⟨xs, sq, by rw [e3.length]; exact hn⟩, fun hn => ?_⟩
  obtain ⟨x, h1, h2⟩ := e3.getD (getD_some hn)
  refine ⟨⟨xs, x, sq, h1⟩, fun y H' hy => ?_⟩
  obtain ⟨rfl, hy⟩ := hy
  have := hy xs sq
  rw [h1] at this
  cases this
  exact g.out h2
theorem ei_tup (h : EvM b te A (.tup ds) A1) : EvI b (iTup K te) A ds.length (fun i => ds.getD i .non) A1 := fun T σ H c R k => h T σ H c _ fun v H1 c1 => by
  have w := c1
  obtain ⟨G, g, r⟩ := c1.top
  obtain ⟨a, xs, e1, e2, e3⟩ := r.tup_inv
  subst e1
  refine ⟨a, rfl, ⟨xs, SqT.of (g.gh _ _ e2)⟩, k _ [(.ref a, .tup ds)] H1 w fun i A T σ H c => ?_⟩
  obtain ⟨G, g⟩ := id c
  obtain ⟨xs, e2, e3⟩ := (g.tm (.ref a, .tup ds) (by simp)).tup_at
  have sq : SqT K H a xs := SqT.of (g.gh _ _ e2)
  refine ⟨fun hn => ⟨xs, sq, by rw [e3.length]; exact hn⟩, fun hn => ?_⟩
  obtain ⟨x, h1, h2⟩ := e3.getD (getD_some hn)
  refine ⟨⟨xs, x, sq, h1⟩, fun y H' hy => ?_⟩
  obtain ⟨rfl, hy⟩ := hy
  have := hy xs sq
  rw [h1] at this
  cases this
  exact g.out h2
theorem serves_rng {lo : Int} {n : Nat} : Serves b (Itr lo n) n (fun i => .int (lo + (i : Nat))) [] := fun i A T σ H c => ⟨fun hn => hn, fun hn => ⟨hn, fun x H' hy => by
  obtain ⟨rfl, rfl⟩ := hy
  obtain ⟨G, g⟩ := c
  exact g.out (.int _)⟩⟩
theorem ei_rng1 {t : TA} (h : EvA b t A [.int i] A1) (h0 : -(2 ^ 62) ≤ i) (h1 : i < 2 ^ 62) : EvI b (iRng1 t) A i.toNat (fun k => .int (0 + (k : Nat))) A1 := fun T σ H c R k => h T σ H c _ fun vs H1 hv c1 => by
  obtain ⟨G, g, r⟩ := c1.zip hv
  cases r with
  | cons r1 r2 =>
    cases r2
    exact ⟨i, by rw [r1.int_inv], h0, h1, k _ [] H1 ⟨G, g⟩ serves_rng⟩
theorem ei_rng2 {t : TA} (h : EvA b t A [.int i, .int j] A1) (h0 : -(2 ^ 62) ≤ i ∧ i < 2 ^ 62 ∧ -(2 ^ 62) ≤ j ∧ j < 2 ^ 62) : EvI b (iRng2 t) A (j - i).toNat (fun k => .int (i + (k : Nat))) A1 := fun T σ H c R k => h T σ H c _ fun vs H1 hv c1 => by
  obtain ⟨G, g, r⟩ := c1.zip hv
  cases r with
  | cons r1 r2 =>
    cases r2 with
    | cons r2 r3 =>
      cases r3
      exact ⟨i, j, by rw [r1.int_inv, r2.int_inv], h0, k _ [] H1 ⟨G, g⟩ serves_rng⟩
theorem ei_rng3 {t : TA} {m : Nat} {l : Int} (h : EvA b t A [.int i, .int j, .int l] A1) (h0 : RgC i j l m) : EvI b (iRng3 t) A m (fun k => .int (i + (k : Nat) * l)) A1 := fun T σ H c R k => h T σ H c _ fun vs H1 hv c1 => by
  obtain ⟨G, g, r⟩ := c1.zip hv
  cases r with
  | cons r1 r2 =>
    cases r2 with
    | cons r2 r3 =>
      cases r3 with
      | cons r3 r4 =>
        cases r4
        refine ⟨i, j, l, m, by rw [r1.int_inv, r2.int_inv, r3.int_inv], h0, k _ [] H1 ⟨G, g⟩ fun i' A T σ H c => ⟨fun hn => hn, fun hn => ⟨hn, fun x H' hy => ?_⟩⟩⟩
        obtain ⟨rfl, rfl⟩ := hy
        obtain ⟨G, g⟩ := c
        exact g.out (.int _)
theorem ei_str {s : Str} (h : EvM b te A (.str s) A1) : EvI b (iStr te) A s.cps.size (fun k => .str ⟨#[s.cps.getD k 0]⟩) A1 := fun T σ H c R k => h T σ H c _ fun v H1 c1 => by
  obtain ⟨G, g, r⟩ := c1.top
  refine ⟨s, r.str_inv, k _ [] H1 ⟨G, g⟩ fun i A T σ H c => ⟨fun hn => hn, fun hn => ⟨hn, fun x H' hy => ?_⟩⟩⟩
  obtain ⟨rfl, n, h1, rfl⟩ := hy
  obtain ⟨G, g⟩ := c
  have : s.cps.getD i 0 = n := by
    simp [Array.getD_eq_getD_getElem?, h1]
  show Conc b A ((_, Dt.str ⟨#[s.cps.getD i 0]⟩) :: _) σ _
  rw [this]
  exact g.out (.str _)
/-- the for statement -/
theorem s_for {g : TG} {tb : TS} (I : Nat → Abs → Prop) (hi : EvI b wi A n f A1) (h0 : Up (I 0) A1) (hs : ∀ i A', i < n → I i A' → ∃ A2, GA b g (f i) A' A2 ∧ StA b tb A2 ⟨Up (I (i + 1)), P.nx, Up (I (i + 1)), P.rt⟩) (hd : ∀ A', I n A' → P.nx A') :
    StA b (tFor wi g tb) A P := fun T σ H c D q1 q2 q3 q4 => hi T σ H c _ fun J T0 H1 c1 sv => by
  refine ⟨fun i m σ' H' => m = n - i ∧ i ≤ n ∧ ∃ A', I i A' ∧ Conc b A' (T0 ++ T) σ' H', ?_, ?_⟩
  · obtain ⟨A', w, i0⟩ := h0
    exact ⟨n - 0, rfl, Nat.zero_le _, A', i0, c1.wk w⟩
  · rintro i m σ' H' ⟨rfl, hi', A', iA, cA⟩
    by_cases hlt : i < n
    · obtain ⟨go, yld⟩ := (sv i A' T σ' H' cA).2 hlt
      refine .inr ⟨go, fun σ2 H2 => ∃ A2, I (i + 1) A2 ∧ Conc b A2 (T0 ++ T) σ2 H2, fun σ2 H2 ⟨A2, h1, h2⟩ => ⟨n - (i + 1), by omega, rfl, hlt, A2, h1, h2⟩, fun x H2 hy => ?_⟩
      obtain ⟨A2, ga, st⟩ := hs i A' hlt iA
      refine ga (T0 ++ T) σ' H2 x (yld x H2 hy) _ fun σ3 H3 c3 => ?_
      refine st (T0 ++ T) σ3 H3 c3 _ (fun A4 σ4 H4 ⟨A5, w, i5⟩ c4 => ⟨A5, i5, c4.wk w⟩) (fun A4 σ4 H4 k c4 => q1 A4 σ4 H4 k (c4.sub fun p hp => List.mem_append_right _ hp)) (fun A4 σ4 H4 ⟨A5, w, i5⟩ c4 => ⟨A5, i5, c4.wk w⟩)
        fun v d A4 σ4 H4 k c4 => q4 v d A4 σ4 H4 k (c4.sub fun p hp => by
          rcases List.mem_cons.mp hp with e | h
          · rw [e]; exact List.mem_cons_self
          · exact List.mem_cons_of_mem _ (List.mem_append_right _ h))
    · have e : i = n := by omega
      subst e
      exact .inl ⟨(sv i A' T σ' H' cA).1 (Nat.le_refl _), q1 A' σ' H' (hd A' iA) (cA.sub fun p hp => List.mem_append_right _ hp)⟩
/-- the while statement -/
theorem s_while {tb : TS} (I : Nat → Abs → Prop) (m0 : Nat) (h0 : Up (I m0) A) (hs : ∀ m A', I m A' → ∃ c A2, EvT b tt A' c A2 ∧ (c = true → StA b tb A2 ⟨Up fun A3 => ∃ m', m' < m ∧ I m' A3, P.nx, Up fun A3 => ∃ m', m' < m ∧ I m' A3, P.rt⟩) ∧ (c = false → P.nx A2)) :
    StA b (tWhile tt tb) A P := fun T σ H c D q1 q2 q3 q4 => by
  refine ⟨fun m σ' H' => ∃ A', I m A' ∧ Conc b A' T σ' H', ?_, ?_⟩
  · obtain ⟨A', w, i0⟩ := h0
    exact ⟨m0, A', i0, c.wk w⟩
  · rintro m σ' H' ⟨A', iA, cA⟩
    obtain ⟨k, A2, et, k1, k2⟩ := hs m A' iA
    refine et T σ' H' cA _ fun H2 c2 => ?_
    cases k with
    | true =>
      refine iteT ⟨fun σ3 H3 => ∃ A3 m', m' < m ∧ I m' A3 ∧ Conc b A3 T σ3 H3, fun σ3 H3 ⟨A3, m', h1, h2, h3⟩ => ⟨m', h1, A3, h2, h3⟩, ?_⟩
      exact k1 rfl T σ' H2 c2 _ (fun A4 σ4 H4 ⟨A5, w, m', h1, h2⟩ c4 => ⟨A5, m', h1, h2, c4.wk w⟩) q1 (fun A4 σ4 H4 ⟨A5, w, m', h1, h2⟩ c4 => ⟨A5, m', h1, h2, c4.wk w⟩) q4
    | false => exact iteF (q1 A2 σ' H2 (k2 rfl) c2)
/-! ### list comprehensions -/
def wipeD (γ : List (Option Dt)) : List Nat → List (Option Dt)
  | [] => γ
  | v :: vs => (wipeD γ vs).set v none
theorem SRp.setN {G : Hp} : ∀ {σ : St} {γ : List (Option Dt)} (i : Nat), SRp G σ γ → SRp G (σ.set i none) (γ.set i none)
  | [], [], _, _ => True.intro
  | v :: σ, some d' :: γ, 0, ⟨_, r⟩ => r
  | v :: σ, some d' :: γ, i + 1, ⟨h, r⟩ => ⟨h, SRp.setN i r⟩
  | v :: σ, none :: γ, 0, r => r
  | v :: σ, none :: γ, i + 1, r => SRp.setN (σ := σ) (γ := γ) i r
  | [], _ :: _, _, h => h.elim
  | _ :: _, [], _, h => h.elim
theorem SRp.wipe {γ : List (Option Dt)} (r : SRp G σ γ) : ∀ vs, SRp G (wipe σ vs) (wipeD γ vs)
  | [] => r
  | v :: vs => (SRp.wipe r vs).setN v
theorem wipe_set : ∀ {vs : List Nat} {σ : St} {k : Nat} {x : Option V}, k ∈ vs → wipe ((wipe σ vs).set k x) vs = wipe σ vs := by
  intro vs σ k x hk
  have key : ∀ (us : List Nat) (τ : St), (∀ i, i ∉ us → ((τ.set k x)[i]? = τ[i]? ∨ i = k)) := fun us τ i _ => by
    by_cases e : i = k
    · exact .inr e
    · exact .inl (List.getElem?_set_ne (Ne.symm e))
  have get : ∀ (us : List Nat) (τ : St) (i : Nat), (L2.wipe τ us)[i]? = if i ∈ us then (if i < τ.length then some none else none) else τ[i]? := by
    intro us
    induction us with
    | nil => intro τ i; simp [L2.wipe]
    | cons w us ih =>
      intro τ i
      show ((L2.wipe τ us).set w none)[i]? = _
      by_cases e : w = i
      · subst e
        by_cases hl : w < τ.length
        · rw [List.getElem?_set_self (by rw [wipe_length]; exact hl)]; simp [hl]
        · rw [List.getElem?_eq_none (by rw [List.length_set, wipe_length]; omega)]; simp [hl]
      · rw [List.getElem?_set_ne e, ih]
        have e' : i ≠ w := fun q => e q.symm
        simp [e']
  apply List.ext_getElem?
  intro i
  rw [get, get]
  by_cases hi : i ∈ vs
  · simp [hi, wipe_length]
  · have e : i ≠ k := fun q => hi (q ▸ hk)
    rw [if_neg hi, if_neg hi, List.getElem?_set_ne (Ne.symm e), get, if_neg hi]
/-- the items that are kept -/
def given (n : Nat) (p : Nat → Bool) (g : Nat → Dt) : List Dt := ((List.range n).filter p).map g
theorem given_succ (n : Nat) (p : Nat → Bool) (g : Nat → Dt) : given (n + 1) p g = if p n = true then given n p g ++ [g n] else given n p g := by
  unfold given
  rw [List.range_succ, List.filter_append, List.map_append]
  by_cases h : p n = true
  · simp [h]
  · simp [h]
theorem given_length (n : Nat) (p : Nat → Bool) (g : Nat → Dt) : (given n p g).length ≤ n := by
  unfold given
  rw [List.length_map]
  have := List.length_filter_le p (List.range n)
  rwa [List.length_range] at this
def slT : St → List (Option Dt) → Tmp
  | some x :: σ, some d :: γ => (x, d) :: slT σ γ
  | none :: σ, some _ :: γ => slT σ γ
  | _ :: σ, none :: γ => slT σ γ
  | _, _ => []
theorem SRp.slT {G : Hp} : ∀ {σ : St} {γ : List (Option Dt)}, SRp G σ γ → ∀ p ∈ LD.slT σ γ, Rp G p.1 p.2
  | [], [], _ => by intro p hp; cases hp
  | some x :: σ, some d :: γ, ⟨⟨y, e, h⟩, r⟩ => by
    cases e
    intro p hp
    rcases List.mem_cons.mp hp with e | h'
    · rw [e]; exact h
    · exact SRp.slT r p h'
  | none :: σ, some d :: γ, ⟨⟨y, e, h⟩, r⟩ => by cases e
  | some _ :: σ, none :: γ, r => SRp.slT (σ := σ) (γ := γ) r
  | none :: σ, none :: γ, r => SRp.slT (σ := σ) (γ := γ) r
  | [], _ :: _, h => h.elim
  | _ :: _, [], h => h.elim
theorem SRp.back {G G' : Hp} : ∀ {σ : St} {γ : List (Option Dt)}, SRp G σ γ → (∀ p ∈ LD.slT σ γ, Rp G' p.1 p.2) → SRp G' σ γ
  | [], [], _, _ => True.intro
  | some x :: σ, some d :: γ, ⟨⟨y, e, h⟩, r⟩, k => by
    cases e
    exact ⟨⟨x, rfl, k (x, d) List.mem_cons_self⟩, SRp.back r fun p hp => k p (List.mem_cons_of_mem _ hp)⟩
  | none :: σ, some d :: γ, ⟨⟨y, e, h⟩, r⟩, _ => by cases e
  | some _ :: σ, none :: γ, r, k => SRp.back (σ := σ) (γ := γ) r k
  | none :: σ, none :: γ, r, k => SRp.back (σ := σ) (γ := γ) r k
  | [], _ :: _, h, _ => h.elim
  | _ :: _, [], h, _ => h.elim
theorem ConcG.wiped (c : ConcG b A T σ H G) (vs : List Nat) : ConcG b ⟨wipeD A.γ vs, A.M⟩ T (wipe σ vs) H G := { c with sl := c.sl.wipe vs }
theorem ef_lc {vs : List Nat} {k : Nat} {tt : TT} (p : Nat → Bool) (g : Nat → Dt) (hi : EvI b wi A n f A1) (hk : k ∈ vs) (hn : n < sizeLine)
    (ht : ∀ i M, i < n → EvT b tt ⟨(wipeD A1.γ vs).set k (some (f i)), M :: A1.M⟩ (p i) ⟨(wipeD A1.γ vs).set k (some (f i)), M :: A1.M⟩)
    (he : ∀ i M, i < n → p i = true → EvM b te ⟨(wipeD A1.γ vs).set k (some (f i)), M :: A1.M⟩ (g i) ⟨(wipeD A1.γ vs).set k (some (f i)), M :: A1.M⟩) : EvF b (tLc wi (gName k) tt te vs) A (given n p g) A1 := fun T σ H c Q q => hi T σ H c _ fun J T0 H1 c1 sv => by
  intro D hD
  refine ⟨fun i m H' => m = n - i ∧ i ≤ n ∧ Conc b ⟨A1.γ, (D, .d (.lst (given i p g))) :: A1.M⟩ (T0 ++ T) σ H', ⟨n - 0, rfl, Nat.zero_le _, ?_⟩, ?_⟩
  · obtain ⟨G, c⟩ := c1
    exact ⟨G, (c.newM (o := .lst []) (m := .lst (given 0 p g)) hD ⟨[], upd_same, .nil⟩).1⟩
  · rintro i m H' ⟨rfl, hi', cA⟩
    by_cases hlt : i < n
    · obtain ⟨go, yld⟩ := (sv i _ T σ H' cA).2 hlt
      refine .inr ⟨go, fun H2 => Conc b ⟨A1.γ, (D, .d (.lst (given (i + 1) p g))) :: A1.M⟩ (T0 ++ T) σ H2, fun H2 h => ⟨n - (i + 1), by omega, rfl, hlt, h⟩, fun x H2 hy => ?_⟩
      have c2 := yld x H2 hy
      refine ⟨wipe_set hk, ?_⟩
      obtain ⟨G2, g2⟩ := c2
      have sl := g2.sl
      have g3 : ConcG b ⟨(wipeD A1.γ vs).set k (some (f i)), (D, .d (.lst (given i p g))) :: A1.M⟩ (slT σ A1.γ ++ (T0 ++ T)) ((wipe σ vs).set k (some x)) H2 G2 :=
        { g2 with sl := (sl.wipe vs).set (g2.tm (x, f i) List.mem_cons_self) k, tm := fun q hq => (List.mem_append.mp hq).elim (sl.slT q) fun h => g2.tm q (List.mem_cons_of_mem _ h) }
      have back : ∀ {m : MO} {H3 : Hp}, Conc b ⟨(wipeD A1.γ vs).set k (some (f i)), (D, m) :: A1.M⟩ (slT σ A1.γ ++ (T0 ++ T)) ((wipe σ vs).set k (some x)) H3 → Conc b ⟨A1.γ, (D, m) :: A1.M⟩ (T0 ++ T) σ H3 := fun ⟨G3, c3⟩ =>
        ⟨G3, { c3 with sl := sl.back fun q hq => c3.tm q (List.mem_append_left _ hq), tm := fun q hq => c3.tm q (List.mem_append_right _ hq) }⟩
      refine ht i _ hlt _ _ H2 ⟨G2, g3⟩ _ fun H3 c3 => ?_
      cases hp : p i with
      | true =>
        refine iteT (he i _ hlt hp _ _ H3 c3 _ fun y H4 c4 => ?_)
        obtain ⟨G4, g4, r4⟩ := c4.top
        obtain ⟨acc, h1, h2⟩ := g4.lst_at (m' := .d (.lst (given (i + 1) p g))) .here
        refine ⟨acc, h1, ?_, back ?_⟩
        · rw [h2.length]
          exact Nat.lt_of_le_of_lt (given_length i p g) (by omega)
        · refine ⟨G4, g4.at_ (m' := .lst (given (i + 1) p g)) .here ⟨acc ++ [y], upd_same, ?_⟩⟩
          rw [given_succ, if_pos hp]
          exact h2.append (.cons r4 .nil)
      | false =>
        refine iteF ?_
        have c5 := back c3
        rw [show given (i + 1) p g = given i p g by rw [given_succ, hp]; simp]
        exact c5
    · have e : i = n := by omega
      subst e
      exact .inl ⟨(sv i _ T σ H' cA).1 (Nat.le_refl _), by
        obtain ⟨G, c⟩ := cA
        exact q D _ ((c.out (.obj D)).sub fun p hp => by
          rcases List.mem_cons.mp hp with e | h
          · rw [e]; exact List.mem_cons_self
          · exact List.mem_cons_of_mem _ (List.mem_append_right _ h))⟩
end
end LD
/-! LG: what a def promises over data; calls, methods, makings, errors. -/
namespace LD
open PySem L2

def ExcAt (H0 H : Hp) : Option (List (Str × V)) → Option Addr → Prop
  | none, dd => dd = none
  | some fs, dd => ∃ p, dd = some p ∧ H0 p = none ∧ H p = some (.xd fs)
theorem ExcAt.of {H0 H1 H : Hp} (h : ∀ a, H0 a ≠ none → H1 a ≠ none) : ∀ {o : Option (List (Str × V))} {dd : Option Addr}, ExcAt H1 H o dd → ExcAt H0 H o dd
  | none, _, x => x
  | some _, _, ⟨p, h1, h2, h3⟩ => ⟨p, h1, by
    cases z : H0 p with
    | none => rfl
    | some q => exact absurd h2 (h p (by rw [z]; simp)), h3⟩
/-- the promise of a def over data: what is handed in (with the changing objects M), what comes out, which errors -/
def SpM (pre : List Dt → List (Addr × MO) → Prop) (res : List Dt → List (Addr × MO) → Dt → List (Addr × MO) → Prop) (exc : List Dt → Addr → Option (List (Str × V)) → Prop) : Sp := fun vs H Q E =>
  ∃ G ds M, Ex G H ∧ RpAll G vs ds ∧ (∀ p ∈ M, G p.1 = none ∧ MOk G H p.1 p.2) ∧ (M.flatMap own).Nodup ∧ pre ds M ∧
  (∀ v d M' G2 H2, res ds M d M' → Ex G G2 → Ex G2 H2 → Nw G H G2 → Keep (M.flatMap own) H H2 → Rp G2 v d → (∀ p ∈ M', G2 p.1 = none ∧ MOk G2 H2 p.1 p.2) → (M'.flatMap own).Nodup →
    (∀ p ∈ M', ∀ q ∈ own p, H q = none ∨ q ∈ M.flatMap own) → Q v H2) ∧
  (∀ C o dd H2, exc ds C o → Keep (M.flatMap own) H H2 → ExcAt H H2 o dd → E (.ref C) dd H2)
/-- what the wish W takes of errors -/
def WOk (b : Bs) (W : WX) (XP : Abs → Addr → Option (List (Str × V)) → Prop) : Prop := ∀ A C o dd T σ H, XP A C o → Conc b A T σ H → ExcAt b.H0 H o dd → W (.ref C) dd σ H
section
variable {b : Bs} {A A1 A2 A3 : Abs} {T : Tmp} {σ : St} {H H2 G : Hp} {v : V} {d e z : Dt} {ds dds es : List Dt} {te ta tb tc : TE} {t : TA} {K : PySem.W.Frag} {P : Post}
variable {pre : List Dt → List (Addr × MO) → Prop} {res : List Dt → List (Addr × MO) → Dt → List (Addr × MO) → Prop} {exc : List Dt → Addr → Option (List (Str × V)) → Prop} {vs dvs : List V} {Q : VK} {E : XK} {W : WX} {XP : Abs → Addr → Option (List (Str × V)) → Prop} {C : Addr}
theorem SpM.len {n : Nat} (hn : ∀ ds M, pre ds M → ds.length = n) : ∀ vs H Q E, SpM pre res exc vs H Q E → vs.length = n := fun vs H Q E ⟨G, ds, M, _, r, _, _, hp, _⟩ => by
  rw [r.length]; exact hn _ _ hp
theorem start_conc {N : List Str} {M : List (Addr × MO)} (hg : Ex G H) (r : RpAll G vs ds) (hm : ∀ p ∈ M, G p.1 = none ∧ MOk G H p.1 p.2) (nd : (M.flatMap own).Nodup) :
    Conc ⟨G, H, M.flatMap own, []⟩ ⟨ds.map some ++ List.replicate (N.length - ds.length) none, M⟩ [] (L2.start N vs) H := by
  refine ⟨G, Evl.Ex.refl G, hg, fun a h1 h2 => h2, ⟨fun a o _ h => h, fun a h => h⟩, ?_, fun p hp => (by cases hp), hm, nd, fun p hp q hq => .inr (List.mem_flatMap.mpr ⟨p, hp, hq⟩), fun p hp => (by cases hp)⟩
  unfold L2.start
  rw [r.length]
  clear hm nd hg
  generalize N.length - ds.length = n
  have h : ∀ {vs : List V} {ds : List Dt}, RpAll G vs ds → SRp G (vs.map some ++ List.replicate n none) (ds.map some ++ List.replicate n none) := by
    intro vs ds r
    induction vs generalizing ds with
    | nil =>
      cases r
      show SRp G (List.replicate n none) (List.replicate n none)
      induction n with
      | zero => exact True.intro
      | succ n ih => exact ih
    | cons v vs ih =>
      cases r with
      | cons h r => exact ⟨⟨v, rfl, h⟩, ih r⟩
  exact h r
/-- a def's body, by data -/
theorem SpM.body {N : List Str} {t : TS} (h : SpM pre res exc vs H Q E)
    (hb : ∀ ds M b, pre ds M → b.mu = M.flatMap own → b.H0 = H → WOk b (fun cls d _ H => E cls d H) (fun _ C o => exc ds C o) →
      StA b t ⟨ds.map some ++ List.replicate (N.length - ds.length) none, M⟩ ⟨fun A => ∃ M', M'.Sublist A.M ∧ res ds M .non M', fun _ => False, fun _ => False, fun d A => ∃ M', M'.Sublist A.M ∧ res ds M d M'⟩) :
    t { nx := fun _ H' => Q .non H', rt := Q } (L2.start N vs) H := by
  obtain ⟨G, ds, M, hg, r, hm, nd, hp, hq, hx⟩ := h
  have c := start_conc (N := N) hg r hm nd
  have fin : ∀ {v : V} {d : Dt} {A' : Abs} {σ' : St} {H' G' : Hp} {M' : List (Addr × MO)}, M'.Sublist A'.M → res ds M d M' → ConcG ⟨G, H, M.flatMap own, []⟩ A' [] σ' H' G' → Rp G' v d → Q v H' := fun {v d A' σ' H' G' M'} sm hr g rv =>
    hq v d M' G' H' hr g.g0 g.gh g.nw g.kp rv (fun p hp => g.mo p (sm.subset hp)) (g.nd.sublist (sub_flat _ sm)) fun p hp q hq => g.nw' p (sm.subset hp) q hq
  refine hb ds M ⟨G, H, M.flatMap own, []⟩ hp rfl rfl (fun A C o dd T σ H2 hx' c' hd => ?_) [] _ H c _ (fun A' σ' H' ⟨M', sm, hr⟩ c' => ?_) (fun _ _ _ h _ => h.elim) (fun _ _ _ h _ => h.elim) fun v d A' σ' H' ⟨M', sm, hr⟩ c' => ?_
  · obtain ⟨G', g⟩ := c'
    exact hx C o dd H2 hx' g.kp hd
  · obtain ⟨G', g⟩ := c'
    exact fin sm hr g .non
  · obtain ⟨G', g, r⟩ := c'.top
    exact fin sm hr g r
/-- behind a call that was handed nothing that changes -/
theorem ConcG.called {M' : List (Addr × MO)} {G2 : Hp} (c : ConcG b A T σ H G) (e1 : Ex G G2) (e2 : Ex G2 H2) (nw : Nw G H G2) (kp : Keep [] H H2) (hm : ∀ p ∈ M', G2 p.1 = none ∧ MOk G2 H2 p.1 p.2) (nd : (M'.flatMap own).Nodup)
    (hn : ∀ p ∈ M', ∀ q ∈ own p, H q = none) : ConcG b ⟨A.γ, M' ++ A.M⟩ T σ H2 G2 := by
  have c2 := c.grow e1 e2 (fun a o h => kp.1 a o (by simp) h) nw
  refine { c2 with mo := fun p hp => ?_, nd := ?_, nw' := fun p hp q hq => ?_ }
  · rcases List.mem_append.mp hp with h | h
    · exact hm p h
    · exact c2.mo p h
  · show ((M' ++ A.M).flatMap LD.own).Nodup
    rw [List.flatMap_append, List.nodup_append]
    refine ⟨nd, c.nd, fun x hx y hy e => ?_⟩
    subst e
    obtain ⟨p, hp, h1⟩ := List.mem_flatMap.mp hx
    obtain ⟨q, hq, h2⟩ := List.mem_flatMap.mp hy
    exact (c.mo q hq).2.there x h2 (hn p hp x h1)
  · rcases List.mem_append.mp hp with h | h
    · refine .inl ?_
      have := hn p h q hq
      cases z : b.H0 q with
      | none => rfl
      | some o => exact absurd this (c.kp.2 q (by rw [z]; simp))
    · exact c2.nw' p h q hq
theorem keep_conc (c : ConcG b A T σ H G) (kp : Keep [] H H2) : ConcG b A T σ H2 G := c.grow (Evl.Ex.refl G) (fun a o h => kp.1 a o (by simp) (c.gh _ _ h)) (fun a o h => kp.1 a o (by simp) h) fun a _ h => h
/-- f(..): the core -/
theorem er_core {R : Dt → Abs → Prop} {ws : List V} {Q : VK} {E : XK} (c : Conc b A (ws.zip ds ++ T) σ H) (hl : ws.length = ds.length) (hd : ∀ G, RpAll G dvs dds) (hp : pre (ds ++ dds) []) (hr : ∀ d M', res (ds ++ dds) [] d M' → R d ⟨A.γ, M' ++ A.M⟩)
    (hx : ∀ C o dd H2, exc (ds ++ dds) C o → Conc b A T σ H2 → ExcAt b.H0 H2 o dd → E (.ref C) dd H2) (q : ∀ v d A' H2, R d A' → Conc b A' ((v, d) :: T) σ H2 → Q v H2) : SpM pre res exc (ws ++ dvs) H Q E := by
  obtain ⟨G, g, r⟩ := c.zip hl
  refine ⟨G, ds ++ dds, [], g.gh, r.append (hd G), (fun p hp => by cases hp), (by simp), hp, fun v d M' G2 H2 hres e1 e2 nw kp rv hm nd hn => ?_, fun C o dd H2 he kp ha => hx C o dd H2 he ⟨G, keep_conc g kp⟩ (ha.of g.kp.2)⟩
  have g2 := g.called e1 e2 nw kp hm nd fun p hp q hq => (hn p hp q hq).resolve_right (by simp)
  exact q v d _ H2 (hr d M' hres) (g2.out rv)
theorem er_call {R : Dt → Abs → Prop} (ht : EvA b t A ds A1) (hd : ∀ G, RpAll G dvs dds) (hp : pre (ds ++ dds) []) (hr : ∀ d M', res (ds ++ dds) [] d M' → R d ⟨A1.γ, M' ++ A1.M⟩) (hw : WOk b W XP) (hx : ∀ C o, exc (ds ++ dds) C o → XP A1 C o) :
    EvR b (tCallSD (SpM pre res exc) dvs (WE W) t) A R := fun T σ H c Q q => ht T σ H c _ fun ws H1 hl c1 =>
  er_core c1 hl hd hp hr (fun C o dd H2 he c2 ha => hw A1 C o dd T σ H2 (hx C o he) c2 ha) q
/-- .. that gives one answer -/
theorem EvR.ev (h : EvR b te A fun d' A' => d' = d ∧ A' = A1) : EvM b te A d A1 := fun T σ H c Q q => h T σ H c Q fun v d' A' H2 ⟨e1, e2⟩ c2 => by
  subst e1 e2
  exact q v H2 c2
theorem EvR.imp {R R' : Dt → Abs → Prop} (h : EvR b te A R) (k : ∀ d A', R d A' → R' d A') : EvR b te A R' := fun T σ H c Q q => h T σ H c Q fun v d' A' H2 r c2 => q v d' A' H2 (k _ _ r) c2
/-- a call within a comprehension: nothing is raised -/
theorem er_call0 {R : Dt → Abs → Prop} (ht : EvA b t A ds A1) (hd : ∀ G, RpAll G dvs dds) (hp : pre (ds ++ dds) []) (hr : ∀ d M', res (ds ++ dds) [] d M' → R d ⟨A1.γ, M' ++ A1.M⟩) (hx : ∀ C o, ¬ exc (ds ++ dds) C o) :
    EvR b (tCall (SpM pre res exc) dvs E0 t) A R := fun T σ H c Q q => ht T σ H c _ fun ws H1 hl c1 =>
  er_core c1 hl hd hp hr (fun C o dd H2 he _ _ => absurd he (hx C o)) q
/-! ### methods -/
def tMethSD (C : Addr) (m : Str) (sp : Sp) (dvs : List V) (E : St → XK) (ta : TE) (t : TA) : TE := fun σ H Q => ta σ H fun x H1 => ∃ a dx fs, x = .ref a ∧ H1 a = some (.ins C dx fs) ∧ fs.lookup m = none ∧
  t σ H1 fun vs H2 => sp (x :: (vs ++ dvs)) H2 Q (E σ)
theorem Rp.ins_inv {fs : List (Str × Dt)} (h : Rp G v (.ins C fs)) : ∃ a dx xs, v = .ref a ∧ G a = some (.ins C dx xs) ∧ xs.map (·.1) = fs.map (·.1) ∧ RpAll G (xs.map (·.2)) (fs.map (·.2)) := by
  cases h with | ins h k r => exact ⟨_, _, _, rfl, h, k, r⟩
theorem er_meth {R : Dt → Abs → Prop} {m : Str} {fs : List (Str × Dt)} (ho : EvM b ta A (.ins C fs) A1) (hm : fs.lookup m = none) (ht : EvA b t A1 ds A2) (hd : ∀ G, RpAll G dvs dds) (hp : pre (.ins C fs :: (ds ++ dds)) [])
    (hr : ∀ d M', res (.ins C fs :: (ds ++ dds)) [] d M' → R d ⟨A2.γ, M' ++ A2.M⟩) (hw : WOk b W XP) (hx : ∀ E o, exc (.ins C fs :: (ds ++ dds)) E o → XP A2 E o) :
    EvR b (tMethSD C m (SpM pre res exc) dvs (WE W) ta t) A R := fun T σ H c Q q => ho T σ H c _ fun x H1 c1 => by
  have w := c1
  obtain ⟨G, g, r⟩ := c1.top
  obtain ⟨a, dx, xs, e1, e2, e3, e4⟩ := r.ins_inv
  refine ⟨a, dx, xs, e1, g.gh _ _ e2, ?_, ht _ σ H1 w _ fun ws H2 hl c2 => ?_⟩
  · rcases look_rp e3 e4 m with h | ⟨_, _, _, h, _⟩
    · exact h.1
    · rw [hm] at h; cases h
  · have c3 : Conc b A2 ((x :: ws).zip (.ins C fs :: ds) ++ T) σ H2 := c2.sub fun p hp => by
      rw [List.zip_cons_cons, List.cons_append] at hp
      rcases List.mem_cons.mp hp with e | h
      · exact List.mem_append_right _ (by rw [e]; exact List.mem_cons_self)
      · rcases List.mem_append.mp h with h | h
        · exact List.mem_append_left _ h
        · exact List.mem_append_right _ (List.mem_cons_of_mem _ h)
    exact er_core (ds := .ins C fs :: ds) (ws := x :: ws) c3 (by simp [hl]) hd hp hr (fun C o dd H3 he c4 ha => hw A2 C o dd T σ H3 (hx C o he) c4 ha) q
/-! ### makings -/
def tMakeSD (C : Addr) (sp : Sp) (dvs : List V) (E : St → XK) (t : TA) : TE := fun σ H Q => t σ H fun vs H1 => ∀ x dx, H1 x = none → H1 dx = none → dx ≠ x →
  sp (.ref x :: (vs ++ dvs)) (upd (upd H1 dx (.own x)) x (.ins C dx [])) (fun v H2 => v = .non ∧ Q (.ref x) H2) (E σ)
theorem ev_make {fs : List (Str × Dt)} (ht : EvA b t A ds A1) (hd : ∀ G, RpAll G dvs dds) (hp : ∀ x, pre (.obj x :: (ds ++ dds)) [(x, .d (.ins C []))])
    (hr : ∀ x d M', res (.obj x :: (ds ++ dds)) [(x, .d (.ins C []))] d M' → d = .non ∧ M' = [(x, .d (.ins C fs))]) (hw : WOk b W XP) (hx : ∀ x E o, exc (.obj x :: (ds ++ dds)) E o → XP A1 E o) (hmu : b.mu = []) :
    EvM b (tMakeSD C (SpM pre res exc) dvs (WE W) t) A (.ins C fs) A1 := fun T σ H c Q q => ht T σ H c _ fun ws H1 hl c1 => fun x dx hx0 hdx ne => by
  obtain ⟨G, g, r⟩ := c1.zip hl
  have e0 : Ex H1 (upd (upd H1 dx (.own x)) x (.ins C dx [])) := fun a o h => by
    rw [upd_ne (ne_of_none h hx0), upd_ne (ne_of_none h hdx)]; exact h
  have gx : G x = none := by
    cases z : G x with
    | none => rfl
    | some o => rw [g.gh _ _ z] at hx0; cases hx0
  have g1 : ConcG b A1 T σ (upd (upd H1 dx (.own x)) x (.ins C dx [])) G := g.grow (Evl.Ex.refl G) (g.gh.trans e0) e0 fun a _ h => h
  refine ⟨G, .obj x :: (ds ++ dds), [(x, .d (.ins C []))], g1.gh, .cons (.obj x) (r.append (hd G)), fun p hp => ?_, by simp [own], hp x, fun v d M' G2 H2 hres e1 e2 nw kp rv hm nd hn => ?_, fun C' o dd H2 he kp ha => ?_⟩
  · rcases List.mem_cons.mp hp with e | h
    · rw [e]; exact ⟨gx, dx, [], upd_same, rfl, .nil⟩
    · cases h
  · obtain ⟨rfl, rfl⟩ := hr x d M' hres
    obtain ⟨nx, dx', xs, h1, h2, h3⟩ := hm (x, .d (.ins C fs)) List.mem_cons_self
    refine ⟨rv.non_inv, ?_⟩
    have kx : ∀ a o, a ≠ x → upd (upd H1 dx (.own x)) x (.ins C dx []) a = some o → H2 a = some o := fun a o ha h => kp.1 a o (by simpa [own] using ha) h
    have e1' : Ex H1 H2 := fun a o h => kx a o (ne_of_none h hx0) (e0 a o h)
    have nw1 : Nw G H1 G2 := fun a h1 h2 => nw a (by
      cases z : H1 a with
      | none => exact absurd z h1
      | some o => rw [e0 _ _ z]; simp) h2
    have ex2 : Ex G2 (upd G2 x (.ins C dx' xs)) := Evl.Ex.new nx
    have g3 : ConcG b A1 T σ H2 (upd G2 x (.ins C dx' xs)) := g.grow (e1.trans ex2) (fun a o h => by
      by_cases z : a = x
      · subst z; rw [upd_same] at h; rw [h1]; exact h
      · rw [upd_ne z] at h; exact e2 _ _ h) e1' fun a h1' h2' => by
        have z : a ≠ x := fun z => h1' (by rw [z]; exact hx0)
        rw [upd_ne z]; exact nw1 a h1' h2'
    exact q _ _ (g3.out (.ins upd_same h2 (h3.mono ex2)))
  · refine hw A1 C' o dd T σ H2 (hx x C' o he) ⟨G, ?_⟩ (ha.of g1.kp.2)
    refine g.grow (Evl.Ex.refl G) (fun a o h => ?_) (fun a o h => ?_) fun a _ h => h
    · exact kp.1 a o (by simpa [own] using fun z => by rw [z, gx] at h; cases h) (e0 _ _ (g.gh _ _ h))
    · exact kp.1 a o (by simpa [own] using ne_of_none h hx0) (e0 _ _ h)
end
end LD
/-! LX: rules that the hand layer lacks: enumerate over tuples and texts; methods and makings that may raise at the caller's slots; super(); errors whose __init__ calls super().__init__. -/
namespace LX
open PySem PySem.Spec PyProof.Rows L2

/-! ### methods, makings: what is raised is wished for at the caller's slots -/
section
variable {X : Cx} {CX : CXT} {k : Nat} {f C : Addr} {fd : FuncData} {ps : List Str} {sp : Sp} {dvs : List V} {ds : List Value} {E : L2.St → XK} {x m : Str} {p pos apos : Pos} {e o : Expr} {es : List Expr} {ta : TE} {t : TA}
theorem pe_methSD {pl : Sem Bool} (he : PE X o ta) (c : Cls X.K C) (hm : Meth X.K C m f) (F : FnOk X.prog X.w X.K X.mg X.base CX k f fd ps sp) (hr : Room k X.A) (hb : Binds X.K fd ps ds) (hd : Vals dvs ds) (hx : ∀ σ, PassesAt CX X σ (E σ)) (ha : PA X (e :: es) t)
    (hst : starEach (e :: es) X.env = (false, eval e X.env) :: starEach es X.env := by rfl) (hpl : (backTo pos (starEach es X.env)).any (·.1) = false := by rfl)
    (ht : eval (.Call (.Attribute o m apos) (e :: es) [] pos) X.env = (do
      let ov ← eval o X.env
      standAt apos.atName
      let (f, first) ← holding [ov] (getMethod ov m pl)
      callWith pos f first (backTo pos (starEach (e :: es) X.env)) (backToKw pos (keywordEach [] X.env))) := by rfl) :
    PE X (.Call (.Attribute o m apos) (e :: es) [] pos) (LD.tMethSD C m sp dvs E ta t) := by
  refine ⟨fun pins s σ H Q I h => ?_⟩
  refine PySem.W.methodCall_KW (pl := pl) (thn (he.run pins s σ H _ I h) fun u s1 ⟨x, H1, I1, rx, a, dx, fs, ex, ea, l, q⟩ => ?_) ht
  subst ex
  obtain rfl : u = Value.ref a := rx
  refine getmeth_ok I1 ea c hm l ?_
  refine PySem.W.callWith_K (first := [.ref a]) (h₀ := X.base) I.ok.mod.kin hm.kp (thn (ha.run pos pins s1 σ H1 _ I1 q) fun us s2 ⟨vs, H2, I2, r, q2⟩ => ⟨I2.kIn, ?_⟩) hst hpl
  exact run_fnSD (us := .ref a :: us) (vs := .ref a :: vs) F hr hb hd (hx σ) I2 (.cons rfl r) q2
theorem pe_methSD0 {pl : Sem Bool} (he : PE X o ta) (c : Cls X.K C) (hm : Meth X.K C m f) (F : FnOk X.prog X.w X.K X.mg X.base CX k f fd ps sp) (hr : Room k X.A) (hb : Binds X.K fd ps ds) (hd : Vals dvs ds) (hx : ∀ σ, PassesAt CX X σ (E σ))
    (ht : eval (.Call (.Attribute o m apos) [] [] pos) X.env = (do
      let ov ← eval o X.env
      standAt apos.atName
      let (f, first) ← holding [ov] (getMethod ov m pl)
      callWith pos f first (backTo pos (starEach [] X.env)) (backToKw pos (keywordEach [] X.env))) := by rfl) :
    PE X (.Call (.Attribute o m apos) [] [] pos) (LD.tMethSD C m sp dvs E ta tNil) := by
  refine ⟨fun pins s σ H Q I h => ?_⟩
  refine PySem.W.methodCall_KW (pl := pl) (thn (he.run pins s σ H _ I h) fun u s1 ⟨x, H1, I1, rx, a, dx, fs, ex, ea, l, q⟩ => ?_) ht
  subst ex
  obtain rfl : u = Value.ref a := rx
  refine getmeth_ok I1 ea c hm l ?_
  exact PySem.W.callWith_K0 (first := [.ref a]) I1.kIn hm.kp (run_fnSD (us := [.ref a]) (vs := [.ref a]) F hr hb hd (hx σ) I1 (.cons rfl .nil) q)
theorem run_makeSD {pins : List (Addr × Obj)} {σ : L2.St} {H : Hp} {s : Shared} {Q : VK} {us : List Value} {vs : List V} (M : Mk X.K C f) (F : FnOk X.prog X.w X.K X.mg X.base CX k f fd ps sp) (hr : Room (k + 1) X.A) (hb : Binds X.K fd ps ds) (hd : Vals dvs ds)
    (hx : ∀ (pins : List (Addr × Obj)) (σ' : L2.St) (H' : Hp) (s' : Shared) (e : Value) (s'' : Shared), σ' = σ → Inv X pins σ' H' s' → CX X.stack H' s' (E σ) e s'' → X.xe e s'') (I : Inv X pins σ H s) (r : Vals vs us)
    (h : ∀ x dx, H x = none → H dx = none → dx ≠ x → sp (.ref x :: (vs ++ dvs)) (upd (upd H dx (.own x)) x (.ins C dx [])) (fun v H2 => v = .non ∧ Q (.ref x) H2) (E σ)) :
    wpAny (model X.prog X.w) X.A (call (.ref C) us) (EP X pins σ Q) X.xe s := by
  have hq := h (s.heap.objs.size + 1) s.heap.objs.size (I.hok.fresh (Nat.le_succ _)) (I.hok.fresh (Nat.le_refl _)) (Nat.ne_of_lt (Nat.lt_succ_self _))
  have I2 := Inv.made (C := C) I
  have r2 : Vals (V.ref (s.heap.objs.size + 1) :: (vs ++ dvs)) (Value.ref (s.heap.objs.size + 1) :: (us ++ ds)) := .cons rfl (r.append hd)
  have hl : (Value.ref (s.heap.objs.size + 1) :: us ++ ds).length = ps.length := by
    have e := r2.length
    rw [F.len _ _ _ _ hq] at e
    exact e.symm
  refine wpAny_call (make_map (f := f) I.kIn M.makes M.init (beq_iff_eq.mp M.fn) (codeAny_mono (F.run _ X.stack _ _ ⟨Value.ref (s.heap.objs.size + 1) :: us, []⟩ (Value.ref (s.heap.objs.size + 1) :: (us ++ ds)) _ _ (E σ) (hr.make C us [])
    (I2.env0.make C us []) (hb _ (Value.ref (s.heap.objs.size + 1) :: us) I2.kIn hl) r2 hq) fun r s' hq' => ?_))
  cases r with
  | error e => exact hx pins σ _ _ e s' rfl I2 hq'
  | ok fl =>
    cases fl with
    | ret u =>
      obtain ⟨v, H', I3, rv, ev, q3⟩ := I2.after hq'
      subst ev
      exact ⟨rv, ⟨V.ref (s.heap.objs.size + 1), H', I3, rfl, q3⟩⟩
    | next => exact False.elim hq'
    | brk => exact False.elim hq'
    | cont => exact False.elim hq'
theorem pe_makeSD (M : Mk X.K C f) (F : FnOk X.prog X.w X.K X.mg X.base CX k f fd ps sp) (hr : Room (k + 1) X.A) (hg : Gl X x) (hm : X.mg x = some (.ref C)) (hb : Binds X.K fd ps ds) (hd : Vals dvs ds) (hx : ∀ σ, PassesAt CX X σ (E σ))
    (ha : PA X (e :: es) t) (hdb : (x == ("__debug__" : Str)) = false := by decide) (he : starEach (e :: es) X.env = (false, eval e X.env) :: starEach es X.env := by rfl) (hpl : (backTo pos (starEach es X.env)).any (·.1) = false := by rfl) :
    PE X (.Call (.Name x p) (e :: es) [] pos) (LD.tMakeSD C sp dvs E t) := by
  refine ⟨fun pins s σ H Q I h => ?_⟩
  refine wpAny_Call_Name_kw (ld_glob I hg hm ?_ hdb)
  refine PySem.W.callWith_K (h₀ := X.base) I.ok.mod.kin M.kp (thn (ha.run pos pins s σ H _ I h) fun us s1 ⟨vs, H1, I1, r, q⟩ => ⟨I1.kIn, ?_⟩) he hpl
  exact run_makeSD M F hr hb hd (fun pins' σ' H' s' e' s'' es I' c' => hx σ' pins' H' s' e' s'' I' (by rw [es]; exact c')) I1 r q
end

/-! ### enumerate over a tuple, a text -/
set_option maxHeartbeats 1000000 in
theorem meets_enumerate_newB1 {v : Value} {o : Obj} {H : Heap → Prop} (B : Begins v o H) :
    Meets (Builtin.«enumerate.__new__» ⟨[.type "enumerate", v], []⟩) (fun _ R s => H s.heap ∧
      R (.ok (.ret (.ref (s.heap.push o).objs.size))) { s with heap := (s.heap.push o).push { cls := .type "enumerate", data := .fields #[.none, .bool false, .ref s.heap.objs.size, rawInt 0, .none, .none] } }) :=
  .of_wp fun prog w A R s h => by
    obtain ⟨hp, g, d, tk, os⟩ := s; obtain ⟨h1, h⟩ := h
    have hsub := sub_enumerate
    have q1 : ∀ {A' : Around} {E : Value → Shared → Prop} {Q : Value → Shared → Prop}, Q (.ref hp.objs.size) ⟨hp.push o, g, d, tk, os⟩ → wpAny (model prog w) A' (pyIter v) Q E ⟨hp, g, d, tk, os⟩ :=
      fun q => B.iter prog w _ _ ⟨hp, g, d, tk, os⟩ _ h1 q
    wp_walk using q1
    refine wpAny_stack_any fun st => wpAny_pure ?_
    split
    · rename_i c _ _ _ _ _
      cases (c == Value.type "enumerate")
      · wp_walk using q1
        exact ⟨_, rfl, h⟩
      · wp_walk using q1
        exact ⟨_, rfl, h⟩
    · wp_walk using q1
      exact ⟨_, rfl, h⟩
theorem enum_begins1 {prog : Program} {w : World} {A : Around} {E : Value → Shared → Prop} {s : Shared} {v : Value} {o : Obj} {H : Heap → Prop} {Q : Value → Shared → Prop} (B : Begins v o H) (h1 : H s.heap)
    (h : ∀ h', IsEnum h' (s.heap.objs.size + 1) s.heap.objs.size 0 .none → h'.get? s.heap.objs.size = some o → h'.objs.size = s.heap.objs.size + 2 →
      (∀ b o, s.heap.get? b = some o → h'.get? b = some o) → Q (.ref (s.heap.objs.size + 1)) { s with heap := h' }) :
    wpAny (model prog w) A (call (.type "enumerate") [v]) Q E s := by
  refine callType_new F.called_enumerate (by decide) (F.typeCall_enumerate_1 _) (F.newCall_enumerate_1 _) (fun obj => F.args_object_init_2 obj _) F.entry_enumerate_new
    (meets_enumerate_newB1 B) ⟨h1, ?_⟩
  have hz : (s.heap.push o).objs.size = s.heap.objs.size + 1 := Heap.size_push ..
  show _ ∧ _
  rw [hz]
  have he : IsEnum ((s.heap.push o).push { cls := .type "enumerate", data := .fields #[.none, .bool false, .ref s.heap.objs.size, rawInt 0, .none, .none] }) (s.heap.objs.size + 1) s.heap.objs.size 0 .none := by
    have := Heap.get?_push_size (s.heap.push o) (o := { cls := .type "enumerate", data := .fields #[.none, .bool false, .ref s.heap.objs.size, rawInt 0, .none, .none] }) rfl
    rw [hz] at this; exact this
  refine ⟨⟨_, he, rfl⟩, h _ he (Heap.get?_push_of_some _ (Heap.get?_push_size _ B.free)) (by rw [Heap.size_push, hz]) fun b o x => Heap.get?_push_of_some _ (Heap.get?_push_of_some _ x)⟩
theorem enumT_end {prog : Program} {w : World} {A : Around} {E : Value → Shared → Prop} {s : Shared} {e it a : Addr} {i : Nat} {items : Array Value} {old : Value} {Q : Option Value → Shared → Prop} (hh : A.handled = none) (he : IsEnum s.heap e it (i : Int) old)
    (hit : s.heap.IsTupleIter it a i) (hl : s.heap.IsTuple a items) (hx : items[i]? = none) (hQ : ∀ h', Heap.ExtBut it s.heap h' → Q none { s with heap := h' }) : wpAny (model prog w) A (pyNext (.ref e)) Q E s := by
  have D : Draws prog w A.in1 it [it, a] 0 (fun _ _ => False) (fun j h => j = 0 ∧ h.IsTupleIter it a i ∧ h.IsTuple a items) :=
    { live := fun _ _ st => let ⟨_, ⟨o, ho, _⟩, _⟩ := st; ⟨o, ho⟩
      frame := fun _ _ _ st hk => ⟨st.1, st.2.1.at fun o e => hk it (by simp) o e, st.2.2.at fun o e => hk a (by simp) o e⟩
      item := fun i s Q E hi _ _ => absurd hi (Nat.not_lt_zero _)
      done := fun s Q E st hE => wpAny_nextOf_tuple_end hh st.2.1 st.2.2 hx hE }
  exact wpAny_pyNext_enum_endD D he ⟨rfl, hit, hl⟩ hQ
/-- the tuple at a, each item in a new pair -/
def IteT (K : PySem.W.Frag) (a : Addr) : It :=
  ⟨fun i H => ∃ (xs : List V) (x : V), SqT K H a xs ∧ xs[i]? = some x, fun i H v H' => ∃ T x, v = .ref T ∧ H T = none ∧ H' = upd H T (.tup [.int (i : Nat), x]) ∧ ∀ xs, SqT K H a xs → xs[i]? = some x, fun i H => ∃ xs : List V, SqT K H a xs ∧ xs.length ≤ i⟩
theorem turn_enumT {P : Program} {w : World} {K : PySem.W.Frag} {elts : List Expr} {kk : Nat} {tpos : Pos} (a e it : Addr) :
    Turn P w K (.Tuple elts kk tpos) (IteT K a) [e, it] e (fun i h => (∃ old, IsEnum h e it ((i : Nat) : Int) old) ∧ h.IsTupleIter it a i ∧ e ≠ it ∧ a ≠ it ∧ a ≠ e) where
  mem := by simp
  obj := fun i h st b hb => by
    obtain ⟨⟨old, he⟩, ⟨o, ho, hc, hd⟩, _⟩ := st
    have e' : b = e ∨ b = it := by simpa using hb
    rcases e' with z | z
    · rw [z]; exact ⟨_, he, fun v q => nomatch q⟩
    · rw [z]; exact ⟨o, ho, fun v q => by rw [hd] at q; cases q⟩
  keep := fun i h h' st k => let ⟨⟨old, he⟩, hi, hne⟩ := st; ⟨⟨old, k e (by simp) _ he⟩, hi.at fun o q => k it (by simp) o q, hne⟩
  item := by
    intro X hP hw hK hc i pins s σ H E I hf st hg
    subst hP hw hK
    obtain ⟨⟨old, he⟩, hit, hne, hat, hae⟩ := st
    obtain ⟨xs, x, hq, hx⟩ := hg
    obtain ⟨its, rv, p, hz⟩ := I.tuple hq
    obtain ⟨u, hu, ru⟩ := rv.get hx
    have pt : s.heap.IsTuple a its.toArray := p
    have hlt : i < its.toArray.size := by
      have := (List.getElem?_eq_some_iff.mp hu).1
      simpa using this
    have hel : e < s.heap.objs.size := Heap.lt_size he
    have hil : it < s.heap.objs.size := by obtain ⟨_, q, _⟩ := hit; exact Heap.lt_size q
    have hal : a < s.heap.objs.size := by obtain ⟨_, q, _⟩ := pt; exact Heap.lt_size q
    have D := Draws.tuple (prog := X.prog) (w := X.w) (A := X.A.in1) (by have := I.ok.hd hc; exact this) it a hat its.toArray
    refine wpAny_pyNext_enum_itemC D he ⟨hit, pt⟩ hlt hne (by simp [hne, Ne.symm hae]) fun x' h' tk hP ho hs' hT hsz hk => ?_
    have hxu : x' = u := by
      have q : its.toArray[i]? = some u := by simpa using hu
      rw [q] at hP
      exact (Option.some.inj hP).symm
    subst hxu
    refine ⟨_, rfl, wpAny_letOwnedTupleGo_enum (s := { s with heap := h', toks := tk + 1 }) ho fun h'' he' sb => ?_⟩
    have hT2 : h''.get? s.heap.objs.size = some { cls := .type "tuple", data := .seq #[.int i tk, x'] } := (sb.2 _ (Nat.ne_of_gt hel)).trans hT
    have new : ObjOk X.prog X.w (upd H s.heap.objs.size (.tup [.int (i : Nat), x])) h'' s.heap.objs.size (.tup [.int (i : Nat), x]) :=
      ⟨by show 2 ≤ sizeLine; decide, [.int i tk, x'], .cons ⟨_, rfl⟩ (.cons ru .nil), ⟨_, hT2, rfl, _, rfl⟩⟩
    have I1 : Inv X pins σ (upd H s.heap.objs.size (.tup [.int (i : Nat), x])) { s with heap := h'', toks := tk + 1 } :=
      I.turnedNew (ch := [e, it]) (fun b ob hb q => (sb.2 b (fun z => hb (by simp [z]))).trans (hk b ob (fun z => hb (by simp [z])) (fun z => hb (by simp [z])) q)) hf (Nat.le_refl _) new
    refine ⟨.ref s.heap.objs.size, _, I1, rfl, ⟨_, x, rfl, I.hok.fresh (Nat.le_refl _), rfl, fun ys hy => by rw [I.tuple_inj hy hq]; exact hx⟩, ⟨⟨x', ?_⟩, hs'.1.at fun o q => (sb.2 it (Ne.symm hne)).trans q, hne, hat, hae⟩, fun b hb => ?_⟩
    · have e1 : ((i + 1 : Nat) : Int) = (i : Int) + 1 := by omega
      rw [e1]; exact he'
    · have hb' : b < s.heap.objs.size := by
        have e' : b = e ∨ b = it := by simpa using hb
        rcases e' with z | z
        · rw [z]; exact hel
        · rw [z]; exact hil
      rw [upd_ne (Nat.ne_of_lt hb')]
      exact (hf b hb).1
  done := by
    intro X hP hw hK hc i pins s σ H E I hf st hg
    subst hP hw hK
    obtain ⟨⟨old, he⟩, hit, hne, hat, hae⟩ := st
    obtain ⟨xs, hq, hx⟩ := hg
    obtain ⟨its, rv, p, hz⟩ := I.tuple hq
    obtain ⟨f0, f1, f2, f3, f4, f5⟩ := hf it (by simp)
    have hl := rv.length
    have pt : s.heap.IsTuple a its.toArray := p
    have D := Draws.tuple (prog := X.prog) (w := X.w) (A := X.A.in1) (by have := I.ok.hd hc; exact this) it a hat its.toArray
    have h1 : its.toArray[i]? = none := by simp; omega
    -- the iterator is at its end or beyond
    exact enumT_end (I.ok.hd hc) he hit pt h1 fun h' eb => ⟨rfl, I.turned (t' := s.toks) (fun b o hb q => eb b o hb q) f0 f1 f3 f4 f5⟩
  self := fun A i s Q E st h => let ⟨⟨_, he⟩, _⟩ := st; wpAny_pyIter_enum he h
/-- the text x, each sign in a new pair -/
def IteS (x : Str) : It :=
  ⟨fun i _ => i < x.cps.size, fun i H v H' => ∃ T c, v = .ref T ∧ H T = none ∧ H' = upd H T (.tup [.int (i : Nat), .str ⟨#[c]⟩]) ∧ x.cps[i]? = some c, fun i _ => x.cps.size ≤ i⟩
theorem enumS_end {prog : Program} {w : World} {A : Around} {E : Value → Shared → Prop} {s : Shared} {e it : Addr} {x : Str} {t : Tok} {i : Nat} {old : Value} {Q : Option Value → Shared → Prop} (hh : A.handled = none) (he : IsEnum s.heap e it (i : Int) old)
    (hit : s.heap.IsStrIter it (strIterType x) x t i) (hx : i = x.cps.size) (hQ : ∀ h', Heap.ExtBut it s.heap h' → Q none { s with heap := h' }) : wpAny (model prog w) A (pyNext (.ref e)) Q E s := by
  subst hx
  exact wpAny_pyNext_enum_endD (Draws.text (prog := prog) (w := w) (A := A.in1) hh it x t) he hit hQ
theorem turn_enumS {P : Program} {w : World} {K : PySem.W.Frag} {elts : List Expr} {kk : Nat} {tpos : Pos} (x : Str) (t : Tok) (e it : Addr) :
    Turn P w K (.Tuple elts kk tpos) (IteS x) [e, it] e (fun i h => (∃ old, IsEnum h e it ((i : Nat) : Int) old) ∧ h.IsStrIter it (strIterType x) x t i ∧ e ≠ it ∧ i ≤ x.cps.size) where
  mem := by simp
  obj := fun i h st b hb => by
    obtain ⟨⟨old, he⟩, ⟨o, ho, hc, hd⟩, _⟩ := st
    have e' : b = e ∨ b = it := by simpa using hb
    rcases e' with z | z
    · rw [z]; exact ⟨_, he, fun v q => nomatch q⟩
    · rw [z]; exact ⟨o, ho, fun v q => by rw [hd] at q; cases q⟩
  keep := fun i h h' st k => let ⟨⟨old, he⟩, ⟨o, ho, r⟩, hne⟩ := st; ⟨⟨old, k e (by simp) _ he⟩, ⟨o, k it (by simp) o ho, r⟩, hne⟩
  item := by
    intro X hP hw hK hc i pins s σ H E I hf st hg
    subst hP hw hK
    obtain ⟨⟨old, he⟩, hit, hne, _⟩ := st
    have hlt : i < x.cps.size := hg
    have hel : e < s.heap.objs.size := Heap.lt_size he
    have hil : it < s.heap.objs.size := by obtain ⟨_, q, _⟩ := hit; exact Heap.lt_size q
    have D := Draws.text (prog := X.prog) (w := X.w) (A := X.A.in1) (by have := I.ok.hd hc; exact this) it x t
    refine wpAny_pyNext_enum_itemC D he hit hlt hne (by simp [hne]) fun x' h' tk hP ho hs' hT hsz hk => ?_
    obtain ⟨c, u, hcx, rfl⟩ := hP
    refine ⟨_, rfl, wpAny_letOwnedTupleGo_enum (s := { s with heap := h', toks := tk + 1 }) ho fun h'' he' sb => ?_⟩
    have hT2 : h''.get? s.heap.objs.size = some { cls := .type "tuple", data := .seq #[.int i tk, .str ⟨#[c]⟩ u] } := (sb.2 _ (Nat.ne_of_gt hel)).trans hT
    have new : ObjOk X.prog X.w (upd H s.heap.objs.size (.tup [.int (i : Nat), .str ⟨#[c]⟩])) h'' s.heap.objs.size (.tup [.int (i : Nat), .str ⟨#[c]⟩]) :=
      ⟨by show 2 ≤ sizeLine; decide, [.int i tk, .str ⟨#[c]⟩ u], .cons ⟨_, rfl⟩ (.cons ⟨_, rfl⟩ .nil), ⟨_, hT2, rfl, _, rfl⟩⟩
    have I1 : Inv X pins σ (upd H s.heap.objs.size (.tup [.int (i : Nat), .str ⟨#[c]⟩])) { s with heap := h'', toks := tk + 1 } :=
      I.turnedNew (ch := [e, it]) (fun b ob hb q => (sb.2 b (fun z => hb (by simp [z]))).trans (hk b ob (fun z => hb (by simp [z])) (fun z => hb (by simp [z])) q)) hf (Nat.le_refl _) new
    refine ⟨.ref s.heap.objs.size, _, I1, rfl, ⟨_, c, rfl, I.hok.fresh (Nat.le_refl _), rfl, hcx⟩, ⟨⟨.str ⟨#[c]⟩ u, ?_⟩, ?_, hne, hlt⟩, fun b hb => ?_⟩
    · have e1 : ((i + 1 : Nat) : Int) = (i : Int) + 1 := by omega
      rw [e1]; exact he'
    · obtain ⟨o, ho, r⟩ := hs'
      exact ⟨o, (sb.2 it (Ne.symm hne)).trans ho, r⟩
    · have hb' : b < s.heap.objs.size := by
        have e' : b = e ∨ b = it := by simpa using hb
        rcases e' with z | z
        · rw [z]; exact hel
        · rw [z]; exact hil
      rw [upd_ne (Nat.ne_of_lt hb')]
      exact (hf b hb).1
  done := by
    intro X hP hw hK hc i pins s σ H E I hf st hg
    subst hP hw hK
    obtain ⟨⟨old, he⟩, hit, hne, hle⟩ := st
    obtain ⟨f0, f1, f2, f3, f4, f5⟩ := hf it (by simp)
    have hge : x.cps.size ≤ i := hg
    exact enumS_end (I.ok.hd hc) he hit (by omega) fun h' eb => ⟨rfl, I.turned (t' := s.toks) (fun b o hb q => eb b o hb q) f0 f1 f3 f4 f5⟩
  self := fun A i s Q E st h => let ⟨⟨_, he⟩, _⟩ := st; wpAny_pyIter_enum he h
def iEnumT (K : PySem.W.Frag) (ta : TA) : TI := fun σ H R => ta σ H fun vs H1 => ∃ a xs, vs = [.ref a] ∧ SqT K H1 a xs ∧ R (IteT K a) H1
def iEnumS (ta : TA) : TI := fun σ H R => ta σ H fun vs H1 => ∃ x, vs = [.str x] ∧ R (IteS x) H1
theorem pi_enumT {X : Cx} {e : Expr} {ta : TA} {p pos tpos : Pos} {elts : List Expr} {kk : Nat} (hg : Gl X "enumerate") (hm : X.mg "enumerate" = none) (ha : PA X [e] ta) (hs : starEach [e] X.env = [(false, eval e X.env)] := by rfl) :
    PI X (.Tuple elts kk tpos) (.Call (.Name "enumerate" p) [e] [] pos) (iEnumT X.K ta) := by
  refine ⟨fun pins s σ H R I h => ?_⟩
  refine Call_ (ld_blt I hg hm boot_enumerate (PyProof.Rows.callWith_type1 (thn (ha.run pos pins s σ H _ I h) fun us s1 ⟨vs, H1, I1, r1, q1⟩ => ?_) hs rfl))
  obtain ⟨a, xs, ex, hq, q⟩ := q1
  subst ex
  cases r1 with
  | cons r rr =>
    cases rr
    cases r
    obtain ⟨its, rv, p', hz⟩ := I1.tuple hq
    have pt : s1.heap.IsTuple a its.toArray := p'
    have hal : a < s1.heap.objs.size := by obtain ⟨_, q, _⟩ := pt; exact Heap.lt_size q
    refine enum_begins1 (begins_tuple a its.toArray) pt fun h' he hit hsz hk => wpAny_pyIter_enum he ?_
    have I2 : Inv X pins σ H1 { s1 with heap := h' } := I1.kept (t' := s1.toks) hk
    refine ⟨s1.heap.objs.size + 1, [s1.heap.objs.size + 1, s1.heap.objs.size], _, _, H1, rfl, I2, turn_enumT a (s1.heap.objs.size + 1) s1.heap.objs.size, ⟨⟨.none, he⟩, ⟨_, hit, rfl, rfl⟩, Nat.succ_ne_self _, Nat.ne_of_lt hal, Nat.ne_of_lt (Nat.lt_succ_of_lt hal)⟩, fun b hb => ?_, q⟩
    have e' : b = s1.heap.objs.size + 1 ∨ b = s1.heap.objs.size := by simpa using hb
    have hle : s1.heap.objs.size ≤ b := by
      rcases e' with z | z
      · rw [z]; exact Nat.le_add_right _ _
      · rw [z]; exact Nat.le_refl _
    exact I1.fpOk hle (I1.hok.fresh hle)
theorem pi_enumS {X : Cx} {e : Expr} {ta : TA} {p pos tpos : Pos} {elts : List Expr} {kk : Nat} (hg : Gl X "enumerate") (hm : X.mg "enumerate" = none) (ha : PA X [e] ta) (hs : starEach [e] X.env = [(false, eval e X.env)] := by rfl) :
    PI X (.Tuple elts kk tpos) (.Call (.Name "enumerate" p) [e] [] pos) (iEnumS ta) := by
  refine ⟨fun pins s σ H R I h => ?_⟩
  refine Call_ (ld_blt I hg hm boot_enumerate (PyProof.Rows.callWith_type1 (thn (ha.run pos pins s σ H _ I h) fun us s1 ⟨vs, H1, I1, r1, q1⟩ => ?_) hs rfl))
  obtain ⟨x, ex, q⟩ := q1
  subst ex
  cases r1 with
  | cons r rr =>
    cases rr
    obtain ⟨t, rfl⟩ := r
    refine call_enumerate_str fun h' he hit hsz hk => wpAny_pyIter_enum he ?_
    have I2 : Inv X pins σ H1 { s1 with heap := h' } := I1.kept (t' := s1.toks) hk
    refine ⟨s1.heap.objs.size + 1, [s1.heap.objs.size + 1, s1.heap.objs.size], _, _, H1, rfl, I2, turn_enumS x t (s1.heap.objs.size + 1) s1.heap.objs.size, ⟨⟨.none, he⟩, hit, Nat.succ_ne_self _, Nat.zero_le _⟩, fun b hb => ?_, q⟩
    have e' : b = s1.heap.objs.size + 1 ∨ b = s1.heap.objs.size := by simpa using hb
    have hle : s1.heap.objs.size ≤ b := by
      rcases e' with z | z
      · rw [z]; exact Nat.le_add_right _ _
      · rw [z]; exact Nat.le_refl _
    exact I1.fpOk hle (I1.hok.fresh hle)
theorem PI.or {X : Cx} {tg iter : Expr} {w1 w2 : TI} (h1 : PI X tg iter w1) (h2 : PI X tg iter w2) : PI X tg iter (fun σ H R => w1 σ H R ∨ w2 σ H R) :=
  ⟨fun pins s σ H R I h => h.elim (fun h => h1.run pins s σ H R I h) fun h => h2.run pins s σ H R I h⟩
/-- enumerate over a list, a tuple, a text -/
def iEnumA (K : PySem.W.Frag) (ta : TA) : TI := fun σ H R => iEnum K ta σ H R ∨ (iEnumT K ta σ H R ∨ iEnumS ta σ H R)
theorem pi_enumA {X : Cx} {e : Expr} {ta : TA} {p pos tpos : Pos} {elts : List Expr} {kk : Nat} (hg : Gl X "enumerate") (hm : X.mg "enumerate" = none) (ha : PA X [e] ta) (hs : starEach [e] X.env = [(false, eval e X.env)] := by rfl) :
    PI X (.Tuple elts kk tpos) (.Call (.Name "enumerate" p) [e] [] pos) (iEnumA X.K ta) := PI.or (pi_enum hg hm ha hs) (PI.or (pi_enumT hg hm ha hs) (pi_enumS hg hm ha hs))
/-- a list, a tuple, a text -/
def iSeq (K : PySem.W.Frag) (te : TE) : TI := fun σ H R => iList K te σ H R ∨ (iTup K te σ H R ∨ iStr te σ H R)
theorem pi_seq {X : Cx} {tg e : Expr} {te : TE} (he : PE X e te) : PI X tg e (iSeq X.K te) := PI.or (pi_list he) (PI.or (pi_tup he) (pi_str he))
end LX
namespace LD
open PySem L2 LX
section
variable {b : Bs} {A A1 A2 A3 : Abs} {T : Tmp} {σ : L2.St} {H H2 G : Hp} {v : V} {d e z : Dt} {ds es : List Dt} {te ta tb tc : TE} {t : TA} {i j : Int} {K : PySem.W.Frag} {n : Nat} {f : Nat → Dt} {wi w1 w2 : TI}
theorem EvI.l (h : EvI b w1 A n f A1) : EvI b (fun σ H R => w1 σ H R ∨ w2 σ H R) A n f A1 := fun T σ H c R k => .inl (h T σ H c R k)
theorem EvI.r' (h : EvI b w2 A n f A1) : EvI b (fun σ H R => w1 σ H R ∨ w2 σ H R) A n f A1 := fun T σ H c R k => .inr (h T σ H c R k)
theorem ei_seqL (h : EvM b te A (.lst ds) A1) : EvI b (iSeq K te) A ds.length (fun i => ds.getD i .non) A1 := (ei_list h).l
theorem ei_seqT (h : EvM b te A (.tup ds) A1) : EvI b (iSeq K te) A ds.length (fun i => ds.getD i .non) A1 := EvI.r' (ei_tup h).l
theorem ei_seqS {s : Str} (h : EvM b te A (.str s) A1) : EvI b (iSeq K te) A s.cps.size (fun k => .str ⟨#[s.cps.getD k 0]⟩) A1 := EvI.r' (EvI.r' (ei_str h))
theorem ei_enumL (h : EvM b te A (.lst ds) A1) : EvI b (iEnumA K (tCons te tNil)) A ds.length (fun i => .tup [.int (i : Nat), ds.getD i .non]) A1 := EvI.l fun T σ H c R k => h T σ H c _ fun v H1 c1 => by
  have w := c1
  obtain ⟨G, g, r⟩ := c1.top
  obtain ⟨a, xs, e1, e2, e3⟩ := r.lst_inv
  subst e1
  refine ⟨a, xs, rfl, SqL.of (g.gh _ _ e2), k _ [(.ref a, .lst ds)] H1 w fun i A T σ H c => ?_⟩
  obtain ⟨G, g⟩ := id c
  obtain ⟨xs, e2, e3⟩ := (g.tm (.ref a, .lst ds) (by simp)).lst_at
  have sq : SqL K H a xs := SqL.of (g.gh _ _ e2)
  refine ⟨fun hn => ⟨xs, sq, by rw [e3.length]; exact hn⟩, fun hn => ?_⟩
  obtain ⟨x, h1, h2⟩ := e3.getD (getD_some hn)
  refine ⟨⟨xs, x, sq, h1⟩, fun y H' hy => ?_⟩
  obtain ⟨p, x', rfl, hp, rfl, hy⟩ := hy
  have := hy xs sq
  rw [h1] at this
  cases this
  exact g.tup hp (.cons (.int _) (.cons h2 .nil))
theorem ei_enumT (h : EvM b te A (.tup ds) A1) : EvI b (iEnumA K (tCons te tNil)) A ds.length (fun i => .tup [.int (i : Nat), ds.getD i .non]) A1 := EvI.r' <| EvI.l fun T σ H c R k => h T σ H c _ fun v H1 c1 => by
  have w := c1
  obtain ⟨G, g, r⟩ := c1.top
  obtain ⟨a, xs, e1, e2, e3⟩ := r.tup_inv
  subst e1
  refine ⟨a, xs, rfl, SqT.of (g.gh _ _ e2), k _ [(.ref a, .tup ds)] H1 w fun i A T σ H c => ?_⟩
  obtain ⟨G, g⟩ := id c
  obtain ⟨xs, e2, e3⟩ := (g.tm (.ref a, .tup ds) (by simp)).tup_at
  have sq : SqT K H a xs := SqT.of (g.gh _ _ e2)
  refine ⟨fun hn => ⟨xs, sq, by rw [e3.length]; exact hn⟩, fun hn => ?_⟩
  obtain ⟨x, h1, h2⟩ := e3.getD (getD_some hn)
  refine ⟨⟨xs, x, sq, h1⟩, fun y H' hy => ?_⟩
  obtain ⟨p, x', rfl, hp, rfl, hy⟩ := hy
  have := hy xs sq
  rw [h1] at this
  cases this
  exact g.tup hp (.cons (.int _) (.cons h2 .nil))
theorem ei_enumS {s : Str} (h : EvM b te A (.str s) A1) : EvI b (iEnumA K (tCons te tNil)) A s.cps.size (fun i => .tup [.int (i : Nat), .str ⟨#[s.cps.getD i 0]⟩]) A1 := EvI.r' <| EvI.r' fun T σ H c R k => h T σ H c _ fun v H1 c1 => by
  obtain ⟨G, g, r⟩ := c1.top
  refine ⟨s, by rw [r.str_inv], k _ [] H1 ⟨G, g⟩ fun i A T σ H c => ⟨fun hn => hn, fun hn => ⟨hn, fun x H' hy => ?_⟩⟩⟩
  obtain ⟨p, n, rfl, hp, rfl, h1⟩ := hy
  obtain ⟨G, g⟩ := c
  have : s.cps.getD i 0 = n := by
    simp [Array.getD_eq_getD_getElem?, h1]
  show Conc b A ((_, Dt.tup [.int (i : Nat), .str ⟨#[s.cps.getD i 0]⟩]) :: _) σ _
  rw [this]
  exact g.tup hp (.cons (.int _) (.cons (.str _) .nil))
end
end LD
/-! LY: super().__init__(..) as the first statement of an own class's __init__. -/
namespace LX
open PySem PySem.Spec PyProof.Rows L2
/-- what the written part tells of a def of the class at D that says super() -/
structure SupD (K : PySem.W.Frag) (prog : Program) (mg : Str → Option Value) (x qual : Str) (st : Stmt) (f : Addr) (fd : FuncData) (D : Addr) : Prop where
  ex : ∃ (oc : Value) (od : Option Addr) (kV doc pm : Value) (an : Option Addr) (cda : Addr) (ct : Value) (osl : Array (Option Value)) (cc : Addr) (cl : Value) (cld : Option Addr) (csl : Array (Option Value))
      (ccl : Value) (cdd : Option Addr) (vs : Array Value) (ccs : Array (Option Value)) (file : Str) (tf : Tok),
    fd = PySem.W.ksFn x qual (defArgs st) (defBody st) (defScope st) .none kV doc pm an (.ref cda) ct cc ∧ K.lookup f = some ⟨oc, od, .func fd, osl⟩ ∧ PySem.W.codeIn K (.ref cda) qual = true ∧
    K.lookup cc = some ⟨cl, cld, .cell (some (.ref D)), csl⟩ ∧ K.lookup cda = some ⟨ccl, cdd, .fields vs, ccs⟩ ∧ vs[2]? = some (.str file tf) ∧ ((prog.main.file : Str) == file) = true
  kp : PySem.W.keepIn K (.ref f) = true
  htop : (prog.main.scope.names.lookup ("super" : Str)).isSome = false
  mgs : mg "super" = none
  clD : ∃ cdD, PySem.W.clsIn K D = some cdD
/-- the base's __init__ of the class at C, seen from the class at D -/
structure SupM (K : PySem.W.Frag) (C D f2 : Addr) : Prop where
  sup : PySem.W.ks_superIn K C D "__init__" = some (some (.ref f2))
  mro : PySem.W.mroIn K C (.ref D) = some true
  ty : PySem.W.typeIn K (.ref f2) = some (.type "function")
  fn : PySem.W.fnIn K f2 = true
  op : PySem.W.nsIn K cStatics "thirdparty.any" = some none
theorem cls_obj {K : PySem.W.Frag} {h : Heap} (X : K.In h) {D : Addr} {cd : ClassData} (e : PySem.W.clsIn K D = some cd) : ∃ oD, h.get? D = some oD ∧ oD.data = .cls cd := by
  unfold PySem.W.clsIn at e
  split at e
  · rename_i c d cd' sl ho
    cases e
    exact ⟨_, X _ _ ho, rfl⟩
  · cases e
section
variable {X : Cx} {pins : List (Addr × Obj)} {σ : L2.St} {H : Hp} {s : Shared}
/-- super() -/
theorem sup_node {body : List Stmt} {p0 p1 : Pos} {attr : Str} {whole : Sem Value} {f cda cc D C x dx : Addr} {oc ccl cl : Value} {od cdd cld : Option Addr} {osl ccs csl : Array (Option Value)} {fd : FuncData} {ar : Arg} {vs : Array Value} {file : Str} {tf : Tok} {cdD : ClassData}
    {fs : List (Str × V)} {E : Value → Shared → Prop} {Q : Value → Shared → Prop} (I : Inv X pins σ H s)
    (hks : X.env.kindOf "super" = some .globalImplicit) (hkc : X.env.kindOf "__class__" = some .free) (hat : (attr == ("__class__" : Str)) = false) (hfu : X.env.func = some f) (hf : X.K.lookup f = some ⟨oc, od, .func fd, osl⟩)
    (hp : (fd.params.posonlyargs ++ fd.params.args).head? = some ar) (hco : X.env.code = .ref cda) (hcc : X.K.lookup cda = some ⟨ccl, cdd, .fields vs, ccs⟩) (hvs : vs[2]? = some (.str file tf))
    (hfile : ((X.prog.main.file : Str) == file) = true) (htop : (X.prog.main.scope.names.lookup ("super" : Str)).isSome = false) (hmg : X.mg "super" = none) (hcell : X.env.cells.lookup ("__class__" : Str) = some cc) (hcl : X.K.lookup cc = some ⟨cl, cld, .cell (some (.ref D)), csl⟩)
    (hD : PySem.W.clsIn X.K D = some cdD) (hN : X.N[0]? = some ar.arg) (hka : X.env.kindOf ar.arg = some .local) (hs0 : σ[0]? = some (some (.ref x))) (hx : H x = some (.ins C dx fs)) (hm : PySem.W.mroIn X.K C (.ref D) = some true)
    (h : ∀ so h', h'.get? so = some (PySem.W.ks_superObj D x C) → so = s.heap.objs.size → Inv X pins σ H { s with heap := h' } → Q (.ref so) { s with heap := h' }) :
    PySem.wpAt (model X.prog X.w) X.A (.func body X.env) (attributeBase (.Call (.Name "super" p0) [] [] p1) attr X.env whole) Q E s := by
  have KX := I.kIn
  obtain ⟨oD, hD1, hD2⟩ := cls_obj KX hD
  have hkind := I.ok.kind
  refine PySem.ks_wpAt_super_base hks hkc hat hfu (KX _ _ hf) rfl hp hco (KX _ _ hcc) rfl hvs hfile htop ?_
  obtain ⟨mb, hb, hbv⟩ := I.mod.blt
  refine PySem.W.ks_loadName_global hkind hks (Calls.loadGlobal_builtin (mg := X.mg) (mb := mb) (v := .type "super") (by rw [I.ok.glob]; exact I.mod.glob.keeps I.bk) hmg (by rw [I.ok.blt]; exact hb.keeps I.bk) ((hbv _ (by decide +kernel)).trans (by decide +kernel)) ⟨rfl, ?_⟩)
  refine wpAny_loadName_free hkind hkc hcell ⟨_, KX _ _ hcl, rfl⟩ ?_
  obtain ⟨m, hn, hl⟩ := id I.loc
  obtain ⟨u, ru, lk⟩ := hl 0 ar.arg (.ref x) hN hs0 (.inl hka)
  cases ru
  have hv : m ar.arg = some (.ref x) := by
    rcases lk with ⟨_, e⟩ | ⟨k, _⟩
    · exact e
    · rcases k with k | k <;> rw [hka] at k <;> cases k
  refine wpAny_loadName_local hkind hka hn hv ?_
  obtain ⟨hh, g, d, t, os⟩ := s
  refine PySem.ks_wpAny_isType_cls hD1 hD2 ⟨rfl, ?_⟩
  obtain ⟨hown, _, _, hxo, _⟩ := I.hok x _ hx
  refine PySem.ks_wpAny_call_super hD1 hD2 hxo rfl (fun c e => by cases e) (PySem.W.looks_mroIn KX hm) (fun h' e k => ?_)
  exact h _ h' e rfl (I.kept (t' := t) k)
/-- super().__init__(e, ..), the first statement of a def -/
theorem sup_stmt {CX : CXT} {body : List Stmt} {p0 p1 p2 p3 p4 : Pos} {e : Expr} {es : List Expr} {f f2 cda cc D C : Addr} {oc ccl cl : Value} {od cdd cld : Option Addr} {osl ccs csl : Array (Option Value)} {fd fd2 : FuncData} {ar : Arg} {vs : Array Value} {file : Str} {tf : Tok} {cdD : ClassData}
    {k : Nat} {ps : List Str} {sp : Sp} {E : L2.St → XK} {ta : TA} {QV : VK} {EE : Value → Shared → Prop} (I : Inv X [] σ H s) (S : SupM X.K C D f2) (F2 : FnOk X.prog X.w X.K X.mg X.base CX k f2 fd2 ps sp) (hr : Room k X.A) (hb : Binds X.K fd2 ps []) (hpas : ∀ σ, PassesAt CX X σ (E σ))
    (hks : X.env.kindOf "super" = some .globalImplicit) (hkc : X.env.kindOf "__class__" = some .free) (hfu : X.env.func = some f) (hf : X.K.lookup f = some ⟨oc, od, .func fd, osl⟩)
    (hp : (fd.params.posonlyargs ++ fd.params.args).head? = some ar) (hco : X.env.code = .ref cda) (hcc : X.K.lookup cda = some ⟨ccl, cdd, .fields vs, ccs⟩) (hvs : vs[2]? = some (.str file tf))
    (hfile : ((X.prog.main.file : Str) == file) = true) (htop : (X.prog.main.scope.names.lookup ("super" : Str)).isSome = false) (hmg : X.mg "super" = none) (hcell : X.env.cells.lookup ("__class__" : Str) = some cc) (hcl : X.K.lookup cc = some ⟨cl, cld, .cell (some (.ref D)), csl⟩)
    (hD : PySem.W.clsIn X.K D = some cdD) (hN : X.N[0]? = some ar.arg) (hka : X.env.kindOf ar.arg = some .local) (ha : PA X (e :: es) ta) (hpn : X.pn = [])
    (hread : ∃ x dx fs, σ[0]? = some (some (.ref x)) ∧ H x = some (.ins C dx fs) ∧ ta σ H fun ws H1 => sp (.ref x :: ws) H1 QV (E σ))
    (hes : starEach (e :: es) X.env = (false, eval e X.env) :: starEach es X.env) (hpl : (backTo p3 (starEach es X.env)).any (·.1) = false) (hi : interactive X.env = false)
    (hsw : swapsWith (.Call (.Attribute (.Call (.Name "super" p0) [] [] p1) "__init__" p2) (e :: es) [] p3) none p4.line X.env = pure false)
    {pl : Sem Bool} (hev : eval (.Call (.Attribute (.Call (.Name "super" p0) [] [] p1) "__init__" p2) (e :: es) [] p3) X.env = (do
      let ov ← attributeBase (.Call (.Name "super" p0) [] [] p1) "__init__" X.env (eval (.Call (.Name "super" p0) [] [] p1) X.env)
      standAt p2.atName
      let (f, first) ← holding [ov] (getMethod ov "__init__" pl)
      callWith p3 f first (backTo p3 (starEach (e :: es) X.env)) [])) (hxe : EE = X.xe) :
    PySem.wpAt (model X.prog X.w) X.A (.func body X.env) (exec (.Expr (.Call (.Attribute (.Call (.Name "super" p0) [] [] p1) "__init__" p2) (e :: es) [] p3) p4) X.env) (fun fl s' => fl = .next ∧ ∃ v H2, Inv X [] σ H2 s' ∧ QV v H2) EE s := by
  subst hxe
  obtain ⟨x, dx, fs, hs0, hx, hta⟩ := hread
  have KX := I.kIn
  refine PySem.ks_wpAt_Expr_any ?_ hi hsw
  refine PySem.ks_wpAt_MethodCall ?_ hev
  refine sup_node I hks hkc (by decide +kernel) hfu hf hp hco hcc hvs hfile htop hmg hcell hcl hD hN hka hs0 hx S.mro fun so h' e1 e2 I1 => ?_
  obtain ⟨hh, g, d, t, os⟩ := s
  obtain ⟨cd, hcC, hal⟩ : ∃ cd, PySem.W.clsIn X.K C = some cd ∧ PySem.W.alongIn X.K "__init__" ((cd.mro.dropWhile (· != .ref D)).drop 1) = some (some (.ref f2)) := by
    have q := S.sup
    unfold PySem.W.ks_superIn at q
    cases hc : PySem.W.clsIn X.K C with
    | none => rw [hc] at q; cases q
    | some cd => rw [hc] at q; exact ⟨cd, rfl, q⟩
  have K1 := I1.kIn
  obtain ⟨of, hof, hofc⟩ : ∃ of, h'.get? f2 = some of ∧ of.cls = .type "function" := by
    have ht' : (X.K.lookup f2).map (·.cls) = some (.type "function") := S.ty
    cases z : X.K.lookup f2 with
    | none => rw [z] at ht'; cases ht'
    | some of => rw [z] at ht'; exact ⟨of, K1 _ _ z, Option.some.inj ht'⟩
  have xC : x ≠ C := fun z => by
    obtain ⟨oC, hC1, hC2⟩ := cls_obj I.ok.mod.kin hcC
    have := (I.bs _ _ hC1).2
    rw [← z, hx] at this
    cases this
  refine PySem.ks_wpAny_getMethod_super e1 (PySem.W.looks_opaque K1 S.op) (l₀ := cd.mro) (fun A Q E s k q => wpAny_bind ((PySem.W.looks_clsIn K1 hcC) A _ E s k (wpAny_pure q))) rfl K1 hal hof hofc xC (by decide +kernel) ?_
  have I2 : Inv X [] σ H ⟨h'.push (PySem.W.methodObj (.ref f2) (.ref x)), g, d, t + 1, os⟩ := I1.kept (t' := t + 1) fun b o q => Heap.get?_push_of_some _ q
  have hq : (h'.push (PySem.W.methodObj (.ref f2) (.ref x))).get? h'.objs.size = some (PySem.W.methodObj (.ref f2) (.ref x)) := Heap.get?_push_size _ rfl
  have hfr : H h'.objs.size = none := I1.hok.fresh (Nat.le_refl _)
  have I3 : Inv X [(h'.objs.size, PySem.W.methodObj (.ref f2) (.ref x))] σ H ⟨h'.push (PySem.W.methodObj (.ref f2) (.ref x)), g, d, t + 1, os⟩ := I2.pins_of fun p hp => by
    have e : p = (h'.objs.size, PySem.W.methodObj (.ref f2) (.ref x)) := by simpa using hp
    rw [e]
    exact ⟨hq, hfr, Nat.ne_of_gt (show X.env.locals < h'.objs.size from I1.lt), I1.nofs (Nat.le_refl _), fun v z => by cases z⟩
  show wpAny _ _ (callWith p3 (.ref h'.objs.size) [] (backTo p3 (starEach (e :: es) X.env)) []) _ _ _
  rw [hes]
  refine PySem.W.callWith_of (P := PySem.W.MethP X.K h'.objs.size f2 (.ref x)) (by show ((false || (backTo p3 (starEach es X.env)).any (·.1)) || false) = false; rw [hpl]; rfl) (PySem.W.keeps_M S.fn) ?_
  have hrun := ha.run p3 _ _ σ H _ I3 hta
  rw [hes] at hrun
  refine Calls.evalArgs_plain (thn hrun fun us s2 ⟨ws, H1, J, r, q⟩ => ?_)
  have hm : s2.heap.get? h'.objs.size = some (PySem.W.methodObj (.ref f2) (.ref x)) := (J.pin (h'.objs.size, PySem.W.methodObj (.ref f2) (.ref x)) (by rw [hpn]; simp)).1
  have J0 : Inv X [] σ H1 s2 := J.pins_of fun p hp => by cases hp
  refine ⟨⟨hm, J.kIn⟩, ?_⟩
  show wpAny _ _ (call (.ref h'.objs.size) ([] ++ us)) _ _ _
  refine wpAny_call (PySem.ks_codeAny_call_bound hm ?_)
  have r2 : Vals (.ref x :: ws) (Value.ref x :: us) := .cons rfl r
  have hl : (Value.ref x :: us).length = ps.length := by rw [← r2.length]; exact F2.len _ _ _ _ q
  have bb := hb s2 (Value.ref x :: us) J0.kIn (by rw [List.append_nil]; exact hl)
  rw [List.append_nil] at bb
  refine codeAny_mono (F2.run X.A X.stack s2 H1 ⟨Value.ref x :: us, []⟩ (Value.ref x :: us) (.ref x :: ws) _ (E σ) hr J0.env0 bb r2 q) fun r s' hq' => ?_
  cases r with
  | error e => exact hpas σ [] H1 s2 e s' J0 hq'
  | ok fl =>
    cases fl with
    | ret u =>
      obtain ⟨v, H2, J2, rv, qq⟩ := J0.after hq'
      exact ⟨rfl, v, H2, J2, qq⟩
    | next => exact False.elim hq'
    | brk => exact False.elim hq'
    | cont => exact False.elim hq'
end
end LX
/-! LZ: own errors whose __init__ says super().__init__('..'); self.x = x. -/
namespace LX
open PySem PySem.W PySem.Calls PyProof.Rows PySem.HandSPX
/-- the text of such an __init__ -/
structure ErrSt (st : Stmt) (nm : Str) : Prop where
  body : ∃ (msg : Str) (j : Nat) (p0 p1 p2 p3 p4 p5 q1 q2 q3 q4 : Pos), L2.defBody st =
    [.Expr (.Call (.Attribute (.Call (.Name "super" p0) [] [] p1) "__init__" p2) [.Constant (.str msg) j p5] [] p3) p4, .Assign [.Attribute (.Name "self" q1) nm q2] (.Name nm q3) q4] ∧ (∃ pl : Sem Bool, ∀ env : Env, eval (.Call (.Attribute (.Call (.Name "super" p0) [] [] p1) "__init__" p2) [.Constant (.str msg) j p5] [] p3) env = (do
      let ov ← attributeBase (.Call (.Name "super" p0) [] [] p1) "__init__" env (eval (.Call (.Name "super" p0) [] [] p1) env)
      standAt p2.atName
      let (f, first) ← holding [ov] (getMethod ov "__init__" pl)
      callWith p3 f first (backTo p3 (starEach [.Constant (.str msg) j p5] env)) [])) ∧ (∀ env : Env, swapsWith (.Call (.Attribute (.Call (.Name "super" p0) [] [] p1) "__init__" p2) [.Constant (.str msg) j p5] [] p3) none p4.line env = pure false)
  args : ∃ (p1 p2 : Pos), L2.defArgs st = { posonlyargs := [], args := [{ arg := "self", annotation := none, pos := p1 }, { arg := nm, annotation := none, pos := p2 }], vararg := none, kwonlyargs := [], kw_defaults := [], kwarg := none, defaults := [] }
  scope : L2.defScope st = { kind := .function, names := [(PySem.Str.ofString "self", .local), (nm, .local), (PySem.Str.ofString "__class__", .free), (PySem.Str.ofString "super", .globalImplicit)], isGenerator := false, isCoroutine := false, more := [] }
  bind : ∀ (qual : Str) (kV doc pm : Value) (an : Option Addr) (cdv ct : Value) (cc : Addr) (u v : Value), bindArgs (ksFn "__init__" qual (L2.defArgs st) (L2.defBody st) (L2.defScope st) .none kV doc pm an cdv ct cc) ⟨[u, v], []⟩ = pure [(PySem.Str.ofString "self", u), (nm, v)]
  n1 : (nm == ("self" : Str)) = false
  n2 : (("self" : Str) == nm) = false
  n3 : (("__class__" : Str) == nm) = false
  n4 : (("super" : Str) == nm) = false
  n5 : (nm == ("__debug__" : Str)) = false
structure ErrTxt (K : Frag) (prog : Program) (mg : Str → Option Value) (cn : Str) (nm : Str) (st : Stmt) (C fI : Addr) (fd : FuncData) : Prop where
  gC : mg cn = some (.ref C)
  cls : ∃ n q N bs bm sn sub ab col dd k0 k1 k2 k3 k5, K.lookup C = some (excClassObj n q C N bs bm true sn sub ab col dd k0 k1 k2 k3 k5 "ValueError.__new__") ∧ refsVE bm = true
  sa : findIn K (.ref C) "__setattr__" = some (some (.builtin "object.__setattr__"))
  ga : findIn K (.ref C) "__getattribute__" = some (some (.builtin "BaseException.__getattribute__"))
  gg : findIn K (.ref C) "__getattr__" = some none
  noN : findIn K (.ref C) nm = some none
  iC : findIn K (.ref C) "__init__" = some (some (.ref fI))
  tC : typeIn K (.ref fI) = some (.type "function")
  kC : keepIn K (.ref C) = true
  exC : subIn K (.ref C) (.type "BaseException") = some true
  tyC : typeIn K (.ref C) = some (.type "type")
  hdC : hasDictIn K C = true
  est : ErrSt st nm
  fn : ∃ qual, SupD K prog mg "__init__" qual st fI fd C
  sup : ks_superIn K C C "__init__" = some (some (.builtin "ValueError.__init__"))
  hB : subIn K (.ref C) (.type "ValueError") = some true
  mro : mroIn K C (.ref C) = some true
  op : nsIn K cStatics "thirdparty.any" = some none
/-- what __init__ leaves of a fresh exception at x -/
structure EInit (nm : Str) (h h' : Heap) (x C dx t1 : Addr) (v : Value) : Prop where
  keep : ∀ b o, b ≠ x → h.get? b = some o → h'.get? b = some o
  obj : h'.get? x = some { cls := .ref C, dict := some dx, data := .fields #[.ref t1, .none, .none, .none, .bool false, .none] }
  dbig : h.objs.size ≤ dx
  dne : dx ≠ x
  ns : h'.Ns1 dx (fun y => if y = nm then some v else none)
/-- ValueError.__init__ bound to the exception at e, called -/
theorem call_bwV {prog : Program} {w : World} {A : Around} {E : Value → Shared → Prop} {h : Heap} {g : Array GenState} {d : Drawn} {t : Nat} {os : OsState} {nm q : Str} {C N : Addr} {bs bm : List Value} {hdct : Bool} {sn : List Str} {sub : List Value} {ab : Bool} {col : Option Bool} {dd : Option Addr} {k0 k1 k2 k3 k5 : Option Value}
    {u e t0 : Addr} {rest : List Value} {Q : Value → Shared → Prop}
    (hC : h.get? C = some (excClassObj nm q C N bs bm hdct sn sub ab col dd k0 k1 k2 k3 k5 "ValueError.__new__")) (he : h.get? e = some (excO C t0)) (hu : h.get? u = some (kxs_mw "ValueError.__init__" e)) (hrest : rest.length ≤ sizeLine)
    (hq : ∀ h' t1, (∀ b o, b ≠ e → h.get? b = some o → h'.get? b = some o) → h.objs.size ≤ h'.objs.size → h'.get? e = some (excO C t1) → Q .none ⟨h', g, d, t, os⟩) :
    wpAny (model prog w) A (call (.ref u) rest) Q E ⟨h, g, d, t, os⟩ := by
  refine wpAny_call (codeAny_of_tree ?_)
  show wpAny _ A.in1 (callAny (.ref u) ⟨rest, []⟩) _ _ _
  simp only [callAny]
  refine wpAny_bind (wpAny_load hu ?_)
  simp only [kxs_mw, show (Value.type "method-wrapper" == Value.type "method" || Value.type "method-wrapper" == Value.type "builtin_function_or_method" || Value.type "method-wrapper" == Value.type "method-wrapper") = true by decide, if_true]
  refine W.KFB.if_so (by decide) ?_
  refine wpAny_bind (PySem.ESX.check_bound F.excBase_ValueError hC he rfl ?_)
  refine wpAny_bind (wpAny_pure (wpAny_pure ?_))
  refine ⟨Code.quiet_builtin _ (by decide +kernel), codeAny_builtin F.excBase_ValueError.initEntry ?_⟩
  rw [Around.under_plainId F.excBase_ValueError.init.plain _]
  wp_walk
  refine hq _ h.objs.size (fun b o hb ho => ?_) ?_ ?_
  · rw [Heap.get?_update_other _ _ (Ne.symm hb)]
    exact Heap.get?_push_of_some _ ho
  · rw [Heap.size_update, Heap.size_push]; exact Nat.le_succ _
  · rw [Heap.get?_update_self _ (Heap.get?_push_of_some _ he) rfl]
    rfl
section
variable {prog : Program} {w : World} {A : Around} {R : Result → Shared → Prop} {s : Shared} {K : Frag} {mg : Str → Option Value} {C fI : Addr} {cn nm : Str} {st : Stmt} {fd : FuncData}
theorem err_init (T : ErrTxt K prog mg cn nm st C fI fd) {x t0 : Addr} {v : Value} (X : K.In s.heap) (hlim : s.heap.NoLimit) (hg : s.heap.Ns mainGlobals mg) (hb : ∃ mb, s.heap.Ns builtinsNs mb ∧ mb "super" = some (.type "super")) (hx : s.heap.get? x = some (excO C t0)) (hnx : K.lookup x = none) (hroom : A.depth < recursionLimit)
    (hq : ∀ h' tk dx t1, EInit nm s.heap h' x C dx t1 v → R (.ok (.ret .none)) { s with heap := h', toks := tk }) :
    codeAny (model prog w) A (.call (.ref fI) ⟨[.ref x, v], []⟩) R s := by
  obtain ⟨qual, F0⟩ := T.fn
  obtain ⟨oc, od, kV, doc, pm, an, cda, ct, osl, cc, cl, cld, csl, ccl, cdd, vs, ccs, file, tf, efd, lk, hcd, hcell, hcda, hvs, hfile⟩ := F0.ex
  obtain ⟨msg, j, p0, p1, p2, p3, p4, p5, q1, q2, q3, q4, eb, ⟨pl, hev⟩, hsw⟩ := T.est.body
  obtain ⟨a1, a2, ea⟩ := T.est.args
  have es := T.est.scope
  obtain ⟨n, q, N, bs, bm, sn, sub, ab, col, dd, k0, k1, k2, k3, k5, hC, hbm⟩ := T.cls
  have hcl : clsIn K C = some { name := n, bases := bs, mro := .ref C :: bm, ns := N, qualname := q, hasDict := true, slotNames := sn, subclasses := sub, abstract := ab, collection := col, hasDel := false } := by unfold clsIn; rw [hC] <;> rfl
  have hbind : BindsTo s fd ⟨[.ref x, v], []⟩ [("self", .ref x), (nm, v)] := by
    rw [efd]
    exact BindsTo.of_eq (T.est.bind _ _ _ _ _ _ _ _ _ _)
  rw [eb, ea, es] at efd
  have hkc : fd.scope.names.lookup nm = some .local := by
    rw [efd]
    show List.lookup nm [(PySem.Str.ofString "self", NameKind.local), (nm, .local), (PySem.Str.ofString "__class__", .free), (PySem.Str.ofString "super", .globalImplicit)] = _
    rw [List.lookup_cons, show (nm == PySem.Str.ofString "self") = false from T.est.n1, List.lookup_cons, beq_self_eq_true]
  refine ks_codeAny_call_defAt (fd := fd) (binds := [("self", .ref x), (nm, v)]) (body := _) hroom (X _ _ lk) rfl hlim (by rw [efd]; exact codeRec_of X hcd) (by rw [efd]) hbind (by rw [efd]; intro y hy; simp at hy; rcases hy with rfl | rfl | rfl | rfl <;> simp) (fun y hy => ?_) (fun h₁ hns kk => ?_) (by rw [efd]) (by rw [efd]) (by rw [efd])
  · rcases List.mem_cons.mp hy with e | hy
    · rw [e, efd]; rfl
    · have e : y = (nm, v) := by simpa using hy
      rw [e]; exact hkc
  have eenv : callEnv fd s.heap.objs.size fI = envX qual (L2.defScope st) s.heap.objs.size fI (.ref cda) [("__class__", cc)] := by rw [efd, es]; rfl
  rw [eenv]
  have kl : (envX qual (L2.defScope st) s.heap.objs.size fI (.ref cda) [("__class__", cc)]).kindOf nm = some .local := by
    show (L2.defScope st).names.lookup nm = _
    rw [es]
    show List.lookup nm [(PySem.Str.ofString "self", NameKind.local), (nm, .local), (PySem.Str.ofString "__class__", .free), (PySem.Str.ofString "super", .globalImplicit)] = _
    rw [List.lookup_cons, show (nm == PySem.Str.ofString "self") = false from T.est.n1, List.lookup_cons, beq_self_eq_true]
  have kk_ : (envX qual (L2.defScope st) s.heap.objs.size fI (.ref cda) [("__class__", cc)]).scope.kind = .function := by show (L2.defScope st).kind = _; rw [es]
  have kS : (envX qual (L2.defScope st) s.heap.objs.size fI (.ref cda) [("__class__", cc)]).kindOf ("self" : Str) = some .local := by
    show (L2.defScope st).names.lookup _ = _
    rw [es]; rfl
  have kC_ : (envX qual (L2.defScope st) s.heap.objs.size fI (.ref cda) [("__class__", cc)]).kindOf ("__class__" : Str) = some .free := by
    show (L2.defScope st).names.lookup ("__class__" : Str) = _
    rw [es]
    show List.lookup ("__class__" : Str) [(PySem.Str.ofString "self", NameKind.local), (nm, .local), (PySem.Str.ofString "__class__", .free), (PySem.Str.ofString "super", .globalImplicit)] = _
    rw [List.lookup_cons, show (("__class__" : Str) == PySem.Str.ofString "self") = false by decide +kernel, List.lookup_cons, T.est.n3]; rfl
  have kG : (envX qual (L2.defScope st) s.heap.objs.size fI (.ref cda) [("__class__", cc)]).kindOf ("super" : Str) = some .globalImplicit := by
    show (L2.defScope st).names.lookup ("super" : Str) = _
    rw [es]
    show List.lookup ("super" : Str) [(PySem.Str.ofString "self", NameKind.local), (nm, .local), (PySem.Str.ofString "__class__", .free), (PySem.Str.ofString "super", .globalImplicit)] = _
    rw [List.lookup_cons, show (("super" : Str) == PySem.Str.ofString "self") = false by decide +kernel, List.lookup_cons, T.est.n4]; rfl
  -- the frame's names
  have lS : List.lookup ("self" : Str) ([("self", Value.ref x), (nm, v)] : List (Str × Value)).reverse = some (.ref x) := by
    show List.lookup ("self" : Str) [(nm, v), ("self", Value.ref x)] = _
    rw [List.lookup_cons, T.est.n2]; rfl
  have lN : List.lookup nm ([("self", Value.ref x), (nm, v)] : List (Str × Value)).reverse = some v := by
    show List.lookup nm [(nm, v), ("self", Value.ref x)] = _
    rw [List.lookup_cons, beq_self_eq_true]
  have X₁ : K.In h₁ := X.keeps kk
  have hx₁ := kk _ _ hx
  obtain ⟨oD, hD1, hD2⟩ := cls_obj X₁ hcl
  obtain ⟨mb, hmb, hsb⟩ := hb
  generalize hE : envX qual (L2.defScope st) s.heap.objs.size fI (.ref cda) [("__class__", cc)] = env at *
  have envL : env.locals = s.heap.objs.size := by rw [← hE]
  have envG : env.globals = mainGlobals := by rw [← hE]
  have envB : env.builtins = builtinsNs := by rw [← hE]
  have envC : env.cells.lookup ("__class__" : Str) = some cc := by rw [← hE]; rfl
  have envF : env.func = some fI := by rw [← hE]
  have envD : env.code = .ref cda := by rw [← hE]
  have quiet : interactive env = false := by simp [interactive, kk_]
  have hn : h₁.Ns env.locals (fun y => ([("self", Value.ref x), (nm, v)] : List (Str × Value)).reverse.lookup y) := by rw [envL]; exact hns
  refine PySem.ks_wpAt_execs_cons (ks_wpAt_Expr_any ?_ quiet (hsw env))
  refine ks_wpAt_MethodCall ?_ (hev env)
  refine PySem.ks_wpAt_super_base (of := _) (ar := { arg := "self", annotation := none, pos := a1 }) kG kC_ (by decide +kernel) envF (X₁ _ _ lk) rfl (by rw [efd]; rfl) envD (X₁ _ _ hcda) rfl hvs hfile F0.htop ?_
  refine PySem.W.ks_loadName_global kk_ kG (Calls.loadGlobal_builtin (mg := mg) (mb := mb) (v := .type "super") (by rw [envG]; exact hg.keeps kk) F0.mgs (by rw [envB]; exact hmb.keeps kk) hsb ⟨rfl, ?_⟩)
  refine wpAny_loadName_free kk_ kC_ envC ⟨_, X₁ _ _ hcell, rfl⟩ ?_
  refine wpAny_loadName_local kk_ kS hn lS ?_
  obtain ⟨hp, g, d, tk0, os⟩ := s
  refine PySem.ks_wpAny_isType_cls hD1 hD2 ⟨rfl, ?_⟩
  refine PySem.ks_wpAny_call_super hD1 hD2 hx₁ rfl (fun c e => by cases e) (looks_mroIn X₁ T.mro) (fun h₂ e2 k2 => ?_)
  have X₂ := X₁.keeps k2
  have hx₂ := k2 _ _ hx₁
  have hal : alongIn K "__init__" (((.ref C :: bm : List Value).dropWhile (· != .ref C)).drop 1) = some (some (.builtin "ValueError.__init__")) := by
    have q := T.sup
    unfold ks_superIn at q
    rw [hcl] at q
    exact q
  have IA : InstAt h₂ x (excO C t0) C none := ⟨hx₂, rfl, rfl, trivial⟩
  have xC : x ≠ C := fun z => by
    rw [z, hC] at hnx
    cases hnx
  refine kxs_getMethod kxs_ValueError e2 (looks_opaque X₂ T.op) (l₀ := .ref C :: bm) (fun A Q E s k q => wpAny_bind ((looks_clsIn X₂ hcl) A _ E s k (wpAny_pure q))) rfl X₂ hal (IA.type.andThen (looks_subIn X₂ T.hB)) xC (by decide +kernel) ?_
  have k3 : ∀ b o, h₂.get? b = some o → (h₂.push (kxs_mw "ValueError.__init__" x)).get? b = some o := fun b o e => Heap.get?_push_of_some _ e
  refine kxs_callWith (i := "ValueError.__init__") (x := x) rfl ?_
  refine Calls.evalArgs_plain (Calls.spliced_cons (Calls.Constant_str (pos := p5) (k := j) (Calls.spliced_nil ?_)))
  refine ⟨Heap.get?_push_size _ rfl, ?_⟩
  refine call_bwV (t0 := t0) ((X₂.keeps k3) _ _ hC) (k3 _ _ hx₂) (Heap.get?_push_size _ rfl) (by rw [sizeLine_eq]; show 1 ≤ 16777216; decide) fun h₄ t1 k4 sz4 hx4 => ?_
  refine PySem.wpAt_of_wpAny ?_
  have nxL : x ≠ hp.objs.size := Nat.ne_of_lt (Heap.lt_size hx)
  have kall : ∀ b o, b ≠ x → h₁.get? b = some o → h₄.get? b = some o := fun b o hb e => k4 b o hb (k3 _ _ (k2 _ _ e))
  have X₄ : K.In h₄ := fun b o e => kall b o (fun z => by rw [z, hnx] at e; cases e) (X₁ b o e)
  have hn4 : h₄.Ns env.locals (fun y => ([("self", Value.ref x), (nm, v)] : List (Str × Value)).reverse.lookup y) := by
    obtain ⟨o, es', ep, ho, r⟩ := hn
    exact ⟨o, es', ep, kall _ _ (by rw [envL]; exact Ne.symm nxL) ho, r⟩
  refine wpAny_execs_cons (plainObj_wpAny_Assign_Attribute ?_)
  refine wpAny_Name (wpAny_loadName_local kk_ kl hn4 lN ?_) T.est.n5
  refine wpAny_Name (wpAny_loadName_local kk_ kS hn4 lS ?_) (by decide +kernel)
  refine set_plain X₄ (ox := excO C t1) (od := none) ⟨hx4, rfl, rfl, trivial⟩ T.sa ?_
  refine exc_osa X₄ hx4 hcl (show refsVE (.ref C :: bm) = true from hbm) rfl T.noN (fun h₅ tk₅ dx k₅ dn dne hx₅ hn₅ => ?_)
  refine wpAny_execs_nil (hq h₅ tk₅ dx t1 ⟨fun b o hb' e => k₅ b o hb' (kall b o hb' (kk b o e)), hx₅, ?_, dne, hn₅⟩)
  have z1 : hp.objs.size ≤ h₄.objs.size := by
    have hLn := hn4.lt
    rw [envL] at hLn
    exact Nat.le_of_lt hLn
  exact Nat.le_trans z1 dn
end
end LX
/-! MA: own errors raised, caught and read. -/
namespace LX
open PySem PySem.W PySem.Calls PyProof.Rows PySem.HandSPX
/-- a made own error -/
structure EMade (nm : Str) (h h' : Heap) (e C d : Addr) (v : Value) : Prop where
  keep : ∀ b o, h.get? b = some o → h'.get? b = some o
  new : h.objs.size ≤ e
  obj : ∃ oe vs, h'.get? e = some oe ∧ oe.cls = .ref C ∧ oe.dict = some d ∧ oe.data = .fields vs ∧ vs[1]? = some .none
  dbig : h.objs.size ≤ d
  dne : d ≠ e
  ns : h'.Ns1 d (fun y => if y = nm then some v else none)
section
variable {prog : Program} {w : World} {A : Around} {R : Result → Shared → Prop} {s : Shared} {K : Frag} {mg : Str → Option Value} {C fI : Addr} {cn nm : Str} {st : Stmt} {fd : FuncData}
theorem one_size (v : Value) : [v].length ≤ sizeLine := by
  rw [sizeLine_eq]
  exact (by decide : 1 ≤ 16777216)
theorem err_made (T : ErrTxt K prog mg cn nm st C fI fd) {v : Value} (X : K.In s.heap) (hlim : s.heap.NoLimit) (hg : s.heap.Ns mainGlobals mg) (hb : ∃ mb, s.heap.Ns builtinsNs mb ∧ mb "super" = some (.type "super")) (hroom : A.depth + 1 < recursionLimit)
    (hq : ∀ h' tk e d, EMade nm s.heap h' e C d v → R (.ok (.ret (.ref e))) { s with heap := h', toks := tk }) :
    codeAny (model prog w) A (.call (.ref C) ⟨[v], []⟩) R s := by
  obtain ⟨n, q, N, bs, bm, sn, sub, ab, col, dd, k0, k1, k2, k3, k5, hC, hbm⟩ := T.cls
  obtain ⟨hp, g, dr, tk, os⟩ := s
  have k : ∀ b o, hp.get? b = some o → ((hp.push (kdv_tup [v])).push (excO C hp.objs.size)).get? b = some o := fun b o e => Heap.get?_push_of_some _ (Heap.get?_push_of_some _ e)
  have hget : ((hp.push (kdv_tup [v])).push (excO C hp.objs.size)).get? (hp.objs.size + 1) = some (excO C hp.objs.size) := by heap_get
  have hnx : K.lookup (hp.objs.size + 1) = none := by
    cases e : K.lookup (hp.objs.size + 1) with
    | none => rfl
    | some o =>
      have z : hp.get? (hp.objs.size + 1) = some o := X _ _ e
      exact absurd (Nat.lt_of_succ_lt (Heap.lt_size z)) (Nat.lt_irrefl _)
  obtain ⟨mb, hb1, hb2⟩ := hb
  refine call_own F.excBase_ValueError (fun X => refsVE_contains X bm hbm) (X _ _ hC) (looks_findIn X T.iC) (fun self => bind_fn X self T.tC) (one_size v) ?_
  refine err_init (s := ⟨(hp.push (kdv_tup [v])).push (excO C hp.objs.size), g, dr, tk, os⟩) T (X.keeps k) (hlim.keeps k) (hg.keeps k) ⟨mb, hb1.keeps k, hb2⟩ hget hnx ?_ fun h' tk' dx t1 ⟨k', hx, dn, dne, hns⟩ => ?_
  · show A.depth + 1 < recursionLimit
    exact hroom
  · have old : ∀ b o, hp.get? b = some o → h'.get? b = some o := fun b o e => k' b o (Nat.ne_of_lt (Nat.lt_succ_of_lt (Heap.lt_size e))) (k b o e)
    have z : hp.objs.size + 1 + 1 ≤ dx := by
      first
        | (simpa only [Heap.size_push] using dn)
        | exact dn
        | (have q := dn; rw [Heap.size_push, Heap.size_push] at q; exact q)
    exact ⟨rfl, hq h' tk' (hp.objs.size + 1) dx ⟨old, Nat.le_succ _, ⟨_, _, hx, rfl, rfl, rfl, rfl⟩, Nat.le_trans (Nat.le_trans (Nat.le_succ _) (Nat.le_succ _)) z, dne, hns⟩⟩
end
end LX
namespace LX
open PySem PySem.Spec PyProof.Rows L2
theorem relO_one {nm : Str} {v : V} {v' : Value} (r : RelV v v') (f : Str) : RelO (List.lookup f [(nm, v)]) (if f = nm then some v' else none) := by
  by_cases hw : f = nm
  · subst hw
    rw [if_pos rfl]
    have q : List.lookup f [(f, v)] = some v := by simp [List.lookup]
    rw [q]
    exact r
  · rw [if_neg hw]
    have qw : (f == nm) = false := by simpa using hw
    have q2 : List.lookup f [(nm, v)] = none := by simp [List.lookup, qw]
    rw [q2]
    trivial
/-- Own(e) -/
def tMkErr (C : Addr) (nm : Str) (ta : TA) : L2.St → Hp → XK → Prop := fun σ H Q => ta σ H fun vs H1 => ∃ v, vs = [v] ∧ ∀ d, H1 d = none → Q (.ref C) (some d) (upd H1 d (.xd [(nm, v)]))
section
variable {X : Cx} {C fI : Addr} {cn nm : Str} {st : Stmt} {fd : FuncData}
theorem pmk_err {a : Expr} {ta : TA} {p pos : Pos} {k : Nat} (T : ErrTxt X.K X.prog X.mg cn nm st C fI fd) (hr : Room k X.A) (ha : PA X [a] ta) (hg : Gl X cn)
    (hdb : (cn == ("__debug__" : Str)) = false := by decide)
    (he : starEach (a :: []) X.env = (false, eval a X.env) :: starEach [] X.env := by rfl) (hpl : (backTo pos (starEach [] X.env)).any (·.1) = false := by rfl) :
    PMk X (.Call (.Name cn p) [a] [] pos) (tMkErr C nm ta) := by
  intro pins s σ H Q I h
  refine wpAny_Call_Name_kw (ld_glob I hg T.gC ?_ hdb)
  refine PySem.W.callWith_K (h₀ := X.base) I.ok.mod.kin T.kC (thn (ha.run pos pins s σ H _ I h) fun us s1 hh => ?_) he hpl
  obtain ⟨vs, H1, I1, r1, v, ev, q1⟩ := hh
  subst ev
  refine ⟨I1.kIn, ?_⟩
  cases r1 with
  | cons rv rn =>
    rename_i v' us'
    cases rn
    show wpAny _ _ (call (.ref C) [v']) _ _ _
    have hlim := I1.nolimit
    obtain ⟨mb, hmb, hbv⟩ := I1.mod.blt
    have hg1 := I1.mod.glob.keeps I1.bk
    have hb1 : ∃ mb, s1.heap.Ns builtinsNs mb ∧ mb "super" = some (.type "super") := ⟨mb, hmb.keeps I1.bk, (hbv _ (by decide +kernel)).trans (by decide +kernel)⟩
    obtain ⟨hp, g, dr, tk, os⟩ := s1
    refine wpAny_call (err_made T I1.kIn hlim hg1 hb1 (by have := hr.dp; omega) fun h' tk' e d M => ?_)
    show MkP X pins σ Q (.ref e) ⟨h', g, dr, tk', os⟩
    obtain ⟨oe, fv, hoe, hc, hd, hdat, h1⟩ := M.obj
    have hns := M.ns
    obtain ⟨G', g1, g2⟩ := restrict h' fun b => decide (b ≠ e)
    have gk : ∀ b, b ≠ e → G'.get? b = h'.get? b := fun b hb => g1 b (decide_eq_true hb)
    have ge : G'.get? e = none := g2 e (by simp)
    have old : ∀ b o, hp.get? b = some o → G'.get? b = some o := fun b o q => (gk b (Nat.ne_of_lt (Nat.lt_of_lt_of_le (Heap.lt_size q) M.new))).trans (M.keep b o q)
    have ob : ObjOk X.prog X.w (upd H1 d (.xd [(nm, v)])) G' d (.xd [(nm, v)]) :=
      ⟨_, hns.at (fun o q => (gk d M.dne).trans q), fun f => relO_one rv f⟩
    have J : Inv X pins σ (upd H1 d (.xd [(nm, v)])) ⟨G', g, dr, tk', os⟩ := I1.laid (t' := tk') old M.dbig ob
    refine ⟨e, oe, fv, ⟨G', g, dr, tk', os⟩, _, .ref C, some d, rfl, J, fun b o q => ?_, ge, hoe, ⟨hc, hd⟩, hdat, h1, ?_, rfl, I1.bare, raises_own T.exC T.tyC, q1 d (I1.hok.fresh M.dbig)⟩
    · by_cases hb : b = e
      · have q' : G'.get? b = some o := q
        rw [hb, ge] at q'; cases q'
      · exact (gk b hb).symm.trans q
    · rw [upd_ne (Ne.symm M.dne)]
      exact I1.hok.fresh M.new
/-- raise Own(e) -/
def tRaise (C : Addr) (nm : Str) (W : WX) (ta : TA) : TS := fun _ σ H => tMkErr C nm ta σ H fun cls d H' => W cls d σ H'
theorem ps_raiseE {a : Expr} {ta : TA} {W : WX} {p pos pos2 : Pos} {k : Nat} (hc : X.calm = true) (T : ErrTxt X.K X.prog X.mg cn nm st C fI fd) (hr : Room k X.A) (tk : Takes X W) (ha : PA X [a] ta) (hg : Gl X cn) (hdb : (cn == ("__debug__" : Str)) = false := by decide)
    (he : starEach (a :: []) X.env = (false, eval a X.env) :: starEach [] X.env := by rfl) (hpl : (backTo pos (starEach [] X.env)).any (·.1) = false := by rfl) :
    PS X (.Raise (some (.Call (.Name cn p) [a] [] pos)) none pos2) (tRaise C nm W ta) := ps_raise hc tk (pmk_err T hr ha hg hdb he hpl)
end
end LX
namespace LD
open PySem L2
section
variable {b : Bs} {A A1 A2 A3 : Abs} {T : Tmp} {σ : St} {H H2 G : Hp} {v : V} {d e z : Dt} {ds es : List Dt} {te ta tb tc : TE} {t : TA} {K : PySem.W.Frag} {P : Post} {W : WX} {XP : Abs → Addr → Option (List (Str × V)) → Prop} {C : Addr} {nm : Str}
/-- a plain value is told by its data alone -/
def plainV : Dt → Option V
  | .non => some .non
  | .bl b => some (.bl b)
  | .int i => some (.int i)
  | .str s => some (.str s)
  | _ => none
theorem plain_inv {x : V} (r : Rp G v d) (h : plainV d = some x) : v = x := by
  cases r <;> simp [plainV] at h <;> first | exact h | exact h.symm
theorem s_raise {x : V} (ht : EvA b t A [d] A1) (hp : plainV d = some x) (hw : WOk b W XP) (hx : XP A1 C (some [(nm, x)])) : StA b (LX.tRaise C nm W t) A P := fun T σ H c D _ _ _ _ => ht T σ H c _ fun vs H1 hl c1 => by
  obtain ⟨G, g, r⟩ := c1.zip hl
  cases r with
  | @cons y _ _ _ r1 r2 =>
    cases r2
    have := plain_inv r1 hp
    subst this
    refine ⟨y, rfl, fun dd hd => ?_⟩
    have e0 : Ex H1 (upd H1 dd (.xd [(nm, y)])) := Evl.Ex.new hd
    exact hw A1 C (some [(nm, y)]) (some dd) T σ _ hx ⟨G, g.grow (Evl.Ex.refl G) (g.gh.trans e0) e0 fun a _ h => h⟩ ⟨dd, rfl, by
      cases z : b.H0 dd with
      | none => rfl
      | some o => exact absurd hd (g.kp.2 dd (by rw [z]; simp)), upd_same⟩
end
end LD
/-! MB: isinstance; errors caught, asked and read. -/
namespace LX
open PySem PySem.Spec PySem.Calls PyProof.Rows PySem.W
section
variable {prog : Program} {w : World} {A : Around} {E : Value → Shared → Prop} {s : Shared} {K : Frag} {x D : Addr} {ox : Obj} {od : Option Obj}
theorem findObj_dataO {C : Addr} {name : Str} {a g : Value} (hc : (clsIn K C).isSome = true) (ha : findIn K (.ref C) name = some (some a)) (hg : specialIn K a "__get__" = some (some g)) (ht : takesIn K a = some true) : findObj K C od name = some (.bind g a) := by
  obtain ⟨cd, hc⟩ := Option.isSome_iff_exists.mp hc
  unfold findObj
  rw [hc, Option.bind_some, ha, Option.bind_some]
  simp [hg, ht]
theorem kin_classO {Q : Option Value → Shared → Prop} (T : L2.ExcC K D)
    (X : K.In s.heap) (I : InstAt s.heap x ox D od) (h : Q (some (.ref D)) { s with toks := s.toks + 1 }) : wpAny (model prog w) A (getAttr? (.ref x) "__class__") Q E s := by
  have hf : findObj K D od "__class__" = some (.bind (.builtin "getset_descriptor.__get__") (.builtin "object.__class__")) := findObj_dataO (by obtain ⟨cd, hc, _⟩ := any_some T.hd; rw [hc]; rfl) T.ha T.hn T.ht
  obtain ⟨hp, g, d, t, os⟩ := s
  have L0 := I.type (M := model prog w)
  have L1 := looks_findIn (M := model prog w) X T.hg
  have L2 := looks_findIn (M := model prog w) X T.hk
  have L3 := looks_find (M := model prog w) X I hf
  have sub : Looks (model prog w) hp (isInstance (.ref x) (.type "BaseException")) true := L0.andThen (looks_subIn X T.hs)
  have hx0 : (false && onTheHeap (Value.builtin "BaseException.__getattribute__")) = false := rfl
  have hx2 : (Value.builtin "BaseException.__getattribute__" == Value.builtin "object.__getattribute__") = false := by decide +kernel
  have hx1 : (onTheHeap (Value.ref D) && Value.builtin "BaseException.__getattribute__" == Value.builtin "object.__getattribute__") = false := by rw [hx2]; rfl
  unfold getAttr? getAttrBy? getAttrBy
  refine wpAny_bind (wpAny_mkText (wpAny_bind (wpAny_attempt (wpAny_holding (wpAny_bind (L0.at (wpAny_bind (L1.at ?_))))))))
  show wpAny _ _ (if (onTheHeap (Value.ref D) && Value.builtin "BaseException.__getattribute__" == Value.builtin "object.__getattribute__") = true then _ else _) _ _ _
  rw [hx1, if_neg Bool.false_ne_true]
  unfold getAttrByItsOwn hookBefore
  refine wpAny_bind ?_
  rw [if_pos (show onTheHeap (Value.ref D) = true from rfl)]
  refine L2.at ?_
  refine wpAny_bind (wpAny_attempt (wpAny_holding ?_))
  unfold callGetattribute
  rw [hx0, if_neg Bool.false_ne_true]
  unfold boundAndCalled
  rw [PySem.F.excAttr_ValueError.ga.bind (.ref x)]
  refine wpAny_bind (wpAny_pure ?_)
  show wpAny _ _ (call (.builtin "BaseException.__getattribute__") [.ref x, .str "__class__" t]) _ _ _
  refine wpAny_call (codeAny_call_builtin PySem.F.excAttr_ValueError.ga.plain PySem.F.entry_bexc_ga ?_)
  refine @check_slot (model prog w) _ _ ⟨hp, g, d, t + 1, os⟩ "BaseException.__getattribute__" "BaseException" "__getattribute__" (.ref x) [.str "__class__" t] [] _ (by decide +kernel) (by decide +kernel) sub (PySem.F.args_bexc_ga (.ref x) (.str "__class__" t)) ?_
  unfold Builtin.«object.__getattribute__»
  refine wpAny_bind (wpAny_of_eq (a := ((Value.ref x : Value), [Value.str "__class__" t])) (by first | rfl | (simp only [slotArgs]; rfl)) ?_)
  refine wpAny_bind (wpAny_pure (wpAny_bind (L0.at (wpAny_bind (L3.at ?_)))))
  show wpAny _ _ (holding [Value.builtin "object.__class__"] (call (.builtin "getset_descriptor.__get__") [.builtin "object.__class__", .ref x, .ref D]) >>= ret) _ _ _
  refine wpAny_bind (wpAny_holding (wpAny_call (class_get (s := ⟨hp, g, d, t + 1, os⟩) (ox := ox) (od := od) X I T.hm ?_)))
  refine wpAny_pure ?_
  show wpAny _ _ (handedOut (.ref D)) _ _ _
  rw [handedOut_of (v := .ref D) rfl]
  first
    | exact wpAny_pure (wpAny_pure h)
    | exact wpAny_pure h
    | exact wpAny_pure (wpAny_bind (wpAny_pure (wpAny_pure h)))
theorem kitx_excO (T : L2.ExcC K D) : KitX K (.ref x) (.ref D) (fun h => ∃ od, InstAt h x ox D od) where
  ty := fun _ _ _ ⟨_, I⟩ => I.type
  it := fun _ _ X _ => by
    obtain ⟨cdD, hcD, _⟩ := any_some T.hd
    unfold clsIn at hcD
    split at hcD
    · rename_i c' d' cd' sl' ho
      intro A' Q' E' s' k q
      unfold isType loadHead
      exact wpAny_bind (wpAny_loadPart (k _ _ (X _ _ ho)) (wpAny_pure q))
    · cases hcD
  ne := fun h tp dd its n sl X htp => by
    obtain ⟨cdD, hcD, _⟩ := any_some T.hd
    refine Bool.eq_false_iff.mpr fun q => ?_
    have e : D = tp := Value.ref.inj (beq_iff_eq.mp q)
    subst e
    unfold clsIn at hcD
    split at hcD
    · rename_i c' d' cd' sl' ho
      have z := (X _ _ ho).symm.trans htp
      cases z
    · cases hcD
  ca := fun X ⟨_, I⟩ k => kin_classO T X I k
end
end LX
namespace LX
open PySem PySem.Spec PyProof.Rows L2
/-- isinstance(e, c), e the caught error at a, of the class cls, its dict d -/
def rIsX (K : PySem.W.Frag) (a : Addr) (cls : Value) (d : Option Addr) : List V → Hp → VK → Prop := fun xs H Q => ∃ (D : Addr) (c : V) (cv : Value) (b : Bool), cls = .ref D ∧ ExcC K D ∧ xs = [.ref a, c] ∧ ClsV c cv ∧ PySem.W.kitOne K (.ref D) cv = some b ∧
  (d = none ∨ ∃ dd fs, d = some dd ∧ H dd = some (.xd fs)) ∧ Q (.bl b) H
theorem call_isX {X : Cx} {a : Addr} {oe : Obj} {cls : Value} {d : Option Addr} {pn : List (Addr × Obj)} (hz : Zc cls d oe) (hf : ∃ vs, oe.data = .fields vs) : CallR (X.suite a ((a, oe) :: pn)) (.builtin "isinstance") (rIsX X.K a cls d) := by
  intro pins s σ H xs us Q I r h
  obtain ⟨D, c, cv, b, rfl, C, rfl, hcv, e, hd, q⟩ := h
  obtain ⟨u1, u2, rfl, r1, r2⟩ := vals2 r
  cases r1
  have ec := hcv.eq r2
  subst ec
  obtain ⟨hget, _⟩ := I.pin (a, oe) (List.mem_append.mpr (.inl List.mem_cons_self))
  obtain ⟨vs, hv⟩ := hf
  have J : ∃ od, PySem.W.InstAt s.heap a oe D od := by
    obtain ⟨oc, oed, oda, osl⟩ := oe
    obtain ⟨h1, h2⟩ := hz
    dsimp only at h1 h2 hv
    subst h1 h2 hv
    rcases hd with rfl | ⟨dd, fs, rfl, hx⟩
    · exact ⟨none, hget, rfl, rfl, trivial⟩
    · have hx' : ObjOk X.prog X.w H s.heap dd (.xd fs) := I.hok dd _ hx
      obtain ⟨mA, hns, _⟩ := hx'
      obtain ⟨o, es, ep, ho, _⟩ := hns
      exact ⟨some o, hget, rfl, rfl, ho⟩
  exact PySem.W.kia_one (kitx_excO C) I.kIn J e (fun z => nomatch z) fun tk => ⟨.bl b, H, I.kept (t' := tk) fun _ _ z => z, rfl, q⟩
end LX
namespace LD
open PySem L2
section
variable {b : Bs} {A A1 A2 A3 : Abs} {T : Tmp} {σ : St} {H H2 G : Hp} {v : V} {d e z : Dt} {ds es : List Dt} {te ta tb tc : TE} {t : TA} {K : PySem.W.Frag} {P : Post} {W : WX} {XP : Abs → Addr → Option (List (Str × V)) → Prop} {C : Addr} {nm : Str} {r : Bool}
/-- data that names a class -/
def ClsD : Dt → Value → Prop
  | .ty n, u => u = .type n
  | .obj C, u => u = .ref C
  | _, _ => False
theorem ClsD.cls {u : Value} (rp : Rp G v d) (h : ClsD d u) : ClsV v u := by
  cases rp <;> first | (cases h; done) | skip
  · cases h; exact .ty _
  · cases h; exact .own _
theorem TyD.tyx {u : Value} (e : Ex G H) (rp : Rp G v d) (h : TyD u d) : TyX K H v u := by
  cases rp <;> first | (cases h; done) | skip
  · cases h; exact .base .non
  · cases h; exact .base (.bl _)
  · cases h; exact .base (.int _)
  · cases h; exact .base (.str _)
  · rename_i a xs ds hg r; cases h; exact .base (.lst (e _ _ hg))
  · rename_i a xs ds hg r; cases h; exact .base (.tup (e _ _ hg))
theorem ev_isi {u t : Value} (ha : EvM b ta A d A1) (hb : EvM b tb A1 e A2) (hu : ClsD e u) (ht : TyD t d) (hk : PySem.W.kitOne K t u = some r) : EvM b (tCB (rIsi K) (tCons ta (tCons tb tNil))) A (.bl r) A2 := fun T σ H c Q k =>
  ha T σ H c _ fun v H1 c1 => hb _ σ H1 c1 _ fun w H2 c2 => by
    obtain ⟨G, g, r1, r2⟩ := c2.top2
    exact ⟨v, w, t, u, r, rfl, hu.cls r1, TyD.tyx g.gh r2 ht, hk, k _ _ (g.out (.bl _))⟩
/-- what is asked of a caught error: its dict is known -/
def XdAt (b : Bs) : Option (List (Str × V)) → Option Addr → Prop
  | none, dd => dd = none
  | some fs, dd => ∃ p, dd = some p ∧ (V.ref p, Dt.xd fs) ∈ b.T0
theorem Rp.xd_inv {p : Addr} {fs : List (Str × V)} (r : Rp G (.ref p) (.xd fs)) : G p = some (.xd fs) := by
  cases r with | xd h => exact h
theorem ev_isX {u : Value} {a D : Addr} {o : Option (List (Str × V))} {dd : Option Addr} (hC : ExcC K D) (hx : XdAt b o dd) (ha : EvM b ta A (.obj a) A1) (hb : EvM b tb A1 e A2) (hu : ClsD e u) (hk : PySem.W.kitOne K (.ref D) u = some r) :
    EvM b (tCB (LX.rIsX K a (.ref D) dd) (tCons ta (tCons tb tNil))) A (.bl r) A2 := fun T σ H c Q k =>
  ha T σ H c _ fun v H1 c1 => hb _ σ H1 c1 _ fun w H2 c2 => by
    obtain ⟨G, g, r1, r2⟩ := c2.top2
    refine ⟨D, w, u, r, rfl, hC, by rw [r2.obj_inv], hu.cls r1, hk, ?_, k _ _ (g.out (.bl _))⟩
    cases o with
    | none => exact .inl hx
    | some fs =>
      obtain ⟨p, e1, e2⟩ := hx
      exact .inr ⟨p, fs, e1, g.gh _ _ (g.t0 _ e2).xd_inv⟩
theorem rp_plain {x : V} : plainV d = some x → ∀ G, Rp G x d := fun h G => by
  cases d <;> simp [plainV] at h <;> subst h
  · exact .non
  · exact .bl _
  · exact .int _
  · exact .str _
/-- e.f -/
theorem ev_xf {a D p : Addr} {fs : List (Str × V)} {f : Str} {x : V} (hx : XdAt b (some fs) (some p)) (ha : EvM b ta A (.obj a) A1) (hf : fs.lookup f = some x) (hd : plainV d = some x) : EvM b (tXf a (.ref D) (some p) D f ta) A d A1 := fun T σ H c Q k =>
  ha T σ H c _ fun v H1 c1 => by
    obtain ⟨G, g, r⟩ := c1.top
    obtain ⟨p', e1, e2⟩ := hx
    cases e1
    exact ⟨r.obj_inv, rfl, p, fs, x, rfl, g.gh _ _ (g.t0 _ e2).xd_inv, hf, k _ _ (g.out (rp_plain hd G))⟩
/-! ### try .. except X as e -/
def Bs.tmp (b : Bs) (T : Tmp) : Bs := { b with T0 := T ++ b.T0 }
theorem ConcG.untmp {T1 : Tmp} (c : ConcG (b.tmp T1) A T σ H G) : ConcG b A (T1 ++ T) σ H G := { c with t0 := fun p hp => c.t0 p (List.mem_append_right _ hp), tm := fun p hp => (List.mem_append.mp hp).elim (fun h => c.t0 p (List.mem_append_left _ h)) (c.tm p) }
theorem ConcG.tmp {T1 : Tmp} (c : ConcG b A (T1 ++ T) σ H G) : ConcG (b.tmp T1) A T σ H G := { c with t0 := fun p hp => (List.mem_append.mp hp).elim (fun h => c.tm p (List.mem_append_left _ h)) (c.t0 p), tm := fun p hp => c.tm p (List.mem_append_right _ hp) }
theorem WOk.tmp (h : WOk b W XP) (T1 : Tmp) : WOk (b.tmp T1) W XP := fun A C o dd T σ H hx ⟨G, g⟩ ha => h A C o dd (T1 ++ T) σ H hx ⟨G, g.untmp⟩ ha
/-- behind the suite the name is gone -/
def Abs.forget (A : Abs) (i : Nat) : Abs := ⟨A.γ.set i none, A.M⟩
theorem ConcG.forget (c : ConcG b A T σ H G) (i : Nat) : ConcG b (A.forget i) T (σ.set i none) H G := { c with sl := c.sl.setN i }
theorem s_try {i : Nat} {c : Value} {t : WX → TS} {ts : Addr → Value → Option Addr → TS} {Wout : WX} {XO : Abs → Addr → Option (List (Str × V)) → Prop}
    (hb : ∀ T W, WOk (b.tmp T) W XP → StA (b.tmp T) (t W) A P)
    (hs : ∀ A1 C o, XP A1 C o → ∃ m, PySem.W.exmOne K (.ref C) c = some m ∧ (m = true → ∀ a dd T, XdAt (b.tmp T) o dd →
      StA (b.tmp T) (ts a (.ref C) dd) ⟨A1.γ.set i (some (.obj a)), A1.M⟩ ⟨fun A' => P.nx (A'.forget i), fun A' => P.bk (A'.forget i), fun A' => P.ct (A'.forget i), P.rt⟩) ∧ (m = false → XO A1 C o))
    (hw : WOk b Wout XO) : StA b (fun D σ H => t (wAs K c i ts Wout D) D σ H) A P := fun T σ H k D q1 q2 q3 q4 => by
  obtain ⟨G, g⟩ := k
  have g1 : ConcG (b.tmp T) A [] σ H G := ConcG.tmp (by rw [List.append_nil]; exact g)
  have un : ∀ {A' : Abs} {σ' : St} {H' : Hp}, Conc (b.tmp T) A' [] σ' H' → Conc b A' T σ' H' := fun ⟨G', g'⟩ => ⟨G', by have := g'.untmp; rwa [List.append_nil] at this⟩
  have un1 : ∀ {v : V} {d : Dt} {A' : Abs} {σ' : St} {H' : Hp}, Conc (b.tmp T) A' [(v, d)] σ' H' → Conc b A' ((v, d) :: T) σ' H' := fun {v d A' σ' H'} c => by
    obtain ⟨G', g', r'⟩ := c.top
    have := g'.untmp
    rw [List.append_nil] at this
    exact this.out r'
  refine hb T (wAs K c i ts Wout D) (fun A1 C o dd T2 σ2 H2 hx c2 ha => ?_) [] σ H ⟨G, g1⟩ D (fun A' σ' H' k c => q1 A' σ' H' k (un c)) (fun A' σ' H' k c => q2 A' σ' H' k (un c)) (fun A' σ' H' k c => q3 A' σ' H' k (un c)) fun v d A' σ' H' k c => q4 v d A' σ' H' k (un1 c)
  obtain ⟨m, hm, hy, hn⟩ := hs A1 C o hx
  refine ⟨m, hm, fun em a ha0 => ?_, fun em => ?_⟩
  · obtain ⟨G2, g2⟩ := c2
    -- the error's dict is frozen
    obtain ⟨T3, G3, g3, hxd⟩ : ∃ T3 G3, ConcG (b.tmp (T3 ++ T)) A1 T2 σ2 H2 G3 ∧ XdAt (b.tmp (T3 ++ T)) o dd := by
      cases o with
      | none => exact ⟨[], G2, by simpa using g2, ha⟩
      | some fs =>
        obtain ⟨p, e1, e2, e3⟩ := ha
        have hpm : ∀ q ∈ A1.M, ∀ x ∈ own q, x ≠ p := fun q hq x hx e => by
          subst e
          obtain ⟨h1, h2⟩ := g2.mo q hq
          obtain ⟨qa, qm⟩ := q
          cases qm with
          | d qd =>
            have ex : x = qa := by simpa [own] using hx
            subst ex
            cases qd with
            | lst _ => obtain ⟨_, z, _⟩ := h2; rw [e3] at z; cases z
            | dK _ => obtain ⟨_, z, _⟩ := h2; rw [e3] at z; cases z
            | dT _ => obtain ⟨_, z, _⟩ := h2; rw [e3] at z; cases z
            | ins _ _ => obtain ⟨_, _, z, _⟩ := h2; rw [e3] at z; cases z
            | _ => exact h2.elim
          | dL es =>
            obtain ⟨z, zz⟩ := h2
            rcases List.mem_cons.mp hx with ex | hx
            · subst ex; rw [e3] at z; cases z
            · obtain ⟨e', he', ex⟩ := List.mem_map.mp hx
              obtain ⟨_, xs, z2, _⟩ := zz e' he'
              rw [ex, e3] at z2; cases z2
        have ne : ∀ q ∈ A1.M, q.1 ≠ p := fun q hq => hpm q hq q.1 self_own
        have ex : Ex G2 (upd G2 p (.xd fs)) := fun a o h => by
          by_cases z : a = p
          · subst z
            have := g2.gh _ _ h
            rw [e3] at this
            rw [upd_same]; exact this
          · rw [upd_ne z]; exact h
        have g3 : ConcG (b.tmp T) A1 T2 σ2 H2 (upd G2 p (.xd fs)) := {
          g0 := g2.g0.trans ex
          gh := fun a o h => by
            by_cases z : a = p
            · subst z; rw [upd_same] at h; rw [e3]; exact h
            · rw [upd_ne z] at h; exact g2.gh _ _ h
          nw := fun a h1 h2 => by
            have z : a ≠ p := fun z => h1 (by rw [z]; exact e2)
            rw [upd_ne z]; exact g2.nw a h1 h2
          kp := g2.kp
          sl := g2.sl.mono ex
          tm := fun q hq => (g2.tm q hq).mono ex
          mo := fun q hq => by
            obtain ⟨h1, h2⟩ := g2.mo q hq
            refine ⟨by rw [upd_ne (ne q hq)]; exact h1, ?_⟩
            obtain ⟨qa, qm⟩ := q
            cases qm with
            | d qd =>
              cases qd with
              | lst _ => obtain ⟨xs, z, r⟩ := h2; exact ⟨xs, z, r.mono ex⟩
              | dK _ => obtain ⟨xs, z, k, r⟩ := h2; exact ⟨xs, z, k, r.mono ex⟩
              | dT _ => obtain ⟨xs, z, k, r⟩ := h2; exact ⟨xs, z, k, r.mono ex⟩
              | ins _ _ => obtain ⟨dx, xs, z, k, r⟩ := h2; exact ⟨dx, xs, z, k, r.mono ex⟩
              | _ => exact h2.elim
            | dL es =>
              obtain ⟨z, zz⟩ := h2
              refine ⟨z, fun e' he' => ?_⟩
              obtain ⟨k1, xs, k2, k3⟩ := zz e' he'
              have : e'.2.1 ≠ p := hpm (qa, .dL es) hq e'.2.1 (List.mem_cons_of_mem _ (List.mem_map.mpr ⟨e', he', rfl⟩))
              exact ⟨by rw [upd_ne this]; exact k1, xs, k2, k3.mono ex⟩
          nd := g2.nd
          nw' := g2.nw'
          t0 := fun q hq => (g2.t0 q hq).mono ex }
        refine ⟨[(.ref p, .xd fs)], _, { g3 with t0 := fun q hq => ?_ }, p, e1, List.mem_append_left _ (List.mem_append_left _ List.mem_cons_self)⟩
        rcases List.mem_append.mp hq with h | h
        · rcases List.mem_append.mp h with h | h
          · have := List.mem_singleton.mp h
            subst this
            exact .xd upd_same
          · exact g3.t0 q (List.mem_append_left _ h)
        · exact g3.t0 q (List.mem_append_right _ h)
    have g4 : ConcG (b.tmp (T3 ++ T)) ⟨A1.γ.set i (some (.obj a)), A1.M⟩ [] (σ2.set i (some (.ref a))) H2 G3 := { g3 with sl := g3.sl.set (.obj a) i, tm := fun q hq => by cases hq }
    have un3 : ∀ {A' : Abs} {T' : Tmp} {σ' : St} {H' : Hp}, Conc (b.tmp (T3 ++ T)) A' T' σ' H' → Conc b A' (T' ++ T) σ' H' := fun {A' T' σ' H'} ⟨G', g'⟩ => ⟨G', { g'.untmp with tm := fun q hq => (List.mem_append.mp hq).elim (fun h => g'.tm q h) fun h => g'.t0 q (List.mem_append_left _ (List.mem_append_right _ h)) }⟩
    have fg : ∀ {A' : Abs} {σ' : St} {H' : Hp}, Conc (b.tmp (T3 ++ T)) A' [] σ' H' → Conc b (A'.forget i) T (σ'.set i none) H' := fun c => by
      obtain ⟨G', g'⟩ := un3 c
      exact ⟨G', g'.forget i⟩
    exact hy em a dd (T3 ++ T) hxd [] _ H2 ⟨G3, g4⟩ _ (fun A' σ' H' k c => q1 _ _ H' k (fg c)) (fun A' σ' H' k c => q2 _ _ H' k (fg c)) (fun A' σ' H' k c => q3 _ _ H' k (fg c)) fun v d A' σ' H' k c => q4 v d A' σ' H' k (un3 c)
  · obtain ⟨G2, g2⟩ := c2
    exact hw A1 C o dd (T ++ T2) σ2 H2 (hn em) ⟨G2, g2.untmp⟩ ha
end
end LD
/-! MC: a def whose first statement is super().__init__(..). -/
namespace LX
open PySem PySem.Spec PyProof.Rows L2 NdefX
/-- the def's words -/
abbrev nfOf (x qual : Str) (st : Stmt) (cc cda : Addr) : NF := ⟨x, qual, defArgs st, defBody st, defScope st, [("__class__", cc)], cda⟩
/-- super().__init__(..), seen from the slots: C the instance's class -/
def tSup (C : Addr) (sp : Sp) (E : L2.St → XK) (ta : TA) : TS := fun D σ H => ∃ x dx fs, σ[0]? = some (some (.ref x)) ∧ H x = some (.ins C dx fs) ∧ ta σ H fun ws H1 => sp (.ref x :: ws) H1 (fun _ H2 => D.nx σ H2) (E σ)
section
variable {P : Program} {w : World} {K : PySem.W.Frag} {mg : Str → Option Value} {base : Heap}
theorem SupD.ok {x qual : Str} {st : Stmt} {f f2 D C : Addr} {fd fd2 : FuncData} {N ps ps2 : List Str} {k k2 : Nat} {sp sp2 : Sp} {e : Expr} {es : List Expr} {rest : List Stmt} {p0 p1 p2 p3 p4 : Pos} {s0 : Str}
    (F : SupD K P mg x qual st f fd D) (S : NScope N ps ["__class__"] (defScope st)) (len : ∀ vs H Q E, sp vs H Q E → vs.length = ps.length) (SM : SupM K C D f2)
    (eb : defBody st = .Expr (.Call (.Attribute (.Call (.Name "super" p0) [] [] p1) "__init__" p2) (e :: es) [] p3) p4 :: rest)
    (ea : ∃ p, ((defArgs st).posonlyargs ++ (defArgs st).args).head? = some { arg := s0, annotation := none, pos := p }) (hN : N[0]? = some s0) (h0 : (defScope st).names.lookup s0 = some .local) (hsu : (defScope st).names.lookup ("super" : Str) = some .globalImplicit)
    (hes : ∀ env, starEach (e :: es) env = (false, eval e env) :: starEach es env) (hpl : ∀ env, (backTo p3 (starEach es env)).any (·.1) = false)
    (hsw : ∀ env, swapsWith (.Call (.Attribute (.Call (.Name "super" p0) [] [] p1) "__init__" p2) (e :: es) [] p3) none p4.line env = pure false)
    (hev : ∃ pl : Sem Bool, ∀ env, eval (.Call (.Attribute (.Call (.Name "super" p0) [] [] p1) "__init__" p2) (e :: es) [] p3) env = (do
      let ov ← attributeBase (.Call (.Name "super" p0) [] [] p1) "__init__" env (eval (.Call (.Name "super" p0) [] [] p1) env)
      standAt p2.atName
      let (f, first) ← holding [ov] (getMethod ov "__init__" pl)
      callWith p3 f first (backTo p3 (starEach (e :: es) env)) []))
    (F2 : FnOk P w K mg base (L2.CX P w) k2 f2 fd2 ps2 sp2) (hk : k2 ≤ k) (b2 : Binds K fd2 ps2 [])
    (hbody : ∀ (cc cda : Addr) (A : Around) (outer : List Env) (s : Shared) (H : Hp) (vs : List V) (Q : VK) (E : XK), Room k (A.deeper (envF (nfOf x qual st cc cda) f s.heap.objs.size)) → sp vs H Q E →
      ∃ ta t W, PA (ncx (L2.CX P w) P w K mg base N (nfOf x qual st cc cda) f A outer s H E) (e :: es) ta ∧ PSs (ncx (L2.CX P w) P w K mg base N (nfOf x qual st cc cda) f A outer s H E) rest t ∧
        Takes (ncx (L2.CX P w) P w K mg base N (nfOf x qual st cc cda) f A outer s H E) W ∧ tSeq (tSup C sp2 (WE W) ta) t { nx := fun _ H' => Q .non H', rt := Q } (L2.start N vs) H) : FnOk P w K mg base (L2.CX P w) (k + 1) f fd ps sp := by
  refine ⟨len, fun A outer s H args us vs Q E hr e0 bb r hsp => ?_⟩
  obtain ⟨oc, od, kV, doc, pm, an, cda, ct, osl, cc, cl, cld, csl, ccl, cdd, vs2, ccs, file, tf, efd, lk, hcd, hcell, hcda, hvs, hfile⟩ := F.ex
  obtain ⟨cdD, hD⟩ := F.clD
  obtain ⟨pa, ea⟩ := ea
  obtain ⟨pl, hev⟩ := hev
  have hl := len _ _ _ _ hsp
  have lim : s.heap.NoLimit := e0.mod.nolimit.keeps fun b o e => (e0.bs b o e).1
  have KX : K.In s.heap := fun a o h => (e0.bs _ _ (e0.mod.kin _ _ h)).1
  refine PySem.ks_codeAny_call_defAt (fd := fd) (binds := ps.zip us) (body := defBody st) hr.depth (KX _ _ lk) rfl lim (by rw [efd]; exact PySem.W.codeRec_of KX hcd) (by rw [efd]) bb (by rw [efd]; exact S.nocell) (fun y hy => ?_) (fun h₁ hns kk => ?_) (by rw [efd]; exact S.co) (by rw [efd]; exact S.gen) (by rw [efd]; exact S.kind)
  · rw [efd]
    exact S.par y.1 (List.of_mem_zip hy).1
  have eenv : callEnv fd s.heap.objs.size f = envF (nfOf x qual st cc cda) f s.heap.objs.size := by rw [efd]; rfl
  rw [eenv]
  obtain ⟨ta, t, W, ha, ht, tk, hq⟩ := hbody cc cda A outer s H vs Q E (hr.deeper _) hsp
  have hcc : base.get? cc = some ⟨cl, cld, .cell (some (.ref D)), csl⟩ := e0.mod.kin _ _ hcell
  have C0 : CellsAt (nfOf x qual st cc cda).cl ["__class__"] [none] s.heap H := by
    refine ⟨rfl, fun y c h => ?_, fun a b c h1 h2 => ?_, fun i y h => ?_⟩
    · have e : c = cc := by
        have h' : List.lookup y [(("__class__" : Str), cc)] = some c := h
        rw [List.lookup_cons] at h'
        split at h'
        · exact (Option.some.inj h').symm
        · cases h'
      subst e
      exact ⟨(e0.bs _ _ hcc).2, _, _, (e0.bs _ _ hcc).1, rfl⟩
    · have key : ∀ y, List.lookup y [(("__class__" : Str), cc)] = some c → y = "__class__" := fun y h' => by
        rw [List.lookup_cons] at h'
        split at h'
        · rename_i q; exact beq_iff_eq.mp q
        · cases h'
      rw [key a h1, key b h2]
    · match i, h with
      | 0, h =>
        have e : y = "__class__" := (Option.some.inj h).symm
        subst e
        exact ⟨cc, by show List.lookup _ _ = _; rw [List.lookup_cons, beq_self_eq_true], fun v hv => by cases hv⟩
      | i + 1, h => simp at h
  have hNl : ps.length + 1 ≤ N.length := by
    have q := congrArg List.length S.pre
    rw [List.length_take, List.length_append] at q
    simp at q
    omega
  have est : startF N vs [none] = L2.start N vs := by
    unfold startF L2.start
    rw [hl]
    obtain ⟨m, hm⟩ : ∃ m, N.length - ps.length = m + 1 := ⟨N.length - ps.length - 1, by omega⟩
    rw [hm]
    simp [List.replicate_succ]
  have I : Inv (ncx (L2.CX P w) P w K mg base N (nfOf x qual st cc cda) f A outer s H E) [] (L2.start N vs) H { s with heap := h₁, toks := s.toks + (ps.zip us).length } := by
    rw [← est]
    exact inv_startN S hr.hd e0 hl r C0 hns kk
  obtain ⟨x0, dx, fs, hs0, hx0, hta⟩ := hq
  have hkind : (envF (nfOf x qual st cc cda) f s.heap.objs.size).kindOf "__class__" = some .free := S.frk "__class__" (by simp)
  rw [eb] at *
  refine PySem.ks_wpAt_execs_cons ?_
  have hi : interactive (envF (nfOf x qual st cc cda) f s.heap.objs.size) = false := by simp [interactive, S.kind]
  refine PySem.wpAt_mono (sup_stmt (X := ncx (L2.CX P w) P w K mg base N (nfOf x qual st cc cda) f A outer s H E) (CX := L2.CX P w) (E := WE W)
    (QV := fun _ H2 => t { nx := fun _ H' => Q .non H', rt := Q } (L2.start N vs) H2)
    (fd := fd) (vs := vs2) (file := file) (tf := tf) (f := f) (cda := cda) (cc := cc) (D := D) (pl := pl) (ar := { arg := s0, annotation := none, pos := pa })
    I SM F2 ((hr.deeper _).mono hk) b2 (fun σ => passAt tk σ) hsu hkind rfl lk (by rw [efd]; exact ea) rfl hcda hvs hfile F.htop F.mgs (by show List.lookup _ [(("__class__" : Str), cc)] = _; rw [List.lookup_cons, beq_self_eq_true]) hcell hD hN h0 ha rfl ?_ (hes _) (hpl _) hi (hsw _) (hev _) rfl) (fun fl s' hs => ?_) fun e s' hs => hs
  · exact ⟨x0, dx, fs, hs0, hx0, hta⟩
  · obtain ⟨rfl, _, H', J, q⟩ := hs
    show PySem.wpAt _ _ _ (execs rest _) _ _ _
    refine PySem.wpAt_of_wpAny (wpAny_mono (ht.run [] _ (L2.start N vs) H' _ J q) (fun fl s' hs => ?_) fun e s' hs => hs)
    have fin : ∀ {σ' : L2.St} {H' : Hp} {v : V} {u : Value}, Inv (ncx (L2.CX P w) P w K mg base N (nfOf x qual st cc cda) f A outer s H E) [] σ' H' s' → L2.RelV v u → Q v H' → CE outer P w H s Q u s' :=
      fun {σ' H' v u} J rv q => ⟨v, H', J.os, J.bare, J.base, J.hok, rv, q⟩
    cases fl with
    | ret u =>
      obtain ⟨v, σ', H', J, rv, q⟩ := hs
      exact fin J rv q
    | next =>
      obtain ⟨σ', H', J, q⟩ := hs
      exact fin (v := V.non) (u := Value.none) J rfl q
    | brk =>
      obtain ⟨_, _, _, q⟩ := hs
      exact False.elim q
    | cont =>
      obtain ⟨_, _, _, q⟩ := hs
      exact False.elim q
end
end LX
namespace LD
open PySem L2
section
variable {b : Bs} {A A1 A2 A3 : Abs} {T : Tmp} {σ : St} {H H2 G : Hp} {v : V} {d e z : Dt} {ds es dds : List Dt} {te ta tb tc : TE} {t : TA} {K : PySem.W.Frag} {P : Post} {W : WX} {XP : Abs → Addr → Option (List (Str × V)) → Prop} {C : Addr} {nm : Str}
variable {pre : List Dt → List (Addr × MO) → Prop} {res : List Dt → List (Addr × MO) → Dt → List (Addr × MO) → Prop} {exc : List Dt → Addr → Option (List (Str × V)) → Prop} {dvs : List V}
theorem MOk.keep {G2 : Hp} {a : Addr} (e : Ex G G2) (n : ∀ l, H l ≠ none → G l = none → G2 l = none) : ∀ {m : MO}, (∀ q ∈ own (a, m), ∀ o, H q = some o → H2 q = some o) → MOk G H a m → MOk G2 H2 a m
  | .d (.lst ds), h, ⟨xs, h1, h2⟩ => ⟨xs, h a self_own _ h1, h2.mono e⟩
  | .d (.dK es), h, ⟨kvs, h1, h2, h3⟩ => ⟨kvs, h a self_own _ h1, h2, h3.mono e⟩
  | .d (.dT es), h, ⟨kvs, h1, h2, h3⟩ => ⟨kvs, h a self_own _ h1, h2, h3.mono e⟩
  | .d (.ins C es), h, ⟨dx, fs, h1, h2, h3⟩ => ⟨dx, fs, h a self_own _ h1, h2, h3.mono e⟩
  | .d .non, _, x => x.elim
  | .d (.bl _), _, x => x.elim
  | .d (.int _), _, x => x.elim
  | .d (.str _), _, x => x.elim
  | .d (.ty _), _, x => x.elim
  | .d (.tup _), _, x => x.elim
  | .d (.obj _), _, x => x.elim
  | .d (.xd _), _, x => x.elim
  | .dL es, h, ⟨h1, h2⟩ => ⟨h a self_own _ h1, fun e' he => by
    obtain ⟨h3, xs, h4, h5⟩ := h2 e' he
    exact ⟨n _ (by rw [h4]; simp) h3, xs, h e'.2.1 (List.mem_cons_of_mem _ (List.mem_map.mpr ⟨e', he, rfl⟩)) _ h4, h5.mono e⟩⟩
/-- behind a call that was handed the changing object at l -/
theorem ConcG.called1 {l : Addr} {m m' : MO} {M' : List (Addr × MO)} {G2 : Hp} (c : ConcG b A T σ H G) (a : At A.M l m m' M') (ho : own (l, m) = [l]) (ho' : own (l, m') = [l]) (e1 : Ex G G2) (e2 : Ex G2 H2) (nw : Nw G H G2) (kp : Keep [l] H H2) (hm : G2 l = none ∧ MOk G2 H2 l m') :
    ConcG b ⟨A.γ, M'⟩ T σ H2 G2 := by
  have hl : b.H0 l = none ∨ l ∈ b.mu := c.nw' _ a.mem l self_own
  have hap := a.apart c.nd
  refine { g0 := c.g0.trans e1, gh := e2, nw := fun x h1 h2 => nw x (c.kp.2 x h1) (c.nw x h1 h2), kp := ⟨fun x o hx h => ?_, fun x h => kp.2 x (c.kp.2 x h)⟩, sl := c.sl.mono e1, tm := fun p hp => (c.tm p hp).mono e1, mo := fun p hp => ?_, nd := ?_, nw' := fun p hp q hq => ?_, t0 := fun p hp => (c.t0 p hp).mono e1 }
  · refine kp.1 x o (fun z => ?_) (c.kp.1 x o hx h)
    have e : x = l := by simpa using z
    subst e
    rcases hl with hl | hl
    · rw [hl] at h; cases h
    · exact hx hl
  · rcases hap p hp with e | ⟨h, hx⟩
    · rw [e]; exact hm
    · obtain ⟨h1, h2⟩ := c.mo p h
      have hne : H p.1 ≠ none := h2.there p.1 self_own
      exact ⟨nw _ hne h1, h2.keep e1 nw fun q hq o ho => kp.1 q o (by simpa using hx q hq) ho⟩
  · show (M'.flatMap own).Nodup
    rw [a.own_eq (by rw [ho, ho'])]
    exact c.nd
  · rcases hap p hp with e | ⟨h, _⟩
    · rw [e, ho'] at hq
      have e : q = l := by simpa using hq
      rw [e]; exact hl
    · exact c.nw' p h q hq
/-- super().__init__(..) over data -/
theorem s_sup {x : Addr} {fs fs' : List (Str × Dt)} {M' : List (Addr × MO)} (h0 : A.γ[0]? = some (some (.obj x))) (hm0 : At A.M x (.d (.ins C fs)) (.d (.ins C fs)) A.M) (ht : EvA b t A ds A1) (hm : At A1.M x (.d (.ins C fs)) (.d (.ins C fs')) M') (hg : A1.γ = A.γ)
    (hp : pre (.obj x :: ds) [(x, .d (.ins C fs))]) (hr : ∀ d M2, res (.obj x :: ds) [(x, .d (.ins C fs))] d M2 → M2 = [(x, .d (.ins C fs'))])
    (hw : WOk b W XP) (hx : ∀ E o, exc (.obj x :: ds) E o → XP ⟨A1.γ, []⟩ E o) (k : P.nx ⟨A1.γ, M'⟩) : StA b (LX.tSup C (SpM pre res exc) (WE W) t) A P := fun T σ H c D q1 q2 q3 q4 => by
  obtain ⟨G, g⟩ := c
  obtain ⟨xv, hs, hrx⟩ := g.sl.get h0
  have e0 := hrx.obj_inv
  subst e0
  obtain ⟨nx, dx, xs, hH, _⟩ := g.mo _ hm0.mem
  refine ⟨x, dx, xs, hs, hH, ht T σ H ⟨G, g⟩ _ fun ws H1 hl c1 => ?_⟩
  obtain ⟨G1, g1, r⟩ := c1.zip hl
  obtain ⟨mo1, mo2⟩ := g1.mo _ hm.mem
  refine ⟨G1, .obj x :: ds, [(x, .d (.ins C fs))], g1.gh, .cons (.obj x) r, fun p hp => ?_, by simp [own], hp, fun v d M2 G2 H2 hres e1 e2 nw kp rv hm2 nd hn => ?_, fun C' o dd H2 he kp ha => ?_⟩
  · have e : p = (x, .d (.ins C fs)) := by simpa using hp
    rw [e]; exact ⟨mo1, mo2⟩
  · have e := hr d M2 hres
    subst e
    have kp' : Keep [x] H1 H2 := by simpa [own] using kp
    exact q1 _ _ _ k ⟨G2, g1.called1 hm rfl rfl e1 e2 nw kp' (hm2 _ List.mem_cons_self)⟩
  · have kp' : Keep [x] H1 H2 := by simpa [own] using kp
    have g2 : ConcG b ⟨A1.γ, []⟩ T σ H1 G1 := { g1 with mo := (fun p hp => by cases hp), nd := by simp, nw' := fun p hp => by cases hp }
    refine hw ⟨A1.γ, []⟩ C' o dd T σ H2 (hx C' o he) ⟨G1, { g2 with gh := fun a o h => ?_, kp := ⟨fun a o ha h => ?_, fun a h => kp'.2 a (g1.kp.2 a h)⟩, mo := fun p hp => by cases hp }⟩ (ha.of g1.kp.2)
    · exact kp'.1 a o (by simpa using fun z => by rw [z, mo1] at h; cases h) (g1.gh _ _ h)
    · refine kp'.1 a o (fun z => ?_) (g1.kp.1 a o ha h)
      have e : a = x := by simpa using z
      subst e
      rcases g1.nw' _ hm.mem a self_own with hl | hl
      · rw [hl] at h; cases h
      · exact ha hl
end
end LD
/-! MD: t[::-1] for tuples; extend by a tuple. -/
namespace LX
open PySem PySem.Spec PyProof.Rows L2 HT
section
open PySem.SeqAt
open PySem.AutoSeq1 (wpAny_loadPart')
open PySem.MeetsSeq PySem.MeetsSeq2 PySem.MeetsSeq3
theorem list_ext_tup (l : Addr) (items : Array Value) (n : Nat) (b : Addr) (items2 : Array Value) (n2 : Nat) (dd : Option Addr) (sl : Array (Option Value)) (hs0 : ¬(!items.isEmpty && Builtin.List.listTooLong (items.size + items2.size)) = true) (hs1 : items.size ≤ sizeLine) (hs2 : items.size + items2.size ≤ sizeLine + 1) :
    Meets (Builtin.«list.extend» ⟨[.ref l, .ref b], []⟩) (fun _ R s => s.heap.get? l = some { cls := .type "list", dict := none, data := .seq items n, slots := #[] } ∧ s.heap.get? b = some { cls := .type "tuple", dict := dd, data := .seq items2 n2, slots := sl } ∧ R (.ok (.ret Value.none)) { s with heap := s.heap.update l (Obj.mapSeq fun x => x ++ items2), toks := s.toks }) :=
  .of_wp fun prog w A R s h => by
    obtain ⟨hp, g, d, tk, os⟩ := s; obtain ⟨hl, hb, h⟩ := h; have f2 := AutoSeq1.sub_tuple_tuple; have f3 := AutoSeq1.sub_list_list; have f4 := AutoSeq1.sub_tuple_list; have f5 := AutoSeq1.sub_list_tuple
    have hz' : (items ++ items2).size ≤ sizeLine + 1 := by rw [Array.size_append]; exact hs2
    wp_walk using (wpAny_updateSeq hl rfl (hz := hs1) (_hz' := hz')), wpAny_loadPart' hl, wpAny_loadPart' hb; exact ⟨_, rfl, h⟩
end
section
variable {prog : Program} {w : World} {A : Around} {E : Value → Shared → Prop} {s : Shared}
theorem sliceApplied_rev {sl : Addr} {vl vu vs : Value} {n : Nat} {Q : Int × Int × Nat → Shared → Prop} (hs : s.heap.IsSliceOf sl vl vu vs) (pl : IsPart vl none) (pu : IsPart vu none) (ps : IsPart vs (some (-1)))
    (h : Q ((n : Int) - 1, -1, n) s) : wpAny (model prog w) A (Builtin.Slice.sliceApplied (.ref sl) (pure (n : Int))) Q E s := by
  obtain ⟨os, hos, hcs, hds⟩ := id hs
  unfold Builtin.Slice.sliceApplied Builtin.Slice.sliceFields
  refine wpAny_bind (wpAny_bind (wpAny_field hos hds (x := vl) rfl (wpAny_bind (wpAny_field hos hds (x := vu) rfl (wpAny_bind (wpAny_field hos hds (x := vs) rfl (wpAny_pure ?_)))))))
  refine wpAny_bind (HT.slicePart_ ps ?_)
  show wpAny _ _ (if ((-1 : Int) == 0) = true then _ else _) _ _ s
  rw [if_neg (by decide)]
  refine wpAny_bind (HT.slicePart_ pl (wpAny_bind (HT.slicePart_ pu (wpAny_bind (wpAny_pure ?_)))))
  show wpAny _ _ (match Builtin.Slice.sliceAdjust none none (-1) (n : Int) with | (lo, hi) => pure (lo, (-1 : Int), Builtin.Slice.slicePlaces lo hi (-1))) _ _ s
  have e1 : Builtin.Slice.sliceAdjust none none (-1) (n : Int) = ((n : Int) - 1, -1) := by
    unfold Builtin.Slice.sliceAdjust
    simp
  rw [e1]
  have e2 : Builtin.Slice.slicePlaces ((n : Int) - 1) (-1) (-1) = n := by
    unfold Builtin.Slice.slicePlaces
    have h1 : ¬ ((-1 : Int) > 0) := by omega
    simp only [h1, if_false, Int.neg_neg, Int.ediv_one]
    split <;> omega
  show wpAny _ _ (pure ((n : Int) - 1, (-1 : Int), Builtin.Slice.slicePlaces ((n : Int) - 1) (-1) (-1))) _ _ s
  rw [e2]
  exact wpAny_pure h
theorem pick_rev (xs : Array Value) : ((List.range xs.size).filterMap fun (m : Nat) => xs[(((xs.size : Int) - 1) + (m : Int) * (-1)).toNat]?).toArray = xs.toList.reverse.toArray := by
  congr 1
  have key : ∀ l : List Value, (List.range l.length).filterMap (fun (m : Nat) => l[(((l.length : Int) - 1) + (m : Int) * (-1)).toNat]?) = l.reverse := by
    intro l
    have e : ∀ m ∈ List.range l.length, l[(((l.length : Int) - 1) + (m : Int) * (-1)).toNat]? = some (l.reverse.getD m .none) := by
      intro m hm
      have hm := List.mem_range.mp hm
      have : (((l.length : Int) - 1) + (m : Int) * (-1)).toNat = l.length - 1 - m := by omega
      rw [this, List.getD_eq_getElem?_getD, List.getElem?_reverse hm]
      have : l.length - 1 - m < l.length := by omega
      simp [this]
    have cg : ∀ (ms : List Nat) (f g : Nat → Option Value), (∀ m ∈ ms, f m = g m) → ms.filterMap f = ms.filterMap g := by
      intro ms f g
      induction ms with
      | nil => intro _; rfl
      | cons m ms ih =>
        intro h
        rw [List.filterMap_cons, List.filterMap_cons, h m List.mem_cons_self, ih fun m hm => h m (List.mem_cons_of_mem _ hm)]
    rw [cg _ _ (fun m => some (l.reverse.getD m .none)) e]
    rw [show (fun m : Nat => some (l.reverse.getD m .none)) = (some ∘ fun m => l.reverse.getD m Value.none) from rfl, List.filterMap_eq_map]
    apply List.ext_getElem?
    intro i
    rw [List.getElem?_map]
    by_cases hi : i < l.length
    · rw [List.getElem?_range hi]
      have : i < l.reverse.length := by rw [List.length_reverse]; exact hi
      simp [List.getD_eq_getElem?_getD, this, hi]
    · rw [List.getElem?_eq_none (by simp; omega), List.getElem?_eq_none (by simp; omega)]
      rfl
  have := key xs.toList
  simpa using this
theorem getItem_tuple_rev {t sl : Addr} {items : Array Value} {vl vu vs : Value} {Q : Value → Shared → Prop} (ht : IsTup s.heap t items) (hs : s.heap.IsSliceOf sl vl vu vs) (pl : IsPart vl none) (pu : IsPart vu none) (ps : IsPart vs (some (-1)))
    (h : Q (.ref s.heap.objs.size) { s with heap := s.heap.push { cls := .type "tuple", data := .seq items.toList.reverse.toArray } })
    (hsz : items.size ≤ sizeLine) : wpAny (model prog w) A (getItem (.ref t) (.ref sl)) Q E s := by
  have htake : sizeOk (.seq items.toList.reverse.toArray) := by
    show items.toList.reverse.toArray.size ≤ sizeLine
    rw [List.size_toArray, List.length_reverse, Array.length_toList]
    exact hsz
  obtain ⟨os, hos, hcs, hds⟩ := id hs
  have hTs : s.TypeIs (.ref sl) "slice" := ⟨os, hos, hcs⟩
  unfold getItem
  try with_reducible refine wpAny_holding ?_
  first | refine wpAny_bind (wpAny_pure ?_) | skip
  refine wpAny_bind (wpAny_sequenceKey ht.typeIs (by decide) ?_)
  refine wpAny_bind (wpAny_callSpecial?_slot (name := Str.ofString "__getitem__") ht.typeIs PyProof.Rows.slot_tuple_getitem
    (wpAny_call_entry PyProof.Rows.slot_tuple_getitem ht.typeIs entry_tuple_getitem ?_ (args_tuple_getitem _ _)))
  show wpAny _ _ (Builtin.Tuple.tupleItemsOf (.ref t) >>= _) _ _ s
  refine wpAny_bind (tupleItemsOf_ ht ?_)
  refine wpAny_bind (wpAny_typeOf hTs ?_)
  rw [if_pos (by decide)]
  refine wpAny_bind (sliceApplied_rev hs pl pu ps ?_)
  have hno : ¬ ((((items.size : Int) - 1) == 0 && (-1 : Int) == 1 && items.size == items.size) = true) := by
    intro q
    rw [Bool.and_eq_true, Bool.and_eq_true] at q
    have q1 : (-1 : Int) = 1 := eq_of_beq q.1.2
    omega
  show wpAny _ _ (if (((items.size : Int) - 1) == 0 && (-1 : Int) == 1 && items.size == items.size) = true then _ else _) _ _ s
  rw [if_neg hno, pick_rev]
  first
    | exact wpAny_bind (m := Builtin.Tuple.tupleExact _) (wpAny_newObj_type (wpAny_pure ⟨_, rfl, wpAny_pure h⟩) htake)
    | exact wpAny_bind (m := Builtin.Tuple.tupleExact _) (wpAny_newObj_type (wpAny_bind (wpAny_pure (wpAny_pure ⟨_, rfl, wpAny_pure h⟩))) htake)
    | exact wpAny_bind (wpAny_bind (m := Builtin.Tuple.tupleExact _) (wpAny_newObj_type (wpAny_pure (wpAny_pure ⟨_, rfl, wpAny_pure h⟩)) htake))
    | exact wpAny_bind (wpAny_bind (m := Builtin.Tuple.tupleExact _) (wpAny_newObj_type (wpAny_pure ⟨_, rfl, wpAny_pure h⟩) htake))
end
section
variable {X : Cx}
/-- xs[::-1], a list or a tuple -/
def tRev (K : PySem.W.Frag) (te : TE) : TE := fun σ H Q => te σ H fun x H1 => ∃ a xs, x = .ref a ∧ ((SqL K H1 a xs ∧ ∀ p, H1 p = none → Q (.ref p) (upd H1 p (.lst xs.reverse))) ∨ (SqT K H1 a xs ∧ ∀ p, H1 p = none → Q (.ref p) (upd H1 p (.tup xs.reverse))))
theorem pe_rev {e : Expr} {te : TE} {k : Nat} {p1 p2 p3 pos : Pos} (he : PE X e te) : PE X (.Subscript e (.Slice none none (some (.UnaryOp .USub (.Constant (.int 1) k p1) p2)) p3) pos) (tRev X.K te) := by
  refine ⟨fun pins s σ H Q I h => ?_⟩
  refine Subscript_ (thn (he.run pins s σ H _ I h) fun v s1 ⟨x, H1, I1, r1, q1⟩ => ?_)
  obtain ⟨a, xs, ex, hq⟩ := q1
  subst ex
  cases r1
  have hst : PO X (some (.UnaryOp .USub (.Constant (.int 1) k p1) p2)) (tPart (tUn (rU fun i => .int (-i)) (tC (.int 1)))) := po_some (pe_un un_neg pe_int)
  refine wpAny_Slice (thn (po_none.run pins s1 σ H1 (fun o H2 => o = none ∧ H2 = H1) I1 ⟨rfl, rfl⟩) fun vl s2 ⟨l, H2, I2, pl, el, e2⟩ => ?_)
  subst el e2
  refine thn (po_none.run pins s2 σ H2 (fun o H3 => o = none ∧ H3 = H2) I2 ⟨rfl, rfl⟩) fun vu s3 ⟨u, H3, I3, pu, eu, e3⟩ => ?_
  subst eu e3
  refine thn (hst.run pins s3 σ H3 (fun o H4 => o = some (-1) ∧ H4 = H3) I3 ⟨1, rfl, -1, rfl, rfl, rfl⟩) fun vs s4 ⟨o, H4, I4, ps, eo, e4⟩ => ?_
  subst eo e4
  have I5 : Inv X pins σ H4 { s4 with heap := s4.heap.push { cls := .type "slice", data := .fields #[vl, vu, vs] } } := I4.kept (t' := s4.toks) fun b ob q => Heap.get?_push_of_some _ q
  show wpAny (model X.prog X.w) X.A (subscriptTail e (.Slice none none (some (.UnaryOp .USub (.Constant (.int 1) k p1) p2)) p3) (.ref a) (.ref s4.heap.objs.size)) (EP X pins σ Q) X.xe { s4 with heap := s4.heap.push { cls := .type "slice", data := .fields #[vl, vu, vs] } }
  rcases hq with ⟨hx, q⟩ | ⟨hx, q⟩
  · obtain ⟨its, r, ht, hz⟩ := I5.list hx
    have hlen := r.length
    refine tail_any (ops := [.ref a, .ref s4.heap.objs.size]) ht.isList.typeIs (PySem.slot_list_getitem.lookup) ?_ (by with_unfolding_all rfl)
    refine wpAny_getItem_list_slice ht.isList (Heap.IsSliceOf.new _ vl vu vs) pl pu ps (by decide) ?_ (by rw [List.size_toArray]; omega)
    rw [PySem.W.krv_pick]
    refine ⟨.ref _, _, I5.laid (t' := s4.toks) (o := .lst xs.reverse) (fun b ob q => Heap.get?_push_of_some _ q) (Nat.le_refl _) ?_, rfl, q _ (I5.hok.fresh (Nat.le_refl _))⟩
    exact ⟨by rw [List.length_reverse]; exact hz, _, 0, r.reverse, Heap.get?_push_size _ rfl⟩
  · obtain ⟨its, r, ht, hz⟩ := I5.tuple hx
    have hlen := r.length
    refine tail_any (ops := [.ref a, .ref s4.heap.objs.size]) ht.typeIs (PyProof.Rows.slot_tuple_getitem.lookup) ?_ (by with_unfolding_all rfl)
    refine getItem_tuple_rev ht (Heap.IsSliceOf.new _ vl vu vs) pl pu ps ?_ (by rw [List.size_toArray]; omega)
    refine ⟨.ref _, _, I5.laid (t' := s4.toks) (o := .tup xs.reverse) (fun b ob q => Heap.get?_push_of_some _ q) (Nat.le_refl _) ?_, rfl, q _ (I5.hok.fresh (Nat.le_refl _))⟩
    exact ⟨by rw [List.length_reverse]; exact hz, _, r.reverse, IsTup.new _ _⟩
/-- xs.extend(e), e a list or a tuple -/
def rExt (K : PySem.W.Frag) : V → List V → Hp → VK → Prop := fun x vs H Q => ∃ l b xs zs, x = .ref l ∧ vs = [.ref b] ∧ H l = some (.lst xs) ∧ (H b = some (.lst zs) ∨ SqT K H b zs) ∧ xs.length + zs.length ≤ sizeLine ∧ Q .non (upd H l (.lst (xs ++ zs)))
theorem mt_ext : MtM X "list.extend" (rExt X.K) := by
  intro pins s σ H x vs v us Q I rx rv h
  obtain ⟨l, b, xs, zs, rfl, rfl, hH, hB, hz, q⟩ := h
  rcases hB with hB | hB
  · exact mt_extend pins s σ H _ _ v us Q I rx rv ⟨l, b, xs, zs, rfl, rfl, hH, hB, hz, q⟩
  · cases rx
    obtain ⟨u, rfl, ru⟩ := rv.one
    cases ru
    obtain ⟨z, its, n, r, hl, e⟩ := I.lstM hH
    obtain ⟨its2, r2, ⟨⟨cls2, dd2, data2, sl2⟩, ho2, hc2, n2, hd2⟩, hz2⟩ := I.tuple hB
    have hl2 := r2.length
    simp only at hc2 hd2
    subst hc2 hd2
    have hsz : its.toArray.size + its2.toArray.size ≤ sizeLine := by rw [List.size_toArray, List.size_toArray]; omega
    have hlong : ¬ (!its.toArray.isEmpty && Builtin.List.listTooLong (its.toArray.size + its2.toArray.size)) = true := by
      rw [notLongL hsz, Bool.and_false]
      exact Bool.false_ne_true
    refine call_meets F.slot_list_extend ⟨_, e, rfl⟩ F.entry_list_extend (F.args_list_extend_2 _ _)
      (list_ext_tup l its.toArray n b its2.toArray n2 dd2 sl2 hlong (by rw [List.size_toArray]; omega) (by omega)) ⟨e, ho2, ?_⟩
    refine ⟨.non, _, I.lset (its' := its ++ its2) hH e (by simp) (r.append r2) ?_, rfl, q⟩
    rw [List.length_append]
    omega
end
end LX
/-! ME: calls that are handed changing objects; dicts, fields, tests over data. -/
namespace LD
open PySem L2
section
variable {b : Bs} {A A1 A2 A3 : Abs} {T : Tmp} {σ : St} {H H2 G : Hp} {v : V} {d e z : Dt} {ds es dds : List Dt} {te ta tb tc td ty tv : TE} {t : TA} {K : PySem.W.Frag} {P : Post} {W : WX} {XP : Abs → Addr → Option (List (Str × V)) → Prop} {C : Addr} {nm : Str} {i j : Int} {n : Nat}
variable {pre : List Dt → List (Addr × MO) → Prop} {res : List Dt → List (Addr × MO) → Dt → List (Addr × MO) → Prop} {exc : List Dt → Addr → Option (List (Str × V)) → Prop} {ws dvs : List V} {Ms Rm : List (Addr × MO)} {E : XK} {Q : VK}
/-- behind a call that was handed the changing objects Ms -/
theorem ConcG.calledM {M' : List (Addr × MO)} {G2 : Hp} (c : ConcG b A T σ H G) (hp : A.M.Perm (Ms ++ Rm)) (e1 : Ex G G2) (e2 : Ex G2 H2) (nw : Nw G H G2) (kp : Keep (Ms.flatMap own) H H2) (hm : ∀ p ∈ M', G2 p.1 = none ∧ MOk G2 H2 p.1 p.2)
    (nd : (M'.flatMap own).Nodup) (hn : ∀ p ∈ M', ∀ q ∈ own p, H q = none ∨ q ∈ Ms.flatMap own) : ConcG b ⟨A.γ, M' ++ Rm⟩ T σ H2 G2 := by
  have pm : ∀ p, p ∈ A.M ↔ p ∈ Ms ∨ p ∈ Rm := fun p => by rw [hp.mem_iff, List.mem_append]
  have nd2 : ((Ms ++ Rm).flatMap own).Nodup := (hp.flatMap_right own).nodup_iff.mp c.nd
  rw [List.flatMap_append, List.nodup_append] at nd2
  obtain ⟨n1, n2, n3⟩ := nd2
  have hsm : ∀ x ∈ Ms.flatMap own, b.H0 x = none ∨ x ∈ b.mu := fun x hx => by
    obtain ⟨p, h1, h2⟩ := List.mem_flatMap.mp hx
    exact c.nw' p ((pm p).mpr (.inl h1)) x h2
  refine { g0 := c.g0.trans e1, gh := e2, nw := fun x h1 h2 => nw x (c.kp.2 x h1) (c.nw x h1 h2), kp := ⟨fun x o hx h => ?_, fun x h => kp.2 x (c.kp.2 x h)⟩, sl := c.sl.mono e1, tm := fun p hp => (c.tm p hp).mono e1, mo := fun p hp => ?_, nd := ?_, nw' := fun p hp q hq => ?_, t0 := fun p hp => (c.t0 p hp).mono e1 }
  · refine kp.1 x o (fun z => ?_) (c.kp.1 x o hx h)
    rcases hsm x z with q | q
    · rw [q] at h; cases h
    · exact hx q
  · rcases List.mem_append.mp hp with h | h
    · exact hm p h
    · obtain ⟨h1, h2⟩ := c.mo p ((pm p).mpr (.inr h))
      have hne : H p.1 ≠ none := h2.there p.1 self_own
      exact ⟨nw _ hne h1, h2.keep e1 nw fun q hq o ho => kp.1 q o (fun z => n3 q z q (List.mem_flatMap.mpr ⟨p, h, hq⟩) rfl) ho⟩
  · show ((M' ++ Rm).flatMap LD.own).Nodup
    rw [List.flatMap_append, List.nodup_append]
    refine ⟨nd, n2, fun x hx y hy e => ?_⟩
    subst e
    obtain ⟨p, h1, h2⟩ := List.mem_flatMap.mp hx
    rcases hn p h1 x h2 with q | q
    · obtain ⟨p', h3, h4⟩ := List.mem_flatMap.mp hy
      exact (c.mo p' ((pm p').mpr (.inr h3))).2.there x h4 q
    · exact n3 x q x hy rfl
  · rcases List.mem_append.mp hp with h | h
    · rcases hn p h q hq with z | z
      · refine .inl ?_
        cases y : b.H0 q with
        | none => rfl
        | some o => exact absurd z (c.kp.2 q (by rw [y]; simp))
      · exact hsm q z
    · exact c.nw' p ((pm p).mpr (.inr h)) q hq
/-- an error out of a call that was handed Ms: they are forgotten -/
theorem ConcG.errM (c : ConcG b A T σ H G) (hp : A.M.Perm (Ms ++ Rm)) (kp : Keep (Ms.flatMap own) H H2) : ConcG b ⟨A.γ, Rm⟩ T σ H2 G := by
  have pm : ∀ p ∈ Ms, p ∈ A.M := fun p h => hp.mem_iff.mpr (List.mem_append_left _ h)
  have := c.calledM (M' := []) hp (Evl.Ex.refl G) (fun a o h => kp.1 a o (fun z => by
    obtain ⟨p, h1, h2⟩ := List.mem_flatMap.mp z
    obtain ⟨pa, pmo⟩ := p
    have hm := c.mo _ (pm _ h1)
    cases pmo with
    | d d =>
      have e : a = pa := by simpa [own] using h2
      rw [e, hm.1] at h; cases h
    | dL es =>
      rcases List.mem_cons.mp h2 with e | h2
      · rw [e, hm.1] at h; cases h
      · obtain ⟨e', he, rfl⟩ := List.mem_map.mp h2
        obtain ⟨_, zz⟩ := hm.2
        rw [(zz e' he).1] at h; cases h) (c.gh _ _ h)) (fun a _ h => h) kp (fun p hp => by cases hp) (by simp) (fun p hp => by cases hp)
  simpa using this
theorem er_coreM {R : Dt → Abs → Prop} (c : Conc b A (ws.zip ds ++ T) σ H) (hl : ws.length = ds.length) (hd : ∀ G, RpAll G dvs dds) (hM : A.M.Perm (Ms ++ Rm)) (hp : pre (ds ++ dds) Ms) (hr : ∀ d M', res (ds ++ dds) Ms d M' → R d ⟨A.γ, M' ++ Rm⟩)
    (hx : ∀ C o dd H2, exc (ds ++ dds) C o → Conc b ⟨A.γ, Rm⟩ T σ H2 → ExcAt b.H0 H2 o dd → E (.ref C) dd H2) (q : ∀ v d A' H2, R d A' → Conc b A' ((v, d) :: T) σ H2 → Q v H2) : SpM pre res exc (ws ++ dvs) H Q E := by
  obtain ⟨G, g, r⟩ := c.zip hl
  have pm : ∀ p ∈ Ms, p ∈ A.M := fun p h => hM.mem_iff.mpr (List.mem_append_left _ h)
  have nd2 : ((Ms ++ Rm).flatMap own).Nodup := (hM.flatMap_right own).nodup_iff.mp g.nd
  rw [List.flatMap_append, List.nodup_append] at nd2
  refine ⟨G, ds ++ dds, Ms, g.gh, r.append (hd G), fun p hp => g.mo p (pm p hp), nd2.1, hp, fun v d M' G2 H2 hres e1 e2 nw kp rv hm nd hn => ?_, fun C o dd H2 he kp ha => hx C o dd H2 he ⟨G, g.errM hM kp⟩ (ha.of g.kp.2)⟩
  have g2 := g.calledM hM e1 e2 nw kp hm nd hn
  exact q v d _ H2 (hr d M' hres) (g2.out rv)
theorem er_callM {R : Dt → Abs → Prop} (ht : EvA b t A ds A1) (hd : ∀ G, RpAll G dvs dds) (hM : A1.M.Perm (Ms ++ Rm)) (hp : pre (ds ++ dds) Ms) (hr : ∀ d M', res (ds ++ dds) Ms d M' → R d ⟨A1.γ, M' ++ Rm⟩) (hw : WOk b W XP) (hx : ∀ C o, exc (ds ++ dds) C o → XP ⟨A1.γ, Rm⟩ C o) :
    EvR b (tCallSD (SpM pre res exc) dvs (WE W) t) A R := fun T σ H c Q q => ht T σ H c _ fun ws H1 hl c1 =>
  er_coreM c1 hl hd hM hp hr (fun C o dd H2 he c2 ha => hw _ C o dd T σ H2 (hx C o he) c2 ha) q
theorem make_core {x dx : Addr} {H1 : Hp} {fs : List (Str × Dt)} {Ms' : List (Addr × MO)} (c1 : Conc b A1 (ws.zip ds ++ T) σ H1) (hl : ws.length = ds.length) (hd : ∀ G, RpAll G dvs dds) (hM : A1.M.Perm (Ms ++ Rm)) (hp : pre (.obj x :: (ds ++ dds)) ((x, .d (.ins C [])) :: Ms))
    (hr : ∀ d M', res (.obj x :: (ds ++ dds)) ((x, .d (.ins C [])) :: Ms) d M' → d = .non ∧ M' = (x, .d (.ins C fs)) :: Ms') (hx : ∀ D o dd H2, exc (.obj x :: (ds ++ dds)) D o → Conc b ⟨A1.γ, Rm⟩ T σ H2 → ExcAt b.H0 H2 o dd → E (.ref D) dd H2)
    (hx0 : H1 x = none) (hdx : H1 dx = none) (ne : dx ≠ x) (q : ∀ v H2, Conc b ⟨A1.γ, Ms' ++ Rm⟩ ((v, .ins C fs) :: T) σ H2 → Q v H2) :
    SpM pre res exc (.ref x :: (ws ++ dvs)) (upd (upd H1 dx (.own x)) x (.ins C dx [])) (fun v H2 => v = .non ∧ Q (.ref x) H2) E := by
  obtain ⟨G, g, r⟩ := c1.zip hl
  have e0 : Ex H1 (upd (upd H1 dx (.own x)) x (.ins C dx [])) := fun a o h => by
    rw [upd_ne (ne_of_none h hx0), upd_ne (ne_of_none h hdx)]; exact h
  have gx : G x = none := by
    cases z : G x with
    | none => rfl
    | some o => rw [g.gh _ _ z] at hx0; cases hx0
  have bx : b.H0 x = none := by
    cases z : b.H0 x with
    | none => rfl
    | some o => exact absurd hx0 (g.kp.2 x (by rw [z]; simp))
  have g1 : ConcG b A1 T σ (upd (upd H1 dx (.own x)) x (.ins C dx [])) G := g.grow (Evl.Ex.refl G) (g.gh.trans e0) e0 fun a _ h => h
  have pm : ∀ p ∈ Ms, p ∈ A1.M := fun p h => hM.mem_iff.mpr (List.mem_append_left _ h)
  have nx : ∀ p ∈ A1.M, x ∉ own p := fun p hp hx => (g.mo p hp).2.there x hx hx0
  -- the new object beside the others
  have g2 : ConcG b ⟨A1.γ, (x, .d (.ins C [])) :: A1.M⟩ T σ (upd (upd H1 dx (.own x)) x (.ins C dx [])) G := { g1 with
    mo := fun p hp => by
      rcases List.mem_cons.mp hp with e | h
      · rw [e]; exact ⟨gx, dx, [], upd_same, rfl, .nil⟩
      · exact g1.mo p h
    nd := by
      show (((x, MO.d (.ins C [])) :: A1.M).flatMap own).Nodup
      rw [List.flatMap_cons, List.nodup_append]
      refine ⟨by simp [own], g1.nd, fun y hy z hz e => ?_⟩
      have : y = x := by simpa [own] using hy
      subst this e
      obtain ⟨p, h1, h2⟩ := List.mem_flatMap.mp hz
      exact nx p h1 h2
    nw' := fun p hp q hq => by
      rcases List.mem_cons.mp hp with e | h
      · rw [e] at hq
        have : q = x := by simpa [own] using hq
        rw [this]; exact .inl bx
      · exact g1.nw' p h q hq }
  have hM2 : (⟨A1.γ, (x, .d (.ins C [])) :: A1.M⟩ : Abs).M.Perm (((x, .d (.ins C [])) :: Ms) ++ Rm) := hM.cons _
  have nd2 : (((x, MO.d (.ins C [])) :: Ms).flatMap own ++ Rm.flatMap own).Nodup := by
    have := (hM2.flatMap_right own).nodup_iff.mp g2.nd
    rwa [List.flatMap_append] at this
  refine ⟨G, .obj x :: (ds ++ dds), (x, .d (.ins C [])) :: Ms, g1.gh, .cons (.obj x) (r.append (hd G)), fun p hp => g2.mo p (hM2.mem_iff.mpr (List.mem_append_left _ hp)), (List.nodup_append.mp nd2).1, hp, fun v d M' G2 H2 hres e1 e2 nw kp rv hm nd hn => ?_, fun C' o dd H2 he kp ha => ?_⟩
  · obtain ⟨rfl, rfl⟩ := hr d M' hres
    have g3 := g2.calledM hM2 e1 e2 nw kp hm nd hn
    refine ⟨rv.non_inv, ?_⟩
    -- x is frozen
    obtain ⟨nx1, dx', xs, h1, h2, h3⟩ := g3.mo (x, .d (.ins C fs)) List.mem_cons_self
    have ex2 : Ex G2 (upd G2 x (.ins C dx' xs)) := Evl.Ex.new nx1
    have nd3 : (((x, MO.d (.ins C fs)) :: (Ms' ++ Rm)).flatMap own).Nodup := g3.nd
    rw [List.flatMap_cons, List.nodup_append] at nd3
    have g4 : ConcG b ⟨A1.γ, Ms' ++ Rm⟩ T σ H2 (upd G2 x (.ins C dx' xs)) := {
      g0 := g3.g0.trans ex2
      gh := fun a o h => by
        by_cases z : a = x
        · subst z; rw [upd_same] at h; rw [h1]; exact h
        · rw [upd_ne z] at h; exact g3.gh _ _ h
      nw := fun a h1' h2' => by
        have z : a ≠ x := fun z => h1' (by rw [z]; exact bx)
        rw [upd_ne z]; exact g3.nw a h1' h2'
      kp := g3.kp
      sl := g3.sl.mono ex2
      tm := fun p hp => (g3.tm p hp).mono ex2
      mo := fun p hp => by
        obtain ⟨k1, k2⟩ := g3.mo p (List.mem_cons_of_mem _ hp)
        have nown : ∀ y ∈ own p, y ≠ x := fun y hy e => nd3.2.2 x (by simp [own]) y (List.mem_flatMap.mpr ⟨p, hp, hy⟩) e.symm
        refine ⟨by rw [upd_ne (nown _ self_own)]; exact k1, ?_⟩
        obtain ⟨a', m'⟩ := p
        cases m' with
        | d d =>
          cases d with
          | lst ds => obtain ⟨xs, k1, k2⟩ := k2; exact ⟨xs, k1, k2.mono ex2⟩
          | dK es => obtain ⟨xs, k1, k2, k3⟩ := k2; exact ⟨xs, k1, k2, k3.mono ex2⟩
          | dT es => obtain ⟨xs, k1, k2, k3⟩ := k2; exact ⟨xs, k1, k2, k3.mono ex2⟩
          | ins C es => obtain ⟨dx, xs, k1, k2, k3⟩ := k2; exact ⟨dx, xs, k1, k2, k3.mono ex2⟩
          | _ => exact k2.elim
        | dL es =>
          obtain ⟨k1, k2⟩ := k2
          refine ⟨k1, fun e' he => ?_⟩
          obtain ⟨k3, xs, k4, k5⟩ := k2 e' he
          exact ⟨by rw [upd_ne (nown _ (List.mem_cons_of_mem _ (List.mem_map.mpr ⟨e', he, rfl⟩)))]; exact k3, xs, k4, k5.mono ex2⟩
      nd := nd3.2.1
      nw' := fun p hp => g3.nw' p (List.mem_cons_of_mem _ hp)
      t0 := fun p hp => (g3.t0 p hp).mono ex2 }
    exact q _ _ (g4.out (.ins upd_same h2 (h3.mono ex2)))
  · exact hx C' o dd H2 he ⟨G, g2.errM hM2 kp⟩ (ha.of g1.kp.2)
theorem ev_makeM {fs : List (Str × Dt)} {Ms' : List (Addr × MO)} (ht : EvA b t A ds A1) (hd : ∀ G, RpAll G dvs dds) (hM : A1.M.Perm (Ms ++ Rm)) (hp : ∀ x, pre (.obj x :: (ds ++ dds)) ((x, .d (.ins C [])) :: Ms))
    (hr : ∀ x d M', res (.obj x :: (ds ++ dds)) ((x, .d (.ins C [])) :: Ms) d M' → d = .non ∧ M' = (x, .d (.ins C fs)) :: Ms') (hw : WOk b W XP) (hx : ∀ x E o, exc (.obj x :: (ds ++ dds)) E o → XP ⟨A1.γ, Rm⟩ E o) :
    EvM b (tMakeSD C (SpM pre res exc) dvs (WE W) t) A (.ins C fs) ⟨A1.γ, Ms' ++ Rm⟩ := fun T σ H c Q q => ht T σ H c _ fun ws H1 hl c1 => fun x dx hx0 hdx ne =>
  make_core c1 hl hd hM (hp x) (hr x) (fun D o dd H2 he c2 ha => hw _ D o dd T σ H2 (hx x D o he) c2 ha) hx0 hdx ne q
/-- super().__init__(..) over data -/
theorem s_supM {x : Addr} {fs : List (Str × Dt)} (h0 : A.γ[0]? = some (some (.obj x))) (hm0 : At A.M x (.d (.ins C fs)) (.d (.ins C fs)) A.M) (ht : EvA b t A ds A1) (hM : A1.M.Perm (Ms ++ Rm)) 
    (hp : pre (.obj x :: ds) Ms) (hw : WOk b W XP) (hx : ∀ E o, exc (.obj x :: ds) E o → XP ⟨A1.γ, Rm⟩ E o) (k : ∀ d M', res (.obj x :: ds) Ms d M' → P.nx ⟨A1.γ, M' ++ Rm⟩) : StA b (LX.tSup C (SpM pre res exc) (WE W) t) A P := fun T σ H c D q1 q2 q3 q4 => by
  obtain ⟨G, g⟩ := c
  obtain ⟨xv, hs, hrx⟩ := g.sl.get h0
  have e0 := hrx.obj_inv
  subst e0
  obtain ⟨nx, dx, xs, hH, _⟩ := g.mo _ hm0.mem
  refine ⟨x, dx, xs, hs, hH, ht T σ H ⟨G, g⟩ _ fun ws H1 hl c1 => ?_⟩
  have c2 : Conc b A1 (((V.ref x) :: ws).zip (.obj x :: ds) ++ T) σ H1 := by
    obtain ⟨G1, g1⟩ := c1
    refine ⟨G1, { g1 with tm := fun p hp => ?_ }⟩
    rw [List.zip_cons_cons, List.cons_append] at hp
    rcases List.mem_cons.mp hp with e | h
    · rw [e]; exact .obj x
    · exact g1.tm p h
  have := er_coreM (R := fun d A' => ∃ M', res (.obj x :: ds) Ms d M' ∧ A' = ⟨A1.γ, M' ++ Rm⟩) (dvs := []) (dds := []) (E := WE W σ) (Q := fun _ H2 => D.nx σ H2) c2 (by simp [hl]) (fun _ => .nil) hM (by rw [List.append_nil]; exact hp) (fun d M' h => ⟨M', by rw [List.append_nil] at h; exact h, rfl⟩)
    (fun C' o dd H2 he c3 ha => hw _ C' o dd T σ H2 (hx C' o (by rw [List.append_nil] at he; exact he)) c3 ha) (fun v d A' H2 ⟨M', h1, h2⟩ c3 => by
      subst h2
      exact q1 _ _ _ (k d M' h1) c3.pop)
  rw [List.append_nil] at this
  exact this
end
end LD
/-! MF: dicts, fields, tests over data. -/
namespace LD
open PySem L2
def keyD : Key → Dt
  | .inl i => .int i
  | .inr s => .str s
theorem rp_key {G : Hp} {v : V} {k : Key} (r : Rp G v (keyD k)) : v = kV k := by
  cases k with
  | inl i => exact r.int_inv
  | inr s => exact r.str_inv
theorem key_rp {G : Hp} (k : Key) : Rp G (kV k) (keyD k) := by
  cases k with
  | inl i => exact .int i
  | inr s => exact .str s
theorem rp_keys {G : Hp} : ∀ {vs : List V} {ks : List Key}, RpAll G vs (ks.map keyD) → vs = ks.map kV
  | [], [], _ => rfl
  | v :: vs, k :: ks, .cons r t => by rw [List.map_cons, rp_key r, rp_keys t]
def lookD {κ α : Type} [DecidableEq κ] (es : List (κ × α)) (k : κ) : Option α := (es.find? fun kv => decide (kv.1 = k)).map (·.2)
theorem lookD_pos {κ α : Type} [DecidableEq κ] {p : κ × α} {r : List (κ × α)} {k : κ} (e : p.1 = k) : lookD (p :: r) k = some p.2 := by simp [lookD, List.find?_cons, e]
theorem lookD_neg {κ α : Type} [DecidableEq κ] {p : κ × α} {r : List (κ × α)} {k : κ} (e : ¬ p.1 = k) : lookD (p :: r) k = lookD r k := by simp [lookD, List.find?_cons, e]
theorem look_val {κ : Type} [DecidableEq κ] {G : Hp} : ∀ {kvs : List (κ × V)} {es : List (κ × Dt)}, kvs.map (·.1) = es.map (·.1) → RpAll G (kvs.map (·.2)) (es.map (·.2)) → ∀ k : κ,
    (valV kvs k = none ∧ lookD es k = none) ∨ ∃ v d, valV kvs k = some v ∧ lookD es k = some d ∧ Rp G v d
  | [], [], _, _, _ => .inl ⟨rfl, rfl⟩
  | (k1, v1) :: kvs, (k2, d2) :: es, hk, .cons h r, k => by
    simp only [List.map_cons, List.cons.injEq] at hk
    obtain ⟨rfl, hk⟩ := hk
    by_cases e : k1 = k
    · exact .inr ⟨v1, d2, valV_pos e, lookD_pos e, h⟩
    · rw [valV_neg (p := (k1, v1)) e, lookD_neg (p := (k1, d2)) e]
      exact look_val hk r k
  | [], _ :: _, hk, _, _ => by simp at hk
  | _ :: _, [], hk, _, _ => by simp at hk
/-- d[k] = x over data -/
def putD {κ α : Type} [DecidableEq κ] (es : List (κ × α)) (k : κ) (x : α) : List (κ × α) :=
  if (es.any fun kv => decide (kv.1 = k)) = true then es.map (fun kv => if kv.1 = k then (kv.1, x) else kv) else es ++ [(k, x)]
theorem any_key {κ α β : Type} [DecidableEq κ] {kvs : List (κ × α)} {es : List (κ × β)} (h : kvs.map (·.1) = es.map (·.1)) (k : κ) : (kvs.any fun kv => decide (kv.1 = k)) = es.any fun kv => decide (kv.1 = k) := by
  have e1 : (kvs.any fun kv => decide (kv.1 = k)) = (kvs.map (·.1)).any fun q => decide (q = k) := by rw [List.any_map]; rfl
  have e2 : (es.any fun kv => decide (kv.1 = k)) = (es.map (·.1)).any fun q => decide (q = k) := by rw [List.any_map]; rfl
  rw [e1, e2, h]
theorem put_rp {κ : Type} [DecidableEq κ] {G : Hp} {kvs : List (κ × V)} {es : List (κ × Dt)} {v : V} {d : Dt} (hk : kvs.map (·.1) = es.map (·.1)) (r : RpAll G (kvs.map (·.2)) (es.map (·.2))) (k : κ) (rv : Rp G v d) :
    (putK kvs k v).map (·.1) = (putD es k d).map (·.1) ∧ RpAll G ((putK kvs k v).map (·.2)) ((putD es k d).map (·.2)) := by
  unfold putK putD
  rw [any_key hk k]
  by_cases q : (es.any fun kv => decide (kv.1 = k)) = true
  · rw [if_pos q, if_pos q]
    clear q
    induction kvs generalizing es with
    | nil =>
      cases es with
      | nil => exact ⟨rfl, .nil⟩
      | cons e es => simp at hk
    | cons p kvs ih =>
      cases es with
      | nil => simp at hk
      | cons e es =>
        obtain ⟨k1, v1⟩ := p
        obtain ⟨k2, d2⟩ := e
        simp only [List.map_cons, List.cons.injEq] at hk
        obtain ⟨rfl, hk⟩ := hk
        cases r with
        | cons h r =>
          obtain ⟨h1, h2⟩ := ih hk r
          by_cases z : k1 = k
          · simp only [List.map_cons, if_pos z]
            exact ⟨by rw [h1], .cons rv h2⟩
          · simp only [List.map_cons, if_neg z]
            exact ⟨by rw [h1], .cons h h2⟩
  · rw [if_neg q, if_neg q]
    simp only [List.map_append, List.map_cons, List.map_nil]
    exact ⟨by rw [hk], r.append (.cons rv .nil)⟩
def putFD (f : Str) (d : Dt) : List (Str × Dt) → List (Str × Dt)
  | [] => [(f, d)]
  | (g, x) :: r => if g = f then (g, d) :: r else (g, x) :: putFD f d r
theorem putF_rp {G : Hp} {v : V} {d : Dt} {f : Str} (rv : Rp G v d) : ∀ {kvs : List (Str × V)} {es : List (Str × Dt)}, kvs.map (·.1) = es.map (·.1) → RpAll G (kvs.map (·.2)) (es.map (·.2)) →
    (putF f v kvs).map (·.1) = (putFD f d es).map (·.1) ∧ RpAll G ((putF f v kvs).map (·.2)) ((putFD f d es).map (·.2))
  | [], [], _, _ => ⟨rfl, .cons rv .nil⟩
  | (k1, v1) :: kvs, (k2, d2) :: es, hk, .cons h r => by
    simp only [List.map_cons, List.cons.injEq] at hk
    obtain ⟨rfl, hk⟩ := hk
    by_cases z : k1 = f
    · simp only [putF, putFD, if_pos z, List.map_cons]
      exact ⟨by rw [hk], .cons rv r⟩
    · obtain ⟨h1, h2⟩ := putF_rp (f := f) rv hk r
      simp only [putF, putFD, if_neg z, List.map_cons]
      exact ⟨by rw [h1], .cons h h2⟩
  | [], _ :: _, hk, _ => by simp at hk
  | _ :: _, [], hk, _ => by simp at hk
section
variable {b : Bs} {A A1 A2 A3 : Abs} {T : Tmp} {σ : St} {H H2 G : Hp} {v : V} {d e z : Dt} {ds es dds : List Dt} {te ta tb tc td ty tv : TE} {t : TA} {K : PySem.W.Frag} {P : Post} {W : WX} {XP : Abs → Addr → Option (List (Str × V)) → Prop} {C : Addr} {nm f : Str} {i j : Int} {n : Nat}
/-! ### new objects -/
def EvN (b : Bs) (te : TE) (A : Abs) (m : MO) (A' : Abs) : Prop := ∀ T σ H, Conc b A T σ H → ∀ Q : VK, (∀ p H2, Conc b ⟨A'.γ, (p, m) :: A'.M⟩ ((.ref p, .obj p) :: T) σ H2 → Q (.ref p) H2) → te σ H Q
def NewR (m : MO) (A' : Abs) (d : Dt) (A2 : Abs) : Prop := ∃ p, d = .obj p ∧ A2 = ⟨A'.γ, (p, m) :: A'.M⟩
theorem EvN.r {m : MO} (h : EvN b te A m A1) : EvR b te A (NewR m A1) := fun T σ H c Q q => h T σ H c Q fun p H2 c2 => q _ _ _ H2 ⟨p, rfl, rfl⟩ c2
theorem EvF.toN (h : EvF b te A ds A1) : EvN b te A (.d (.lst ds)) A1 := h
theorem en_dK : EvN b tDNewK A (.d (.dK [])) A := fun T σ H c Q q p hp => by
  obtain ⟨G, g⟩ := c
  obtain ⟨c', _⟩ := g.newM (o := .dK []) (m := .dK []) hp ⟨[], upd_same, rfl, .nil⟩
  exact q p _ (c'.out (.obj p))
theorem en_dT : EvN b tDNewT A (.d (.dT [])) A := fun T σ H c Q q p hp => by
  obtain ⟨G, g⟩ := c
  obtain ⟨c', _⟩ := g.newM (o := .dT []) (m := .dT []) hp ⟨[], upd_same, rfl, .nil⟩
  exact q p _ (c'.out (.obj p))
theorem en_dL : EvN b tDNewK A (.dL []) A := fun T σ H c Q q p hp => by
  obtain ⟨G, g⟩ := c
  obtain ⟨c', _⟩ := g.newM (o := .dK []) (m := .dK []) hp ⟨[], upd_same, rfl, .nil⟩
  refine q p _ ⟨G, { c'.push (.obj p) with mo := fun r hr => ?_, nd := ?_, nw' := fun r hr x hx => ?_ }⟩
  · rcases List.mem_cons.mp hr with e | h
    · rw [e]
      exact ⟨(c'.mo _ List.mem_cons_self).1, upd_same, fun e he => by cases he⟩
    · exact c'.mo r (List.mem_cons_of_mem _ h)
  · exact c'.nd
  · rcases List.mem_cons.mp hr with e | h
    · rw [e] at hx
      exact c'.nw' _ List.mem_cons_self x hx
    · exact c'.nw' r (List.mem_cons_of_mem _ h) x hx
theorem s_asgN {n : Nat} {m : MO} (h : EvN b te A m A1) (k : ∀ p, P.nx ⟨A1.γ.set n (some (.obj p)), (p, m) :: A1.M⟩) : StA b (tAsg te (gName n)) A P :=
  s_asgR h.r fun d A2 ⟨p, e1, e2⟩ => by subst e1 e2; exact k p
/-! ### dicts -/
theorem Rp.dK_inv {es : List (Key × Dt)} (h : Rp G v (.dK es)) : ∃ a kvs, v = .ref a ∧ G a = some (.dK kvs) ∧ kvs.map (·.1) = es.map (·.1) ∧ RpAll G (kvs.map (·.2)) (es.map (·.2)) := by
  cases h with | dK h k r => exact ⟨_, _, rfl, h, k, r⟩
theorem Rp.dT_inv {es : List (List Key × Dt)} (h : Rp G v (.dT es)) : ∃ a kvs, v = .ref a ∧ G a = some (.dT kvs) ∧ kvs.map (·.1) = es.map (·.1) ∧ RpAll G (kvs.map (·.2)) (es.map (·.2)) := by
  cases h with | dT h k r => exact ⟨_, _, rfl, h, k, r⟩
/-- the dict at x, its data -/
inductive DAt (M : List (Addr × MO)) : Dt → Dt → Prop where
  | frz (d : Dt) : DAt M d d
  | mov {l : Addr} {m : Dt} (h : (l, .d m) ∈ M) : DAt M (.obj l) m
theorem DAt.dK {x : Dt} {es : List (Key × Dt)} (c : ConcG b A T σ H G) (h : DAt A.M x (.dK es)) (r : Rp G v x) : ∃ a kvs, v = .ref a ∧ H a = some (.dK kvs) ∧ kvs.map (·.1) = es.map (·.1) ∧ RpAll G (kvs.map (·.2)) (es.map (·.2)) := by
  cases h with
  | frz => obtain ⟨a, kvs, h1, h2, h3, h4⟩ := r.dK_inv; exact ⟨a, kvs, h1, c.gh _ _ h2, h3, h4⟩
  | mov h => obtain ⟨_, kvs, h1, h2, h3⟩ := c.mo _ h; exact ⟨_, kvs, r.obj_inv, h1, h2, h3⟩
theorem DAt.dT {x : Dt} {es : List (List Key × Dt)} (c : ConcG b A T σ H G) (h : DAt A.M x (.dT es)) (r : Rp G v x) : ∃ a kvs, v = .ref a ∧ H a = some (.dT kvs) ∧ kvs.map (·.1) = es.map (·.1) ∧ RpAll G (kvs.map (·.2)) (es.map (·.2)) := by
  cases h with
  | frz => obtain ⟨a, kvs, h1, h2, h3, h4⟩ := r.dT_inv; exact ⟨a, kvs, h1, c.gh _ _ h2, h3, h4⟩
  | mov h => obtain ⟨_, kvs, h1, h2, h3⟩ := c.mo _ h; exact ⟨_, kvs, r.obj_inv, h1, h2, h3⟩
theorem DAt.lst {x : Dt} (c : ConcG b A T σ H G) (h : DAt A.M x (.lst ds)) (r : Rp G v x) : ∃ a xs, v = .ref a ∧ H a = some (.lst xs) ∧ RpAll G xs ds := by
  cases h with
  | frz => obtain ⟨a, kvs, h1, h2, h3⟩ := r.lst_inv; exact ⟨a, kvs, h1, c.gh _ _ h2, h3⟩
  | mov h => obtain ⟨_, kvs, h1, h2⟩ := c.mo _ h; exact ⟨_, kvs, r.obj_inv, h1, h2⟩
theorem DAt.ins {x : Dt} {fs : List (Str × Dt)} (c : ConcG b A T σ H G) (h : DAt A.M x (.ins C fs)) (r : Rp G v x) : ∃ a dx xs, v = .ref a ∧ H a = some (.ins C dx xs) ∧ xs.map (·.1) = fs.map (·.1) ∧ RpAll G (xs.map (·.2)) (fs.map (·.2)) := by
  cases h with
  | frz => obtain ⟨a, dx, kvs, h1, h2, h3⟩ := r.ins_inv; exact ⟨a, dx, kvs, h1, c.gh _ _ h2, h3⟩
  | mov h => obtain ⟨_, dx, kvs, h1, h2⟩ := c.mo _ h; exact ⟨_, dx, kvs, r.obj_inv, h1, h2⟩
theorem dgetK_of {x : Dt} {es : List (Key × Dt)} {k : Key} {w : V} (c : ConcG b A T σ H G) (h : DAt A.M x (.dK es)) (r : Rp G v x) (rk : Rp G w (keyD k)) :
    ∃ a o, v = .ref a ∧ DGet H a w o ∧ ((o = none ∧ lookD es k = none) ∨ ∃ u du, o = some u ∧ lookD es k = some du ∧ Rp G u du) := by
  obtain ⟨a, kvs, h1, h2, h3, h4⟩ := h.dK c r
  refine ⟨a, valV kvs k, h1, by rw [rp_key rk]; exact DGet.k h2, ?_⟩
  rcases look_val h3 h4 k with ⟨q1, q2⟩ | ⟨u, du, q1, q2, q3⟩
  · exact .inl ⟨q1, q2⟩
  · exact .inr ⟨u, du, q1, q2, q3⟩
theorem dgetT_of {x : Dt} {es : List (List Key × Dt)} {k : List Key} {w : V} (c : ConcG b A T σ H G) (h : DAt A.M x (.dT es)) (r : Rp G v x) (rk : Rp G w (.tup (k.map keyD))) :
    ∃ a o, v = .ref a ∧ DGet H a w o ∧ ((o = none ∧ lookD es k = none) ∨ ∃ u du, o = some u ∧ lookD es k = some du ∧ Rp G u du) := by
  obtain ⟨a, kvs, h1, h2, h3, h4⟩ := h.dT c r
  obtain ⟨p, xs, e1, e2, e3⟩ := rk.tup_inv
  rw [rp_keys e3] at e2
  refine ⟨a, valV kvs k, h1, by rw [e1]; exact DGet.t h2 (c.gh _ _ e2), ?_⟩
  rcases look_val h3 h4 k with ⟨q1, q2⟩ | ⟨u, du, q1, q2, q3⟩
  · exact .inl ⟨q1, q2⟩
  · exact .inr ⟨u, du, q1, q2, q3⟩
theorem ev_dgetK {x : Dt} {es : List (Key × Dt)} {k : Key} (hd : EvM b td A x A1) (hy : EvM b ty A1 (keyD k) A2) (hx : DAt A2.M x (.dK es)) (hl : lookD es k = some d) : EvM b (tDGet td ty) A d A2 := fun T σ H c Q q =>
  hd T σ H c _ fun v H1 c1 => hy _ σ H1 c1 _ fun w H2 c2 => by
    obtain ⟨G, g, r1, r2⟩ := c2.top2
    obtain ⟨a, o, h1, h2, h3⟩ := dgetK_of g hx r2 r1
    rcases h3 with ⟨_, h⟩ | ⟨u, du, e1, e2, e3⟩
    · rw [hl] at h; cases h
    · rw [hl] at e2; cases e2; subst e1
      exact ⟨a, u, h1, h2, q _ _ (g.out e3)⟩
theorem ev_dgetT {x : Dt} {es : List (List Key × Dt)} {k : List Key} (hd : EvM b td A x A1) (hy : EvM b ty A1 (.tup (k.map keyD)) A2) (hx : DAt A2.M x (.dT es)) (hl : lookD es k = some d) : EvM b (tDGet td ty) A d A2 := fun T σ H c Q q =>
  hd T σ H c _ fun v H1 c1 => hy _ σ H1 c1 _ fun w H2 c2 => by
    obtain ⟨G, g, r1, r2⟩ := c2.top2
    obtain ⟨a, o, h1, h2, h3⟩ := dgetT_of g hx r2 r1
    rcases h3 with ⟨_, h⟩ | ⟨u, du, e1, e2, e3⟩
    · rw [hl] at h; cases h
    · rw [hl] at e2; cases e2; subst e1
      exact ⟨a, u, h1, h2, q _ _ (g.out e3)⟩
theorem ev_dnotinT {x : Dt} {es : List (List Key × Dt)} {k : List Key} (hy : EvM b ty A (.tup (k.map keyD)) A1) (hd : EvM b td A1 x A2) (hx : DAt A2.M x (.dT es)) : EvM b (tDNotIn ty td) A (.bl (!(lookD es k).isSome)) A2 := fun T σ H c Q q =>
  hy T σ H c _ fun v H1 c1 => hd _ σ H1 c1 _ fun w H2 c2 => by
    obtain ⟨G, g, r1, r2⟩ := c2.top2
    obtain ⟨a, o, h1, h2, h3⟩ := dgetT_of g hx r1 r2
    refine ⟨a, o, h1, h2, q _ _ (g.out ?_)⟩
    rcases h3 with ⟨e1, e2⟩ | ⟨u, du, e1, e2, e3⟩
    · rw [e1, e2]; exact .bl _
    · rw [e1, e2]; exact .bl _
theorem ev_dinT {x : Dt} {es : List (List Key × Dt)} {k : List Key} (hy : EvM b ty A (.tup (k.map keyD)) A1) (hd : EvM b td A1 x A2) (hx : DAt A2.M x (.dT es)) : EvM b (tDIn ty td) A (.bl (lookD es k).isSome) A2 := fun T σ H c Q q =>
  hy T σ H c _ fun v H1 c1 => hd _ σ H1 c1 _ fun w H2 c2 => by
    obtain ⟨G, g, r1, r2⟩ := c2.top2
    obtain ⟨a, o, h1, h2, h3⟩ := dgetT_of g hx r1 r2
    refine ⟨a, o, h1, h2, q _ _ (g.out ?_)⟩
    rcases h3 with ⟨e1, e2⟩ | ⟨u, du, e1, e2, e3⟩
    · rw [e1, e2]; exact .bl _
    · rw [e1, e2]; exact .bl _
theorem ev_dnotinK {x : Dt} {es : List (Key × Dt)} {k : Key} (hy : EvM b ty A (keyD k) A1) (hd : EvM b td A1 x A2) (hx : DAt A2.M x (.dK es)) : EvM b (tDNotIn ty td) A (.bl (!(lookD es k).isSome)) A2 := fun T σ H c Q q =>
  hy T σ H c _ fun v H1 c1 => hd _ σ H1 c1 _ fun w H2 c2 => by
    obtain ⟨G, g, r1, r2⟩ := c2.top2
    obtain ⟨a, o, h1, h2, h3⟩ := dgetK_of g hx r1 r2
    refine ⟨a, o, h1, h2, q _ _ (g.out ?_)⟩
    rcases h3 with ⟨e1, e2⟩ | ⟨u, du, e1, e2, e3⟩
    · rw [e1, e2]; exact .bl _
    · rw [e1, e2]; exact .bl _
theorem ev_dinK {x : Dt} {es : List (Key × Dt)} {k : Key} (hy : EvM b ty A (keyD k) A1) (hd : EvM b td A1 x A2) (hx : DAt A2.M x (.dK es)) : EvM b (tDIn ty td) A (.bl (lookD es k).isSome) A2 := fun T σ H c Q q =>
  hy T σ H c _ fun v H1 c1 => hd _ σ H1 c1 _ fun w H2 c2 => by
    obtain ⟨G, g, r1, r2⟩ := c2.top2
    obtain ⟨a, o, h1, h2, h3⟩ := dgetK_of g hx r1 r2
    refine ⟨a, o, h1, h2, q _ _ (g.out ?_)⟩
    rcases h3 with ⟨e1, e2⟩ | ⟨u, du, e1, e2, e3⟩
    · rw [e1, e2]; exact .bl _
    · rw [e1, e2]; exact .bl _
theorem s_dputK {l : Addr} {es : List (Key × Dt)} {k : Key} {M' : List (Addr × MO)} (hv : EvM b tv A d A1) (hd : EvM b td A1 (.obj l) A2) (hy : EvM b ty A2 (keyD k) A3) (hm : At A3.M l (.d (.dK es)) (.d (.dK (putD es k d))) M') (hl : es.length < sizeLine) (q : P.nx ⟨A3.γ, M'⟩) :
    StA b (sDPut td ty tv) A P := fun T σ H c D q1 q2 q3 q4 => hv T σ H c _ fun v H1 c1 => hd _ σ H1 c1 _ fun x H2 c2 => hy _ σ H2 c2 _ fun y H3 c3 => by
  obtain ⟨G, g⟩ := c3
  have ry : Rp G y (keyD k) := g.tm (y, keyD k) (by simp)
  have rx : x = .ref l := (g.tm (x, .obj l) (by simp)).obj_inv
  have rv : Rp G v d := g.tm (v, d) (by simp)
  obtain ⟨_, kvs, h1, h2, h3⟩ := g.mo _ hm.mem
  obtain ⟨h4, h5⟩ := put_rp h2 h3 k rv
  have hlen : kvs.length = es.length := by have := congrArg List.length h2; simpa using this
  refine ⟨l, _, rx, by rw [rp_key ry]; exact DPut.k h1 (by rw [hlen]; exact hl), q1 _ _ _ q ⟨G, (g.at_ hm ⟨_, upd_same, h4, h5⟩).sub fun p hp => by simp [hp]⟩⟩
theorem s_dputT {l : Addr} {es : List (List Key × Dt)} {k : List Key} {M' : List (Addr × MO)} (hv : EvM b tv A d A1) (hd : EvM b td A1 (.obj l) A2) (hy : EvM b ty A2 (.tup (k.map keyD)) A3) (hm : At A3.M l (.d (.dT es)) (.d (.dT (putD es k d))) M') (hl : es.length < sizeLine) (q : P.nx ⟨A3.γ, M'⟩) :
    StA b (sDPut td ty tv) A P := fun T σ H c D q1 q2 q3 q4 => hv T σ H c _ fun v H1 c1 => hd _ σ H1 c1 _ fun x H2 c2 => hy _ σ H2 c2 _ fun y H3 c3 => by
  obtain ⟨G, g⟩ := c3
  have ry : Rp G y (.tup (k.map keyD)) := g.tm (y, .tup (k.map keyD)) (by simp)
  have rx : x = .ref l := (g.tm (x, .obj l) (by simp)).obj_inv
  have rv : Rp G v d := g.tm (v, d) (by simp)
  obtain ⟨_, kvs, h1, h2, h3⟩ := g.mo _ hm.mem
  obtain ⟨h4, h5⟩ := put_rp h2 h3 k rv
  have hlen : kvs.length = es.length := by have := congrArg List.length h2; simpa using this
  obtain ⟨p, xs, e1, e2, e3⟩ := ry.tup_inv
  rw [rp_keys e3] at e2
  refine ⟨l, _, rx, by rw [e1]; exact DPut.t h1 (g.gh _ _ e2) (by rw [hlen]; exact hl), q1 _ _ _ q ⟨G, (g.at_ hm ⟨_, upd_same, h4, h5⟩).sub fun p hp => by simp [hp]⟩⟩
/-! ### fields -/
theorem ev_fld {x : Dt} {fs : List (Str × Dt)} (h : EvM b ta A x A1) (hx : DAt A1.M x (.ins C fs)) (hc : Cls K C) (hn : NoAttr K C f) (hl : fs.lookup f = some d) : EvM b (tFld K ta f) A d A1 := fun T σ H c Q q => h T σ H c _ fun v H1 c1 => by
  obtain ⟨G, g, r⟩ := c1.top
  obtain ⟨a, dx, xs, h1, h2, h3, h4⟩ := hx.ins g r
  rcases look_rp h3 h4 f with ⟨_, q2⟩ | ⟨u, du, q1, q2, q3⟩
  · rw [hl] at q2; cases q2
  · rw [hl] at q2; cases q2
    exact ⟨a, C, dx, xs, u, h1, h2, hc, hn, q1, q _ _ (g.out q3)⟩
theorem ev_con {x : Dt} {fs : List (Str × Dt)} {u : Value} {vc : V} (h : EvM b ta A x A1) (hx : DAt A1.M x (.ins C fs)) (hc : Cls K C) (hn : Con K C f vc u) (hl : fs.lookup f = none) (hd : ∀ G, Rp G vc d) : EvM b (tCon K ta f) A d A1 := fun T σ H c Q q => h T σ H c _ fun v H1 c1 => by
  obtain ⟨G, g, r⟩ := c1.top
  obtain ⟨a, dx, xs, h1, h2, h3, h4⟩ := hx.ins g r
  rcases look_rp h3 h4 f with ⟨q1, _⟩ | ⟨_, du, q1, q2, q3⟩
  · exact ⟨a, C, dx, xs, vc, u, h1, h2, hc, hn, q1, q _ _ (g.out (hd G))⟩
  · rw [hl] at q2; cases q2
theorem s_fldR {R : Dt → Abs → Prop} (hv : EvR b tv A R) (hk : ∀ d A1, R d A1 → ∃ x fs A2 M', EvM b ta A1 (.obj x) A2 ∧ At A2.M x (.d (.ins C fs)) (.d (.ins C (putFD f d fs))) M' ∧ fs.length < 1000 ∧ P.nx ⟨A2.γ, M'⟩) (hc : Cls K C) (hn : NoAttr K C f) :
    StA b (sFld K ta tv f) A P := fun T σ H c D q1 q2 q3 q4 => hv T σ H c _ fun v d A1 H1 hr c1 => by
  obtain ⟨x, fs, A2, M', ho, hm, hl, k⟩ := hk d A1 hr
  refine ho _ σ H1 c1 _ fun w H2 c2 => ?_
  obtain ⟨G, g, r1, r2⟩ := c2.top2
  obtain ⟨_, dx, xs, h1, h2, h3⟩ := g.mo _ hm.mem
  obtain ⟨h4, h5⟩ := putF_rp (f := f) r2 h2 h3
  have hlen : xs.length = fs.length := by have := congrArg List.length h2; simpa using this
  exact ⟨x, C, dx, xs, r1.obj_inv, h1, hc, hn, by rw [hlen]; exact hl, q1 _ _ _ k ⟨G, g.at_ hm ⟨dx, _, upd_same, h4, h5⟩⟩⟩
theorem s_fld {x : Addr} {fs : List (Str × Dt)} {M' : List (Addr × MO)} (hv : EvM b tv A d A1) (ho : EvM b ta A1 (.obj x) A2) (hm : At A2.M x (.d (.ins C fs)) (.d (.ins C (putFD f d fs))) M') (hl : fs.length < 1000) (hc : Cls K C) (hn : NoAttr K C f) (k : P.nx ⟨A2.γ, M'⟩) :
    StA b (sFld K ta tv f) A P := s_fldR (R := fun d' A' => d' = d ∧ A' = A1) (hv.r ⟨rfl, rfl⟩) (fun d' A' ⟨e1, e2⟩ => by subst e1 e2; exact ⟨x, fs, A2, M', ho, hm, hl, k⟩) hc hn
/-! ### tests -/
def isNon : Dt → Bool
  | .non => true
  | _ => false
theorem isNon_of (r : Rp G v d) : decide (v = .non) = isNon d := by
  cases r <;> simp [isNon]
def rIsN : R2 := fun x y H Q => y = .non ∧ Q (.bl (decide (x = .non))) H
def rNotN : R2 := fun x y H Q => y = .non ∧ Q (.bl (!decide (x = .non))) H
theorem op_isN' {X : Cx} : OpR X (compareOp .Is) rIsN := op_isN
theorem op_notN' {X : Cx} : OpR X (compareOp .IsNot) rNotN := op_notN
theorem ev_isN (ha : EvM b ta A d A1) (hb : EvM b tb A1 .non A2) : EvM b (tOp rIsN ta tb) A (.bl (isNon d)) A2 := ev_op ha hb fun T σ H v w c Q k => by
  obtain ⟨G, g, r1, r2⟩ := c.top2
  exact ⟨r1.non_inv, k _ _ (g.out (by rw [isNon_of r2]; exact .bl _))⟩
theorem ev_notN (ha : EvM b ta A d A1) (hb : EvM b tb A1 .non A2) : EvM b (tOp rNotN ta tb) A (.bl (!isNon d)) A2 := ev_op ha hb fun T σ H v w c Q k => by
  obtain ⟨G, g, r1, r2⟩ := c.top2
  exact ⟨r1.non_inv, k _ _ (g.out (by rw [isNon_of r2]; exact .bl _))⟩
def rInC : R2 := fun x y H Q => ∃ (c : Nat) (z : Str), x = .str ⟨#[c]⟩ ∧ y = .str z ∧ Q (.bl (decide (c ∈ z.cps.toList))) H
def rNotInC : R2 := fun x y H Q => ∃ (c : Nat) (z : Str), x = .str ⟨#[c]⟩ ∧ y = .str z ∧ Q (.bl (!decide (c ∈ z.cps.toList))) H
/-- x in y: a sign in a text, flat values in a list or tuple -/
def rInA (K : PySem.W.Frag) : R2 := fun x y H Q => rInC x y H Q ∨ rIn K false x y H Q
def rNotInA (K : PySem.W.Frag) : R2 := fun x y H Q => rNotInC x y H Q ∨ rIn K true x y H Q
theorem op_inA {X : Cx} : OpR X (compareOp .In) (rInA X.K) := OpR.or op_in_sign op_in_seq
theorem op_notInA {X : Cx} : OpR X (compareOp .NotIn) (rNotInA X.K) := OpR.or op_notIn_sign op_notIn_seq
theorem ev_inC {c : Nat} {z : Str} (ha : EvM b ta A (.str ⟨#[c]⟩) A1) (hb : EvM b tb A1 (.str z) A2) : EvM b (tOp (rInA K) ta tb) A (.bl (decide (c ∈ z.cps.toList))) A2 := ev_op ha hb fun T σ H v w c' Q k => .inl (by
  obtain ⟨G, g, r1, r2⟩ := c'.top2
  exact ⟨c, z, r2.str_inv, r1.str_inv, k _ _ (g.out (.bl _))⟩)
theorem ev_notInC {c : Nat} {z : Str} (ha : EvM b ta A (.str ⟨#[c]⟩) A1) (hb : EvM b tb A1 (.str z) A2) : EvM b (tOp (rNotInA K) ta tb) A (.bl (!decide (c ∈ z.cps.toList))) A2 := ev_op ha hb fun T σ H v w c' Q k => .inl (by
  obtain ⟨G, g, r1, r2⟩ := c'.top2
  exact ⟨c, z, r2.str_inv, r1.str_inv, k _ _ (g.out (.bl _))⟩)
theorem plain_flat {x : V} (h : plainV d = some x) : flatV x = true := by
  cases d <;> simp [plainV] at h <;> subst h <;> rfl
/-- .. in a tuple of the written part -/
theorem ev_inK {x : V} {a : Addr} {xs : List V} (ha : EvM b ta A d A1) (hb : EvM b tb A1 (.obj a) A2) (hd : plainV d = some x) (hK : ∀ H, SqT K H a xs) (hf : xs.all flatV = true) : EvM b (tOp (rInA K) ta tb) A (.bl (inV x xs)) A2 := ev_op ha hb fun T σ H v w c' Q k => .inr (by
  obtain ⟨G, g, r1, r2⟩ := c'.top2
  rw [plain_inv r2 hd, r1.obj_inv]
  exact ⟨a, xs, rfl, .inr (hK H), plain_flat hd, hf, k _ _ (g.out (.bl _))⟩)
theorem ev_notInK {x : V} {a : Addr} {xs : List V} (ha : EvM b ta A d A1) (hb : EvM b tb A1 (.obj a) A2) (hd : plainV d = some x) (hK : ∀ H, SqT K H a xs) (hf : xs.all flatV = true) : EvM b (tOp (rNotInA K) ta tb) A (.bl (!inV x xs)) A2 := ev_op ha hb fun T σ H v w c' Q k => .inr (by
  obtain ⟨G, g, r1, r2⟩ := c'.top2
  rw [plain_inv r2 hd, r1.obj_inv]
  exact ⟨a, xs, rfl, .inr (hK H), plain_flat hd, hf, k _ _ (g.out (.bl _))⟩)
/-! ### lists turned, extended; tuples of changing lists -/
theorem ev_rvL (h : EvM b te A (.lst ds) A1) : EvM b (LX.tRev K te) A (.lst ds.reverse) A1 := fun T σ H c Q k => h T σ H c _ fun v H1 c1 => by
  obtain ⟨G, g, r⟩ := c1.top
  obtain ⟨a, xs, e1, e2, e3⟩ := r.lst_inv
  exact ⟨a, xs, e1, .inl ⟨SqL.of (g.gh _ _ e2), fun p hp => k _ _ (g.lst hp e3.reverse)⟩⟩
theorem ev_rvT (h : EvM b te A (.tup ds) A1) : EvM b (LX.tRev K te) A (.tup ds.reverse) A1 := fun T σ H c Q k => h T σ H c _ fun v H1 c1 => by
  obtain ⟨G, g, r⟩ := c1.top
  obtain ⟨a, xs, e1, e2, e3⟩ := r.tup_inv
  exact ⟨a, xs, e1, .inr ⟨SqT.of (g.gh _ _ e2), fun p hp => k _ _ (g.tup hp e3.reverse)⟩⟩
theorem ev_extT {l : Addr} {M' : List (Addr × MO)} (h : EvM b ta A (.obj l) A1) (hx : EvM b tb A1 (.tup es) A2) (hm : At A2.M l (.d (.lst ds)) (.d (.lst (ds ++ es))) M') {fs : List Dt} (hm0 : At A1.M l (.d (.lst fs)) (.d (.lst fs)) A1.M) (hl : ds.length + es.length ≤ sizeLine) :
    EvM b (tBM K "list" (LX.rExt K) ta (tCons tb tNil)) A .non ⟨A2.γ, M'⟩ := fun T σ H c Q k => h T σ H c _ fun v H1 c1 => by
  obtain ⟨G, c, r⟩ := c1.top
  obtain rfl := r.obj_inv
  obtain ⟨xs, e2, e3⟩ := c.lst_at hm0
  refine ⟨.inl ⟨rfl, _, SqL.of e2⟩, hx T σ H1 ⟨G, c⟩ _ fun w H2 c2 => ?_⟩
  obtain ⟨G, c, r⟩ := c2.top
  obtain ⟨xs, e2, e3⟩ := c.lst_at hm
  obtain ⟨p, ys, f1, f2, f3⟩ := r.tup_inv
  exact ⟨l, p, xs, ys, rfl, by rw [f1], e2, .inr (SqT.of (c.gh _ _ f2)), by rw [e3.length, f3.length]; exact hl, k _ _ ((c.at_ hm ⟨xs ++ ys, upd_same, e3.append f3⟩).out .non)⟩
theorem ev_extL {l : Addr} {M' : List (Addr × MO)} (h : EvM b ta A (.obj l) A1) (hx : EvM b tb A1 (.lst es) A2) (hm : At A2.M l (.d (.lst ds)) (.d (.lst (ds ++ es))) M') {fs : List Dt} (hm0 : At A1.M l (.d (.lst fs)) (.d (.lst fs)) A1.M) (hl : ds.length + es.length ≤ sizeLine) :
    EvM b (tBM K "list" (LX.rExt K) ta (tCons tb tNil)) A .non ⟨A2.γ, M'⟩ := fun T σ H c Q k => h T σ H c _ fun v H1 c1 => by
  obtain ⟨G, c, r⟩ := c1.top
  obtain rfl := r.obj_inv
  obtain ⟨xs, e2, e3⟩ := c.lst_at hm0
  refine ⟨.inl ⟨rfl, _, SqL.of e2⟩, hx T σ H1 ⟨G, c⟩ _ fun w H2 c2 => ?_⟩
  obtain ⟨G, c, r⟩ := c2.top
  obtain ⟨xs, e2, e3⟩ := c.lst_at hm
  obtain ⟨p, ys, f1, f2, f3⟩ := r.lst_inv
  exact ⟨l, p, xs, ys, rfl, by rw [f1], e2, .inl (c.gh _ _ f2), by rw [e3.length, f3.length]; exact hl, k _ _ ((c.at_ hm ⟨xs ++ ys, upd_same, e3.append f3⟩).out .non)⟩
theorem ev_lenX {x : Dt} (h : EvM b ta A x A1) (hx : DAt A1.M x (.lst ds)) : EvM b (tCB (rLen K) (tCons ta tNil)) A (.int (ds.length : Int)) A1 := fun T σ H c Q k => h T σ H c _ fun v H1 c1 => by
  obtain ⟨G, c, r⟩ := c1.top
  obtain ⟨p, xs, e1, e2, e3⟩ := hx.lst c r
  subst e1
  exact ⟨_, xs.length, rfl, .inl ⟨xs, SqL.of e2, rfl⟩, k _ _ (c.out (by rw [e3.length]; exact .int _))⟩
theorem ev_tupX {x : Dt} (h : EvM b ta A x A1) (hx : DAt A1.M x (.lst ds)) : EvM b (tCB (rTupOf K) (tCons ta tNil)) A (.tup ds) A1 := fun T σ H c Q k => h T σ H c _ fun v H1 c1 => by
  obtain ⟨G, c, r⟩ := c1.top
  obtain ⟨p, xs, e1, e2, e3⟩ := hx.lst c r
  subst e1
  exact ⟨p, xs, rfl, .inl ⟨SqL.of e2, fun l hl => k _ _ (c.tup hl e3)⟩⟩
end
end LD
/-! MG: d.setdefault(k, []).append(x); what changed is told as data. -/
namespace LD
open PySem L2
/-- d.setdefault(k, []).append(x) over data, p the new list's place -/
def appL : List (Key × Addr × List Dt) → Key → Dt → Addr → List (Key × Addr × List Dt)
  | [], k, d, p => [(k, p, [d])]
  | (k1, q, ds) :: r, k, d, p => if k1 = k then (k1, q, ds ++ [d]) :: r else (k1, q, ds) :: appL r k d p
/-- .. without the places -/
def appP {α : Type} : List (Key × List α) → Key → α → List (Key × List α)
  | [], k, d => [(k, [d])]
  | (k1, ds) :: r, k, d => if k1 = k then (k1, ds ++ [d]) :: r else (k1, ds) :: appP r k d
theorem appL_app : ∀ (es : List (Key × Addr × List Dt)) (k : Key) (d : Dt) (p : Addr), (appL es k d p).map (fun e => (e.1, e.2.2)) = appP (es.map fun e => (e.1, e.2.2)) k d
  | [], _, _, _ => rfl
  | (k1, q, ds) :: r, k, d, p => by
    unfold appL
    simp only [List.map_cons, appP]
    by_cases h : k1 = k
    · simp [h]
    · simp [h, appL_app r k d p]
theorem splitL : ∀ (es : List (Key × Addr × List Dt)) (k : Key), (∃ pre q ds post, es = pre ++ (k, q, ds) :: post ∧ (∀ e ∈ pre, e.1 ≠ k) ∧ ∀ d p, appL es k d p = pre ++ (k, q, ds ++ [d]) :: post) ∨ ((∀ e ∈ es, e.1 ≠ k) ∧ ∀ d p, appL es k d p = es ++ [(k, p, [d])])
  | [], k => .inr ⟨(fun e he => by cases he), fun d p => rfl⟩
  | (k1, q, ds) :: r, k => by
    by_cases h : k1 = k
    · subst h
      exact .inl ⟨[], q, ds, r, rfl, (fun e he => by cases he), fun d p => by simp [appL]⟩
    · rcases splitL r k with ⟨pre, q', ds', post, h1, h2, h3⟩ | ⟨h1, h2⟩
      · refine .inl ⟨(k1, q, ds) :: pre, q', ds', post, by rw [h1]; rfl, fun e he => ?_, fun d p => by simp [appL, h, h3]⟩
        rcases List.mem_cons.mp he with e1 | he
        · rw [e1]; exact h
        · exact h2 e he
      · refine .inr ⟨fun e he => ?_, fun d p => by simp [appL, h, h2]⟩
        rcases List.mem_cons.mp he with e1 | he
        · rw [e1]; exact h
        · exact h1 e he
theorem valV_none {kvs : List (Key × V)} {k : Key} (h : ∀ e ∈ kvs, e.1 ≠ k) : valV kvs k = none := by
  induction kvs with
  | nil => rfl
  | cons p r ih => rw [valV_neg (h p List.mem_cons_self)]; exact ih fun e he => h e (List.mem_cons_of_mem _ he)
theorem valV_mid {pre post : List (Key × V)} {k : Key} {v : V} (h : ∀ e ∈ pre, e.1 ≠ k) : valV (pre ++ (k, v) :: post) k = some v := by
  induction pre with
  | nil => exact valV_pos rfl
  | cons p r ih => rw [List.cons_append, valV_neg (h p List.mem_cons_self)]; exact ih fun e he => h e (List.mem_cons_of_mem _ he)
theorem putK_none {kvs : List (Key × V)} {k : Key} {v : V} (h : ∀ e ∈ kvs, e.1 ≠ k) : putK kvs k v = kvs ++ [(k, v)] := by
  unfold putK
  have : ¬ ((kvs.any fun kv => decide (kv.1 = k)) = true) := by
    intro q
    obtain ⟨e, he, z⟩ := List.any_eq_true.mp q
    exact h e he (of_decide_eq_true z)
  rw [if_neg this]
theorem At.apartX {M M' : List (Addr × MO)} {l : Addr} {m m' : MO} (a : At M l m m' M') (nd : (M.flatMap own).Nodup) : ∀ p ∈ M', p = (l, m') ∨ (p ∈ M ∧ ∀ x ∈ own p, x ∉ own (l, m)) := by
  induction a with
  | here =>
    intro p hp
    rcases List.mem_cons.mp hp with e | h
    · exact .inl e
    · refine .inr ⟨List.mem_cons_of_mem _ h, fun x hx e => ?_⟩
      rw [List.flatMap_cons, List.nodup_append] at nd
      exact nd.2.2 _ e x (List.mem_flatMap.mpr ⟨p, h, hx⟩) rfl
  | there h ih =>
    intro p hp
    rw [List.flatMap_cons, List.nodup_append] at nd
    rcases List.mem_cons.mp hp with e | h'
    · refine .inr ⟨by rw [e]; exact List.mem_cons_self, fun x hx e' => ?_⟩
      exact nd.2.2 x (e ▸ hx) _ (List.mem_flatMap.mpr ⟨_, h.mem, e'⟩) rfl
    · rcases ih nd.2.1 p h' with e | h'
      · exact .inl e
      · exact .inr ⟨List.mem_cons_of_mem _ h'.1, h'.2⟩
/-- own addresses, one object grown by the new address q -/
theorem At.nodup {M M' : List (Addr × MO)} {l : Addr} {m m' : MO} (a : At M l m m' M') : ∀ {ex : List Addr}, own (l, m') = own (l, m) ++ ex → (M.flatMap own).Nodup → ex.Nodup → (∀ p ∈ M, ∀ x ∈ own p, x ∉ ex) → (M'.flatMap own).Nodup ∧ ∀ x ∈ M'.flatMap own, x ∈ M.flatMap own ∨ x ∈ ex := by
  induction a with
  | here =>
    intro ex he nd nx hx
    rw [List.flatMap_cons, List.nodup_append] at nd
    rw [List.flatMap_cons, he]
    refine ⟨?_, fun x h => ?_⟩
    · rw [List.nodup_append, List.nodup_append]
      refine ⟨⟨nd.1, nx, fun x h1 y h2 e => hx _ List.mem_cons_self x h1 (e ▸ h2)⟩, nd.2.1, fun x h1 y h2 e => ?_⟩
      rcases List.mem_append.mp h1 with h1 | h1
      · exact nd.2.2 x h1 y h2 e
      · obtain ⟨p, h3, h4⟩ := List.mem_flatMap.mp h2
        exact hx p (List.mem_cons_of_mem _ h3) y h4 (e ▸ h1)
    · rw [List.flatMap_cons]
      rcases List.mem_append.mp h with h | h
      · rcases List.mem_append.mp h with h | h
        · exact .inl (List.mem_append_left _ h)
        · exact .inr h
      · exact .inl (List.mem_append_right _ h)
  | there h ih =>
    intro ex he nd nx hx
    rw [List.flatMap_cons, List.nodup_append] at nd
    obtain ⟨h1, h2⟩ := ih he nd.2.1 nx fun p hp => hx p (List.mem_cons_of_mem _ hp)
    rw [List.flatMap_cons]
    refine ⟨?_, fun x h => ?_⟩
    · rw [List.nodup_append]
      refine ⟨nd.1, h1, fun x k1 y k2 e => ?_⟩
      rcases h2 y k2 with k | k
      · exact nd.2.2 x k1 y k e
      · exact hx _ List.mem_cons_self x k1 (e ▸ k)
    · rw [List.flatMap_cons]
      rcases List.mem_append.mp h with h | h
      · exact .inl (List.mem_append_left _ h)
      · rcases h2 x h with k | k
        · exact .inl (List.mem_append_right _ k)
        · exact .inr k
section
variable {b : Bs} {A A1 A2 A3 : Abs} {T : Tmp} {σ : St} {H H2 G : Hp} {v : V} {d e z : Dt} {ds es dds : List Dt} {te ta tb tc td ty tv : TE} {t : TS} {K : PySem.W.Frag} {P : Post} {C : Addr} {nm f : Str}
/-- something of the object at l is written -/
theorem ConcG.atX {l x : Addr} {m m' : MO} {M' : List (Addr × MO)} {o : HO} (c : ConcG b A T σ H G) (a : At A.M l m m' M') (hx : x ∈ own (l, m)) (ho : own (l, m') = own (l, m)) (nl : G x = none) (nl' : G l = none) (ok : MOk G (upd H x o) l m') : ConcG b ⟨A.γ, M'⟩ T σ (upd H x o) G := by
  refine ⟨c.g0, fun y u h => ?_, c.nw, ⟨fun y u hy h => ?_, fun y hy => ?_⟩, c.sl, c.tm, fun p hp => ?_, ?_, fun p hp q hq => ?_, c.t0⟩
  · have ne : y ≠ x := fun e => by rw [e, nl] at h; cases h
    rw [upd_ne ne]; exact c.gh _ _ h
  · have ne : y ≠ x := fun e => by
      have := c.nw' _ a.mem x hx
      rw [e] at h hy
      rcases this with q | q
      · rw [h] at q; cases q
      · exact hy q
    rw [upd_ne ne]; exact c.kp.1 _ _ hy h
  · by_cases e : y = x
    · rw [e, upd_same]; simp
    · rw [upd_ne e]; exact c.kp.2 y hy
  · rcases a.apartX c.nd p hp with e | ⟨h1, h2⟩
    · rw [e]; exact ⟨nl', ok⟩
    · exact ⟨(c.mo p h1).1, (c.mo p h1).2.upd fun y hy e => h2 y hy (e ▸ hx)⟩
  · show (M'.flatMap LD.own).Nodup
    rw [a.own_eq ho.symm]; exact c.nd
  · rcases a.of_mem p hp with e | h
    · rw [e, ho] at hq
      exact c.nw' _ a.mem q hq
    · exact c.nw' p h q hq
theorem own_dL (l : Addr) (es : List (Key × Addr × List Dt)) : own (l, .dL es) = l :: es.map fun e => e.2.1 := rfl
/-- one of its lists grows -/
theorem ConcG.appIn {l q : Addr} {k : Key} {pre post : List (Key × Addr × List Dt)} {M' : List (Addr × MO)} {y : V} (c : ConcG b A T σ H G) (a : At A.M l (.dL (pre ++ (k, q, ds) :: post)) (.dL (pre ++ (k, q, ds ++ [d]) :: post)) M') (r : Rp G y d) :
    ∃ xs, H q = some (.lst xs) ∧ xs.length = ds.length ∧ ConcG b ⟨A.γ, M'⟩ T σ (upd H q (.lst (xs ++ [y]))) G := by
  obtain ⟨nl, h1, h2⟩ := c.mo _ a.mem
  obtain ⟨h3, xs, h4, h5⟩ := h2 (k, q, ds) (by simp)
  have hown : (own (l, MO.dL (pre ++ (k, q, ds) :: post))).Nodup := by
    have := c.nd.sublist (show (own (l, MO.dL (pre ++ (k, q, ds) :: post))).Sublist (A.M.flatMap own) from by
      have := List.singleton_sublist.mpr a.mem
      simpa using sub_flat own this)
    exact this
  rw [own_dL, List.map_append, List.map_cons] at hown
  have hn := List.nodup_cons.mp hown
  have nq : l ≠ q := fun e => hn.1 (by rw [e]; simp)
  have hn2 := List.nodup_append.mp hn.2
  refine ⟨xs, h4, h5.length, c.atX a (by rw [own_dL]; simp) (by rw [own_dL, own_dL]; simp) h3 nl ⟨?_, fun e he => ?_⟩⟩
  · rw [upd_ne nq, h1]
    simp
  · rcases List.mem_append.mp he with h | h
    · have ne : e.2.1 ≠ q := fun z => hn2.2.2 e.2.1 (List.mem_map.mpr ⟨e, h, rfl⟩) q List.mem_cons_self z
      rw [upd_ne ne]
      exact h2 e (List.mem_append_left _ h)
    · rcases List.mem_cons.mp h with e1 | h
      · rw [e1]
        exact ⟨h3, _, upd_same, h5.append (.cons r .nil)⟩
      · have ne : e.2.1 ≠ q := fun z => (List.nodup_cons.mp hn2.2.1).1 (by rw [← z]; exact List.mem_map.mpr ⟨e, h, rfl⟩)
        rw [upd_ne ne]
        exact h2 e (List.mem_append_right _ (List.mem_cons_of_mem _ h))
/-- a new list comes in -/
theorem ConcG.newIn {l p : Addr} {k : Key} {es : List (Key × Addr × List Dt)} {M' : List (Addr × MO)} (c : ConcG b A T σ H G) (a : At A.M l (.dL es) (.dL (es ++ [(k, p, [])])) M') (hp : H p = none) :
    ConcG b ⟨A.γ, M'⟩ T σ (upd (upd H p (.lst [])) l (.dK ((es.map fun e => (e.1, V.ref e.2.1)) ++ [(k, .ref p)]))) G := by
  obtain ⟨nl, h1, h2⟩ := c.mo _ a.mem
  have np : ∀ q ∈ A.M, ∀ x ∈ own q, x ≠ p := fun q hq x hx e => (c.mo q hq).2.there x hx (by rw [e]; exact hp)
  have npl : l ≠ p := np _ a.mem l self_own
  have gp : G p = none := by
    cases z : G p with
    | none => rfl
    | some o => rw [c.gh _ _ z] at hp; cases hp
  have bp : b.H0 p = none := by
    cases z : b.H0 p with
    | none => rfl
    | some o => exact absurd hp (c.kp.2 p (by rw [z]; simp))
  obtain ⟨n1, n2⟩ := a.nodup (ex := [p]) (by rw [own_dL, own_dL]; simp) c.nd (by simp) fun q hq x hx => by simpa using np q hq x hx
  have kp : ∀ x o, x ≠ l → H x = some o → upd (upd H p (.lst [])) l (.dK ((es.map fun e => (e.1, V.ref e.2.1)) ++ [(k, .ref p)])) x = some o := fun x o hx h => by
    rw [upd_ne hx, upd_ne (ne_of_none h hp)]; exact h
  refine ⟨c.g0, fun y u h => ?_, c.nw, ⟨fun y u hy h => ?_, fun y hy => ?_⟩, c.sl, c.tm, fun q hq => ?_, n1, fun q hq x hx => ?_, c.t0⟩
  · have ne : y ≠ l := fun e => by rw [e, nl] at h; cases h
    exact kp _ _ ne (c.gh _ _ h)
  · have ne : y ≠ l := fun e => by
      have := c.nw' _ a.mem l self_own
      rw [e] at h hy
      rcases this with q | q
      · rw [h] at q; cases q
      · exact hy q
    exact kp _ _ ne (c.kp.1 _ _ hy h)
  · by_cases e : y = l
    · rw [e, upd_same]; simp
    · have := c.kp.2 y hy
      cases z : H y with
      | none => exact absurd z this
      | some o => rw [kp _ _ e z]; simp
  · rcases a.apartX c.nd q hq with e | ⟨h3, h4⟩
    · rw [e]
      refine ⟨nl, ?_, fun e' he => ?_⟩
      · show upd _ _ _ l = _
        rw [upd_same]; simp
      · rcases List.mem_append.mp he with h | h
        · obtain ⟨k1, xs, k2, k3⟩ := h2 e' h
          have ne : e'.2.1 ≠ l := by
            have hown : (own (l, MO.dL es)).Nodup := c.nd.sublist (by
              have := List.singleton_sublist.mpr a.mem
              simpa using sub_flat own this)
            rw [own_dL] at hown
            exact fun z => (List.nodup_cons.mp hown).1 (by rw [← z]; exact List.mem_map.mpr ⟨e', h, rfl⟩)
          exact ⟨k1, xs, kp _ _ ne k2, k3⟩
        · have e1 : e' = (k, p, []) := by simpa using h
          rw [e1]
          exact ⟨gp, [], by show upd _ _ _ p = _; rw [upd_ne (Ne.symm npl), upd_same], .nil⟩
    · obtain ⟨k1, k2⟩ := c.mo q h3
      exact ⟨k1, k2.keep (Evl.Ex.refl G) (fun _ _ h => h) fun x hx o ho => kp x o (fun e => h4 x hx (by rw [e]; exact self_own)) ho⟩
  · rcases a.of_mem q hq with e | h
    · rw [e, own_dL] at hx
      rcases List.mem_cons.mp hx with z | z
      · exact c.nw' _ a.mem x (by rw [z]; exact self_own)
      · rw [List.map_append] at z
        rcases List.mem_append.mp z with z | z
        · exact c.nw' _ a.mem x (by rw [own_dL]; exact List.mem_cons_of_mem _ z)
        · have : x = p := by simpa using z
          rw [this]; exact .inl bp
    · exact c.nw' q h x hx
theorem At.to {M M' : List (Addr × MO)} {l : Addr} {m m' : MO} (a : At M l m m' M') (m2 : MO) : ∃ M2, At M l m m2 M2 ∧ At M2 l m2 m' M' := by
  induction a with
  | here => exact ⟨_, .here, .here⟩
  | there h ih => obtain ⟨M2, h1, h2⟩ := ih; exact ⟨_, .there h1, .there h2⟩
/-- d.setdefault(k, []).append(x) -/
theorem s_setdApp {l : Addr} {es : List (Key × Addr × List Dt)} {k : Key} (hd : EvM b td A (.obj l) A1) (hy : EvM b ty A1 (keyD k) A1) (hv : ∀ M, EvM b tv ⟨A1.γ, M⟩ d ⟨A1.γ, M⟩) {M' : Addr → List (Addr × MO)} (hm : ∀ p, At A1.M l (.dL es) (.dL (appL es k d p)) (M' p))
    (hl : es.length < sizeLine) (hls : ∀ e ∈ es, e.2.2.length < sizeLine) (q : ∀ p, P.nx ⟨A1.γ, M' p⟩) : StA b (tDrop (tBM K "list" rAppend (tDSetd td ty (tLst tNil)) (tCons tv tNil))) A P := fun T σ H c D q1 q2 q3 q4 => hd T σ H c _ fun v H1 c1 => by
  obtain ⟨G1, g1, r1⟩ := c1.top
  refine ⟨l, r1.obj_inv, .inl ⟨_, .inl (g1.mo _ (hm 0).mem).2.1⟩, hy T σ H1 ⟨G1, g1⟩ _ fun w H2 c2 => ⟨by show 0 ≤ sizeLine; omega, fun p hp => ?_⟩⟩
  obtain ⟨G, g, rw'⟩ := c2.top
  have npl : l ≠ p := fun z => (g.mo _ (hm 0).mem).2.there l self_own (by rw [z]; exact hp)
  have hH : H2 l = some (.dK (es.map fun e => (e.1, V.ref e.2.1))) := (g.mo _ (hm 0).mem).2.1
  have ex : Ex H2 (upd H2 p (.lst [])) := Evl.Ex.new hp
  refine ⟨es.map fun e => (e.1, V.ref e.2.1), k, by rw [upd_ne npl]; exact hH, rp_key rw', by simpa using hl, fun u hu => ?_, fun hn => ?_⟩
  · rcases splitL es k with ⟨pre, x, ds, post, h1, h2, h3⟩ | ⟨h1, _⟩
    · have e1 : u = .ref x := by
        rw [h1, List.map_append, List.map_cons, valV_mid (fun e he => by
          obtain ⟨e', he', z⟩ := List.mem_map.mp he
          rw [← z]; exact h2 e' he')] at hu
        exact (Option.some.inj hu).symm
      subst e1
      have hm' := hm p
      rw [h3 d p, h1] at hm'
      have g2 : ConcG b A1 T σ (upd H2 p (.lst [])) G := g.grow (Evl.Ex.refl G) (g.gh.trans ex) ex fun a _ h => h
      refine ⟨?_, hv A1.M T σ _ ⟨G, g2⟩ _ fun y H4 c4 => ?_⟩
      · obtain ⟨_, _, hh⟩ := g2.mo _ hm'.mem
        obtain ⟨_, xs, k2, _⟩ := hh (k, x, ds) (by simp)
        exact .inl ⟨rfl, _, SqL.of k2⟩
      · obtain ⟨G4, g4, r4⟩ := c4.top
        obtain ⟨xs, k1, k2, k3⟩ := g4.appIn hm' r4
        exact ⟨x, xs, y, rfl, rfl, k1, by rw [k2]; exact hls (k, x, ds) (by rw [h1]; simp), q1 _ _ _ (q p) ⟨G4, k3⟩⟩
    · rw [valV_none (fun e he => by
        obtain ⟨e', he', z⟩ := List.mem_map.mp he
        rw [← z]; exact h1 e' he')] at hu
      cases hu
  · rcases splitL es k with ⟨pre, x, ds, post, h1, h2, h3⟩ | ⟨h1, h3⟩
    · rw [h1, List.map_append, List.map_cons, valV_mid (fun e he => by
          obtain ⟨e', he', z⟩ := List.mem_map.mp he
          rw [← z]; exact h2 e' he')] at hn
      cases hn
    · have hm' := hm p
      rw [h3 d p] at hm'
      obtain ⟨M2, ha1, ha2⟩ := hm'.to (.dL (es ++ [(k, p, [])]))
      have g3 := g.newIn ha1 hp
      rw [putK_none (fun e he => by
        obtain ⟨e', he', z⟩ := List.mem_map.mp he
        rw [← z]; exact h1 e' he')]
      refine ⟨?_, hv M2 T σ _ ⟨G, g3⟩ _ fun y H4 c4 => ?_⟩
      · refine .inl ⟨rfl, [], SqL.of ?_⟩
        rw [upd_ne (Ne.symm npl), upd_same]
      · obtain ⟨G4, g4, r4⟩ := c4.top
        obtain ⟨xs, k1, k2, k3⟩ := g4.appIn (pre := es) (post := []) (ds := []) ha2 r4
        exact ⟨p, xs, y, rfl, rfl, k1, by rw [k2, sizeLine_eq]; decide, q1 _ _ _ (q p) ⟨G4, k3⟩⟩
/-! ### telling -/
def datOf : MO → Dt
  | .d m => m
  | .dL es => .dK (es.map fun e => (e.1, .lst e.2.2))
theorem ConcG.frz {l : Addr} {m : MO} {M' : List (Addr × MO)} (c : ConcG b A T σ H G) (a : Del A.M l m M') (hl : ∀ x ∈ own (l, m), x ∉ b.mu) : ∃ G2, ConcG b ⟨A.γ, M'⟩ T σ H G2 ∧ Ex G G2 ∧ Rp G2 (.ref l) (datOf m) := by
  cases m with
  | d m => exact c.freeze a (hl l self_own)
  | dL es =>
    obtain ⟨nl, h1, h2⟩ := c.mo _ a.mem
    have no : ∀ x ∈ own (l, MO.dL es), G x = none := fun x hx => by
      rcases List.mem_cons.mp hx with e | hx
      · rw [e]; exact nl
      · obtain ⟨e, he, rfl⟩ := List.mem_map.mp hx
        exact (h2 e he).1
    have h0 : ∀ x ∈ own (l, MO.dL es), b.H0 x = none := fun x hx => (c.nw' _ a.mem x hx).resolve_right (hl x hx)
    obtain ⟨G2, hG⟩ : ∃ G2 : Hp, ∀ x, G2 x = if x ∈ own (l, MO.dL es) then H x else G x := ⟨fun x => if x ∈ own (l, MO.dL es) then H x else G x, fun x => rfl⟩
    have gi : ∀ x ∈ own (l, MO.dL es), G2 x = H x := fun x hx => by rw [hG, if_pos hx]
    have gn : ∀ x, x ∉ own (l, MO.dL es) → G2 x = G x := fun x hx => by rw [hG, if_neg hx]
    have e : Ex G G2 := fun x o h => by
      rw [gn x fun z => by rw [no x z] at h; cases h]; exact h
    refine ⟨G2, ⟨c.g0.trans e, fun x u h => ?_, fun x k1 k2 => ?_, c.kp, c.sl.mono e, fun p hp => (c.tm p hp).mono e, fun p hp => ?_, c.nd.sublist (sub_flat _ a.sub), fun p hp => c.nw' p (a.sub.subset hp), fun p hp => (c.t0 p hp).mono e⟩, e, ?_⟩
    · by_cases q : x ∈ own (l, MO.dL es)
      · rw [gi x q] at h; exact h
      · rw [gn x q] at h; exact c.gh _ _ h
    · rw [gn x fun z => k1 (h0 x z)]; exact c.nw x k1 k2
    · obtain ⟨k1, k2⟩ := a.apart c.nd p hp
      obtain ⟨k3, k4⟩ := c.mo p k1
      refine ⟨by rw [gn p.1 (k2 _ self_own)]; exact k3, ?_⟩
      obtain ⟨a', m'⟩ := p
      cases m' with
      | d d =>
        cases d with
        | lst ds => obtain ⟨xs, k1, k2⟩ := k4; exact ⟨xs, k1, k2.mono e⟩
        | dK es => obtain ⟨xs, k1, k2, k3⟩ := k4; exact ⟨xs, k1, k2, k3.mono e⟩
        | dT es => obtain ⟨xs, k1, k2, k3⟩ := k4; exact ⟨xs, k1, k2, k3.mono e⟩
        | ins C es => obtain ⟨dx, xs, k1, k2, k3⟩ := k4; exact ⟨dx, xs, k1, k2, k3.mono e⟩
        | _ => exact k4.elim
      | dL es' =>
        obtain ⟨k5, k6⟩ := k4
        refine ⟨k5, fun e' he => ?_⟩
        obtain ⟨k7, xs, k8, k9⟩ := k6 e' he
        exact ⟨by rw [gn _ (k2 _ (List.mem_cons_of_mem _ (List.mem_map.mpr ⟨e', he, rfl⟩)))]; exact k7, xs, k8, k9.mono e⟩
    · refine .dK (kvs := es.map fun e => (e.1, V.ref e.2.1)) (by rw [gi l self_own]; exact h1) (by simp) ?_
      have key : ∀ es' : List (Key × Addr × List Dt), (∀ e ∈ es', e ∈ es) → RpAll G2 ((es'.map fun e => (e.1, V.ref e.2.1)).map (·.2)) ((es'.map fun e => (e.1, Dt.lst e.2.2)).map (·.2)) := by
        intro es'
        induction es' with
        | nil => intro _; exact .nil
        | cons x r ih =>
          intro hs
          obtain ⟨k1, xs, k2, k3⟩ := h2 x (hs x List.mem_cons_self)
          refine .cons (.lst (by rw [gi _ (List.mem_cons_of_mem _ (List.mem_map.mpr ⟨x, hs x List.mem_cons_self, rfl⟩))]; exact k2) (k3.mono e)) (ih fun y hy => hs y (List.mem_cons_of_mem _ hy))
      exact key es fun _ h => h
/-- the same state, told otherwise -/
def Tell (b : Bs) (A A' : Abs) : Prop := ∀ T σ H, Conc b A T σ H → Conc b A' T σ H
theorem Tell.refl : Tell b A A := fun _ _ _ h => h
theorem Tell.trans (h : Tell b A A1) (k : Tell b A1 A2) : Tell b A A2 := fun _ _ _ c => k _ _ _ (h _ _ _ c)
theorem StA.tell (h : Tell b A A1) (s : StA b t A1 P) : StA b t A P := fun T σ H c => s T σ H (h _ _ _ c)
theorem SRp.re {l : Addr} {m : Dt} (r : Rp G (.ref l) m) : ∀ {σ : St} {γ : List (Option Dt)} (i : Nat), SRp G σ γ → γ[i]? = some (some (.obj l)) → SRp G σ (γ.set i (some m))
  | v :: σ, some d' :: γ, 0, ⟨⟨x, h1, h2⟩, k⟩, e => by
    simp at e; subst e
    exact ⟨⟨x, h1, by rw [h2.obj_inv]; exact r⟩, k⟩
  | v :: σ, some d' :: γ, i + 1, ⟨h, k⟩, e => ⟨h, SRp.re r i k (by simpa using e)⟩
  | v :: σ, none :: γ, 0, k, e => by simp at e
  | v :: σ, none :: γ, i + 1, k, e => SRp.re (σ := σ) (γ := γ) r i k (by simpa using e)
  | [], [], _, _, e => by simp at e
  | [], _ :: _, _, h, _ => h.elim
  | _ :: _, [], _, h, _ => h.elim
theorem tell_slot {i : Nat} {l : Addr} {m : MO} {M' : List (Addr × MO)} (a : Del A.M l m M') (hγ : A.γ[i]? = some (some (.obj l))) (hl : ∀ x ∈ own (l, m), x ∉ b.mu) : Tell b A ⟨A.γ.set i (some (datOf m)), M'⟩ := fun T σ H ⟨G, g⟩ => by
  obtain ⟨G2, g2, e, r⟩ := g.frz a hl
  exact ⟨G2, { g2 with sl := g2.sl.re r i hγ }⟩
theorem look_put : ∀ {fs : List (Str × Dt)} {xs : List (Str × V)} {l : Addr} {m : Dt}, xs.map (·.1) = fs.map (·.1) → RpAll G (xs.map (·.2)) (fs.map (·.2)) → fs.lookup f = some (.obj l) → Rp G (.ref l) m →
    xs.map (·.1) = (putFD f m fs).map (·.1) ∧ RpAll G (xs.map (·.2)) ((putFD f m fs).map (·.2))
  | (k2, d2) :: fs, (k1, v1) :: xs, l, m, hk, .cons h r, hl, hr => by
    simp only [List.map_cons, List.cons.injEq] at hk
    obtain ⟨rfl, hk⟩ := hk
    by_cases z : k1 = f
    · subst z
      have : d2 = .obj l := by simpa [List.lookup] using hl
      subst this
      simp only [putFD, if_true, List.map_cons]
      have h' : Rp G v1 (.obj l) := h
      exact ⟨by rw [hk], .cons (by rw [h'.obj_inv]; exact hr) r⟩
    · have z' : (f == k1) = false := by simpa using fun q : f = k1 => z q.symm
      simp only [List.lookup, z'] at hl
      obtain ⟨h1, h2⟩ := look_put hk r hl hr
      simp only [putFD, if_neg z, List.map_cons]
      exact ⟨by rw [h1], .cons h h2⟩
  | [], _, _, _, _, _, hl, _ => by simp at hl
theorem tell_fld {x l : Addr} {m : MO} {fs : List (Str × Dt)} {M' M2 : List (Addr × MO)} (a : Del A.M l m M') (hf : fs.lookup f = some (.obj l)) (hm : At M' x (.d (.ins C fs)) (.d (.ins C (putFD f (datOf m) fs))) M2) (hl : ∀ x ∈ own (l, m), x ∉ b.mu) : Tell b A ⟨A.γ, M2⟩ := fun T σ H ⟨G, g⟩ => by
  obtain ⟨G2, g2, e, r⟩ := g.frz a hl
  obtain ⟨n1, dx, xs, h1, h2, h3⟩ := g2.mo _ hm.mem
  obtain ⟨h4, h5⟩ := look_put h2 h3 hf r
  have := g2.at_ (o := .ins C dx xs) hm ⟨dx, xs, upd_same, h4, h5⟩
  have eq : upd H x (.ins C dx xs) = H := by
    funext y
    by_cases z : y = x
    · rw [z, upd_same]; exact h1.symm
    · rw [upd_ne z]
  rw [eq] at this
  exact ⟨G2, this⟩
variable {pre : List Dt → List (Addr × MO) → Prop} {res : List Dt → List (Addr × MO) → Dt → List (Addr × MO) → Prop} {exc : List Dt → Addr → Option (List (Str × V)) → Prop} {vs : List V} {Q : VK} {E : XK}
/-- a def's body, by data, with telling at its ends -/
theorem SpM.bodyT {N : List Str} {t : TS} (h : SpM pre res exc vs H Q E)
    (hb : ∀ ds M b, pre ds M → b.mu = M.flatMap own → b.H0 = H → WOk b (fun cls d _ H => E cls d H) (fun _ C o => exc ds C o) →
      StA b t ⟨ds.map some ++ List.replicate (N.length - ds.length) none, M⟩ ⟨fun A => ∃ A2 M', Tell b A A2 ∧ M'.Sublist A2.M ∧ res ds M .non M', fun _ => False, fun _ => False, fun d A => ∃ A2 M', Tell b A A2 ∧ M'.Sublist A2.M ∧ res ds M d M'⟩) :
    t { nx := fun _ H' => Q .non H', rt := Q } (L2.start N vs) H :=
  h.body (N := N) fun ds M b hp hm h0 hw => fun T σ H c D q1 q2 q3 q4 => hb ds M b hp hm h0 hw T σ H c D (fun A' σ' H' ⟨A2, M', ht, hs, hr⟩ c' => q1 A2 σ' H' ⟨M', hs, hr⟩ (ht _ _ _ c')) (fun _ _ _ h _ => h.elim) (fun _ _ _ h _ => h.elim)
    fun v d A' σ' H' ⟨A2, M', ht, hs, hr⟩ c' => q4 v d A2 σ' H' ⟨M', hs, hr⟩ (ht _ _ _ c')
/-! ### the script -/
/-- the script stands at a -/
def Sc (K : PySem.W.Frag) (b : Bs) (a : Addr) (ns : List Int) : Prop := SqL K b.H0 a (ns.map V.int) ∧ b.mu = []
theorem Sc.at {a : Addr} {ns : List Int} (h : Sc K b a ns) (c : Conc b A T σ H) : SqL K H a (ns.map V.int) := by
  obtain ⟨G, g⟩ := c
  obtain ⟨h1, h2⟩ := h
  have k : ∀ o, b.H0 a = some o → H a = some o := fun o q => g.kp.1 a o (by rw [h2]; simp) q
  rcases h1 with (q | ⟨o, q⟩) | q
  · exact .inl (.inl (k _ q))
  · exact .inl (.inr ⟨o, k _ q⟩)
  · exact .inr q
theorem ev_lenSc {a : Addr} {ns : List Int} (hs : Sc K b a ns) (h : EvM b ta A (.obj a) A1) : EvM b (tCB (rLen K) (tCons ta tNil)) A (.int (ns.length : Int)) A1 := fun T σ H c Q k => h T σ H c _ fun v H1 c1 => by
  have q := hs.at c1
  obtain ⟨G, c, r⟩ := c1.top
  obtain rfl := r.obj_inv
  exact ⟨_, (ns.map V.int).length, rfl, .inl ⟨_, q, rfl⟩, k _ _ (c.out (by rw [List.length_map]; exact .int _))⟩
theorem ev_ixSc {a : Addr} {ns : List Int} {i z : Int} (hs : Sc K b a ns) (ha : EvM b ta A (.obj a) A1) (hb : EvM b tb A1 (.int i) A2) (h : atI ns i = some z) : EvM b (tOp (rIx K) ta tb) A (.int z) A2 := ev_op ha hb fun T σ H v w c Q k => .inl (by
  have q := hs.at c
  obtain ⟨G, c, r1, r2⟩ := c.top2
  have r := RpAll.ints (G := G) ns
  have h2 : atI (ns.map Dt.int) i = some (.int z) := by
    unfold atI at h ⊢
    rw [List.length_map]
    cases e : ixN ns.length i with
    | none => simp [e] at h
    | some j => simp [e] at h ⊢; simp [h]
  obtain ⟨u, h3, h4⟩ := r.atI h2
  exact ⟨_, _, _, u, r2.obj_inv, r1.int_inv, q, h3, k _ _ (c.out h4)⟩)
/-- a promise about the script and further arguments -/
def SpSc (K : PySem.W.Frag) (n : Nat) (pre : List Int → Addr → List Dt → Prop) (res : List Int → List Dt → Dt → Prop) : Sp := fun vs H Q E => ∃ (p : Addr) (ns : List Int), SqL K H p (ns.map V.int) ∧ ns.length ≤ n ∧ SpM (fun ds M => M = [] ∧ pre ns p ds) (fun ds _ d M' => M' = [] ∧ res ns ds d) (fun _ _ _ => False) vs H Q E
theorem er_callSc {a : Addr} {ns : List Int} {n : Nat} {preS : List Int → Addr → List Dt → Prop} {resS : List Int → List Dt → Dt → Prop} {R : Dt → Abs → Prop} {ta : TA} {W : WX} (hs : Sc K b a ns) (hn : ns.length ≤ n) (ht : EvA b ta A ds A1) (hp : preS ns a ds) (hr : ∀ d, resS ns ds d → R d A1) :
    EvR b (tCallSD (SpSc K n preS resS) [] (WE W) ta) A R := fun T σ H c Q q => ht T σ H c _ fun ws H1 hl c1 => by
  refine ⟨a, ns, hs.at c1, hn, ?_⟩
  exact er_core (dvs := []) (dds := []) c1 hl (fun _ => .nil) (by rw [List.append_nil]; exact ⟨rfl, hp⟩) (R := R) (fun d M' ⟨h1, h2⟩ => by subst h1; rw [List.append_nil] at h2; exact hr d h2) (fun _ _ _ _ h => h.elim) q
end
end LD
/-! MH: promises told by plain arguments x : α. -/
namespace LD
open PySem L2
variable {α : Type}
abbrev XF := Option (List (Str × V))
/-- called with args x (ok x): an answer d with res x d, or an error with exc x; nothing that stood is changed -/
def SpP (args : α → List Dt) (ok : α → Prop) (res : α → Dt → Prop) (exc : α → Addr → XF → Prop) : Sp := fun vs H Q E => ∃ x, ok x ∧ SpM (fun ds M => M = [] ∧ ds = args x) (fun _ _ d M' => M' = [] ∧ res x d) (fun _ => exc x) vs H Q E
/-- the same with changing objects -/
def SpX (pre : α → List Dt → List (Addr × MO) → Prop) (res : α → Dt → List (Addr × MO) → Prop) (exc : α → Addr → XF → Prop) : Sp := fun vs H Q E => ∃ x, SpM (pre x) (fun _ _ => res x) (fun _ => exc x) vs H Q E
section
variable {b : Bs} {A A1 A2 A3 : Abs} {T : Tmp} {σ : St} {H H2 G : Hp} {v : V} {d e z : Dt} {ds es dds : List Dt} {te ta tb tc td ty tv : TE} {t : TA} {K : PySem.W.Frag} {P : Post} {W : WX} {XP : Abs → Addr → XF → Prop} {C : Addr} {nm f m : Str} {vs dvs : List V} {Q : VK} {E : XK}
variable {args : α → List Dt} {ok : α → Prop} {resP : α → Dt → Prop} {exc : α → Addr → XF → Prop} {preX : α → List Dt → List (Addr × MO) → Prop} {resX : α → Dt → List (Addr × MO) → Prop} {Ms Rm : List (Addr × MO)}
theorem SpP.len {n : Nat} (hn : ∀ x, ok x → (args x).length = n) : ∀ vs H Q E, SpP args ok resP exc vs H Q E → vs.length = n := fun vs H Q E ⟨x, hx, h⟩ => SpM.len (fun ds M ⟨_, e⟩ => by rw [e]; exact hn x hx) vs H Q E h
theorem SpX.len {n : Nat} (hn : ∀ x ds M, preX x ds M → ds.length = n) : ∀ vs H Q E, SpX preX resX exc vs H Q E → vs.length = n := fun vs H Q E ⟨x, h⟩ => SpM.len (hn x) vs H Q E h
theorem SpP.body {N : List Str} {t : TS} (h : SpP args ok resP exc vs H Q E)
    (hb : ∀ x b, ok x → b.mu = [] → WOk b (fun cls d _ H => E cls d H) (fun _ => exc x) →
      StA b t ⟨(args x).map some ++ List.replicate (N.length - (args x).length) none, []⟩ ⟨fun _ => resP x .non, fun _ => False, fun _ => False, fun d _ => resP x d⟩) :
    t { nx := fun _ H' => Q .non H', rt := Q } (L2.start N vs) H := by
  obtain ⟨x, hx, h⟩ := h
  refine h.body (N := N) fun ds M b ⟨hM, hd⟩ hm h0 hw => ?_
  subst hM hd
  exact (hb x b hx (by simpa using hm) hw).mono (fun A h => ⟨[], List.nil_sublist _, rfl, h⟩) (fun _ h => h) (fun _ h => h) fun d A h => ⟨[], List.nil_sublist _, rfl, h⟩
theorem SpX.body {N : List Str} {t : TS} (h : SpX preX resX exc vs H Q E)
    (hb : ∀ x ds M b, preX x ds M → b.mu = M.flatMap own → WOk b (fun cls d _ H => E cls d H) (fun _ => exc x) →
      StA b t ⟨ds.map some ++ List.replicate (N.length - ds.length) none, M⟩ ⟨fun A => ∃ A2 M', Tell b A A2 ∧ M'.Sublist A2.M ∧ resX x .non M', fun _ => False, fun _ => False, fun d A => ∃ A2 M', Tell b A A2 ∧ M'.Sublist A2.M ∧ resX x d M'⟩) :
    t { nx := fun _ H' => Q .non H', rt := Q } (L2.start N vs) H := by
  obtain ⟨x, h⟩ := h
  exact h.bodyT (N := N) fun ds M b hp hm h0 hw => hb x ds M b hp hm hw
/-! ### calls -/
theorem er_callP {R : Dt → Abs → Prop} (x : α) (ht : EvA b t A ds A1) (hx : ok x) (hd : ∀ G, RpAll G dvs dds) (he : ds ++ dds = args x) (hr : ∀ d, resP x d → R d A1) (hw : WOk b W XP) (hxp : ∀ C o, exc x C o → XP A1 C o) :
    EvR b (tCallSD (SpP args ok resP exc) dvs (WE W) t) A R := fun T σ H c Q q => ht T σ H c _ fun ws H1 hl c1 =>
  ⟨x, hx, er_core c1 hl hd ⟨rfl, he⟩ (R := R) (fun d M' ⟨h1, h2⟩ => by subst h1; exact hr d h2) (fun C o dd H2 h c2 ha => hw A1 C o dd T σ H2 (hxp C o h) c2 ha) q⟩
/-- nothing is raised -/
theorem er_callN {R : Dt → Abs → Prop} (x : α) (ht : EvA b t A ds A1) (hx : ok x) (hd : ∀ G, RpAll G dvs dds) (he : ds ++ dds = args x) (hr : ∀ d, resP x d → R d A1) (hxp : ∀ C o, ¬ exc x C o) :
    EvR b (tCallSD (SpP args ok resP exc) dvs (WE W) t) A R := fun T σ H c Q q => ht T σ H c _ fun ws H1 hl c1 =>
  ⟨x, hx, er_core c1 hl hd ⟨rfl, he⟩ (R := R) (fun d M' ⟨h1, h2⟩ => by subst h1; exact hr d h2) (fun C o dd H2 h _ _ => absurd h (hxp C o)) q⟩
/-- within a comprehension -/
theorem er_call0P {R : Dt → Abs → Prop} (x : α) (ht : EvA b t A ds A1) (hx : ok x) (hd : ∀ G, RpAll G dvs dds) (he : ds ++ dds = args x) (hr : ∀ d, resP x d → R d A1) (hxp : ∀ C o, ¬ exc x C o) :
    EvR b (tCall (SpP args ok resP exc) dvs E0 t) A R := fun T σ H c Q q => ht T σ H c _ fun ws H1 hl c1 =>
  ⟨x, hx, er_core c1 hl hd ⟨rfl, he⟩ (R := R) (fun d M' ⟨h1, h2⟩ => by subst h1; exact hr d h2) (fun C o dd H2 h _ _ => absurd h (hxp C o)) q⟩
theorem ev_callN (x : α) (ht : EvA b t A ds A1) (hx : ok x) (he : ds = args x) (hr : ∀ d', resP x d' → d' = d) (hxp : ∀ C o, ¬ exc x C o) :
    EvM b (tCallSD (SpP args ok resP exc) [] (WE W) t) A d A1 := (er_callN (R := fun d' A' => d' = d ∧ A' = A1) x ht hx (dds := []) (fun _ => .nil) (by rw [List.append_nil]; exact he) (fun d' h => ⟨hr d' h, rfl⟩) hxp).ev
theorem ev_call0 (x : α) (ht : EvA b t A ds A1) (hx : ok x) (he : ds = args x) (hr : ∀ d', resP x d' → d' = d) (hxp : ∀ C o, ¬ exc x C o) :
    EvM b (tCall (SpP args ok resP exc) [] E0 t) A d A1 := (er_call0P (R := fun d' A' => d' = d ∧ A' = A1) x ht hx (dds := []) (fun _ => .nil) (by rw [List.append_nil]; exact he) (fun d' h => ⟨hr d' h, rfl⟩) hxp).ev
/-- a method of a frozen instance -/
theorem er_methP {R : Dt → Abs → Prop} {fs : List (Str × Dt)} (x : α) (ho : EvM b ta A (.ins C fs) A1) (hm : fs.lookup m = none) (ht : EvA b t A1 ds A2) (hx : ok x) (hd : ∀ G, RpAll G dvs dds) (he : .ins C fs :: (ds ++ dds) = args x) (hr : ∀ d, resP x d → R d A2)
    (hw : WOk b W XP) (hxp : ∀ D o, exc x D o → XP A2 D o) : EvR b (tMethSD C m (SpP args ok resP exc) dvs (WE W) ta t) A R := fun T σ H c Q q => ho T σ H c _ fun u H1 c1 => by
  have w := c1
  obtain ⟨G, g, r⟩ := c1.top
  obtain ⟨a, dx, xs, e1, e2, e3, e4⟩ := r.ins_inv
  refine ⟨a, dx, xs, e1, g.gh _ _ e2, ?_, ht _ σ H1 w _ fun ws H2 hl c2 => ?_⟩
  · rcases look_rp e3 e4 m with h | ⟨_, _, _, h, _⟩
    · exact h.1
    · rw [hm] at h; cases h
  · have c3 : Conc b A2 ((u :: ws).zip (.ins C fs :: ds) ++ T) σ H2 := c2.sub fun p hp => by
      rw [List.zip_cons_cons, List.cons_append] at hp
      rcases List.mem_cons.mp hp with e | h
      · exact List.mem_append_right _ (by rw [e]; exact List.mem_cons_self)
      · rcases List.mem_append.mp h with h | h
        · exact List.mem_append_left _ h
        · exact List.mem_append_right _ (List.mem_cons_of_mem _ h)
    exact ⟨x, hx, er_core (ds := .ins C fs :: ds) (ws := u :: ws) c3 (by simp [hl]) hd ⟨rfl, he⟩ (R := R) (fun d M' ⟨h1, h2⟩ => by subst h1; exact hr d h2) (fun D o dd H3 h c4 ha => hw A2 D o dd T σ H3 (hxp D o h) c4 ha) q⟩
/-- making an object; Ms: the changing objects that are handed in -/
theorem ev_makeX {fs : List (Str × Dt)} {Ms' : List (Addr × MO)} (x : Addr → α) (ht : EvA b t A ds A1) (hM : A1.M.Perm (Ms ++ Rm)) (hp : ∀ o, preX (x o) (.obj o :: ds) ((o, .d (.ins C [])) :: Ms))
    (hr : ∀ o d M', resX (x o) d M' → d = .non ∧ M' = (o, .d (.ins C fs)) :: Ms') (hw : WOk b W XP) (hx : ∀ p E o, exc (x p) E o → XP ⟨A1.γ, Rm⟩ E o) :
    EvM b (tMakeSD C (SpX preX resX exc) [] (WE W) t) A (.ins C fs) ⟨A1.γ, Ms' ++ Rm⟩ := fun T σ H c Q q => ht T σ H c _ fun ws H1 hl c1 => fun o dx hx0 hdx ne =>
  ⟨x o, make_core (dvs := []) (dds := []) c1 hl (fun _ => .nil) hM (by rw [List.append_nil]; exact hp o) (hr o) (fun D oo dd H2 he c2 ha => hw _ D oo dd T σ H2 (hx o D oo he) c2 ha) hx0 hdx ne q⟩
/-- super().__init__(..) -/
theorem s_supX {o : Addr} {fs : List (Str × Dt)} (x : α) (h0 : A.γ[0]? = some (some (.obj o))) (hm0 : At A.M o (.d (.ins C fs)) (.d (.ins C fs)) A.M) (ht : EvA b t A ds A1) (hM : A1.M.Perm (Ms ++ Rm))
    (hp : preX x (.obj o :: ds) Ms) (hw : WOk b W XP) (hx : ∀ E oo, exc x E oo → XP ⟨A1.γ, Rm⟩ E oo) (k : ∀ d M', resX x d M' → P.nx ⟨A1.γ, M' ++ Rm⟩) : StA b (LX.tSup C (SpX preX resX exc) (WE W) t) A P := fun T σ H c D q1 q2 q3 q4 => by
  obtain ⟨y, dx, fs', h1, h2, h3⟩ := s_supM (pre := fun ds M => preX x ds M) (res := fun _ _ => resX x) (exc := fun _ => exc x) (P := P) h0 hm0 ht hM hp hw hx k T σ H c D q1 q2 q3 q4
  obtain ⟨G, g⟩ := id c
  obtain ⟨xv, hs, hrx⟩ := g.sl.get h0
  refine ⟨y, dx, fs', h1, h2, ht T σ H c _ fun ws H1 hl c1 => ⟨x, ?_⟩⟩
  have e0 := hrx.obj_inv
  have ey : y = o := by
    rw [hs, e0] at h1
    cases h1
    rfl
  subst ey
  have c2 : Conc b A1 (((V.ref y) :: ws).zip (.obj y :: ds) ++ T) σ H1 := by
    obtain ⟨G1, g1⟩ := c1
    refine ⟨G1, { g1 with tm := fun p hp => ?_ }⟩
    rw [List.zip_cons_cons, List.cons_append] at hp
    rcases List.mem_cons.mp hp with e | h
    · rw [e]; exact .obj y
    · exact g1.tm p h
  have := er_coreM (pre := fun ds M => preX x ds M) (res := fun _ _ => resX x) (exc := fun _ => exc x) (R := fun d A' => ∃ M', resX x d M' ∧ A' = ⟨A1.γ, M' ++ Rm⟩) (dvs := []) (dds := []) (E := WE W σ) (Q := fun _ H2 => D.nx σ H2) c2 (by simp [hl]) (fun _ => .nil) hM (by rw [List.append_nil]; exact hp) (fun d M' h => ⟨M', h, rfl⟩)
    (fun C' oo dd H2 he c3 ha => hw _ C' oo dd T σ H2 (hx C' oo he) c3 ha) (fun v d A' H2 ⟨M', h1, h2⟩ c3 => by
      subst h2
      exact q1 _ _ _ (k d M' h1) c3.pop)
  rw [List.append_nil] at this
  exact this
end
end LD
/-! MI: further rules. -/
namespace LD
open PySem L2
section
variable {b : Bs} {A A1 A2 A3 : Abs} {T : Tmp} {σ : St} {H H2 G : Hp} {v : V} {d e z : Dt} {ds es dds : List Dt} {te ta tb tc td ty tv : TE} {t : TS} {K : PySem.W.Frag} {P : Post} {C : Addr} {nm f : Str}
theorem own_out {l : Addr} {m : MO} {M M' : List (Addr × MO)} (a : Del M l m M') (nd : (M.flatMap own).Nodup) (hmu : ∀ y ∈ b.mu, y ∈ M'.flatMap own) : ∀ x ∈ own (l, m), x ∉ b.mu := fun x hx hm => by
  obtain ⟨p, h1, h2⟩ := List.mem_flatMap.mp (hmu x hm)
  exact (a.apart nd p h1).2 x h2 hx
theorem tell_fldX {x l : Addr} {m : MO} {fs : List (Str × Dt)} {M' M2 : List (Addr × MO)} (a : Del A.M l m M') (hf : fs.lookup f = some (.obj l)) (hm : At M' x (.d (.ins C fs)) (.d (.ins C (putFD f (datOf m) fs))) M2) (hmu : ∀ y ∈ b.mu, y ∈ M'.flatMap own) : Tell b A ⟨A.γ, M2⟩ := fun T σ H c => by
  obtain ⟨G, g⟩ := id c
  exact tell_fld a hf hm (own_out a g.nd hmu) T σ H c
theorem tell_slotX {i : Nat} {l : Addr} {m : MO} {M' : List (Addr × MO)} (a : Del A.M l m M') (hγ : A.γ[i]? = some (some (.obj l))) (hmu : ∀ y ∈ b.mu, y ∈ M'.flatMap own) : Tell b A ⟨A.γ.set i (some (datOf m)), M'⟩ := fun T σ H c => by
  obtain ⟨G, g⟩ := id c
  exact tell_slot a hγ (own_out a g.nd hmu) T σ H c
theorem ev_frzX {l : Addr} {m : Dt} {M' : List (Addr × MO)} (h : EvM b te A (.obj l) A1) (a : Del A1.M l (.d m) M') (hmu : ∀ y ∈ b.mu, y ∈ M'.flatMap own) : EvM b te A m ⟨A1.γ, M'⟩ := fun T σ H c Q k => h T σ H c _ fun v H1 c1 => by
  obtain ⟨G, c, r⟩ := c1.top
  obtain ⟨G2, c2, e, r2⟩ := c.freeze a (own_out a c.nd hmu l self_own)
  rw [r.obj_inv]
  exact k _ _ (c2.out r2)
theorem s_dropR {R : Dt → Abs → Prop} (h : EvR b te A R) (k : ∀ d A1, R d A1 → P.nx A1) : StA b (tDrop te) A P := fun T σ H c D h1 h2 h3 h4 => h T σ H c _ fun v d A1 H1 r c1 => h1 _ _ _ (k d A1 r) c1.pop
theorem s_tgtR {R : Dt → Abs → Prop} {g : TG} (h : EvR b te A R) (k : ∀ d A1, R d A1 → ∃ A2, GA b g d A1 A2 ∧ P.nx A2) : StA b (tAsg te g) A P := fun T σ H c D h1 h2 h3 h4 => h T σ H c _ fun v d A1 H1 r c1 => by
  obtain ⟨A2, hg, hk⟩ := k d A1 r
  exact hg T σ H1 v c1 _ fun σ' H' c' => h1 _ _ _ hk c'
theorem atI_end {α : Type} {xs : List α} {x : α} (hx : xs.getLast? = some x) : L2.atI xs (-1) = some x := by
  have h0 : xs ≠ [] := fun z => by subst z; simp at hx
  have h1 : 0 < xs.length := List.length_pos_iff.mpr h0
  rw [List.getLast?_eq_getElem?] at hx
  have h : ixN xs.length (-1) = some (xs.length - 1) := by
    have hs : sizeLine = 16777216 := sizeLine_eq
    unfold ixN
    first
      | (simp; omega)
      | (simp [seqIndex?]; omega)
  unfold L2.atI
  rw [h]
  simpa using hx
theorem er_opR {r : R2} {R R' : Dt → Abs → Prop} (ha : EvR b ta A R) (k : ∀ d A1, R d A1 → ∃ e A2 z A3, EvM b tb A1 e A2 ∧ RVd b r A2 d e z A3 ∧ R' z A3) : EvR b (tOp r ta tb) A R' := fun T σ H c Q q => ha T σ H c _ fun v d A1 H1 hr c1 => by
  obtain ⟨e, A2, z, A3, h1, h2, h3⟩ := k d A1 hr
  exact h1 _ σ H1 c1 _ fun w H2 c2 => h2 T σ H2 v w c2 Q fun u H3 c3 => q u z A3 H3 h3 c3
theorem rv_ixL {i : Int} (h : L2.atI ds i = some d) : RVd b (rIx K) A (.lst ds) (.int i) d A := fun T σ H v w c Q k => .inl (by
  obtain ⟨G, c, r1, r2⟩ := c.top2
  obtain ⟨p, xs, e1, e2, e3⟩ := r2.lst_inv
  obtain ⟨x, h1, h2⟩ := e3.atI h
  exact ⟨p, xs, i, x, e1, r1.int_inv, SqL.of (c.gh _ _ e2), h1, k _ H (c.out h2)⟩)
/-! ### == with a changing list -/
theorem dp_at {n : Nat} {x : Dt} (c : ConcG b A T σ H G) (h : DAt A.M x (.lst ds)) (r : Rp G v x) (ho : eqOk (n + 1) (.lst ds) = true) : Dp K H v (toPy (.lst ds)) := by
  obtain ⟨a, xs, e1, e2, e3⟩ := h.lst c r
  subst e1
  rw [toPy]
  exact .lst (SqL.of e2) (dp_all (fun h r => dp_of c.gh n h r) ho e3)
theorem ev_eqX (n : Nat) {x : Dt} (ha : EvM b ta A x A1) (hb : EvM b tb A1 e A2) (hx : DAt A2.M x (.lst ds)) (h1 : eqOk (n + 1) (.lst ds) = true) (h2 : eqOk (n + 1) e = true) (hn : n + 1 ≤ 64) : EvM b (tOp (rEqAny K) ta tb) A (.bl (eqD (.lst ds) e)) A2 := ev_op ha hb fun T σ H v w c Q k => .inr (by
  obtain ⟨G, c, r1, r2⟩ := c.top2
  exact ⟨toPy (.lst ds), toPy e, dp_at c hx r2 h1, dp_of c.gh _ h2 r1, shaped_of h1 hn, shaped_of h2 hn, k _ H (c.out (.bl _))⟩)
theorem ev_neX (n : Nat) {x : Dt} (ha : EvM b ta A x A1) (hb : EvM b tb A1 e A2) (hx : DAt A2.M x (.lst ds)) (h1 : eqOk (n + 1) (.lst ds) = true) (h2 : eqOk (n + 1) e = true) (hn : n + 1 ≤ 64) : EvM b (tOp (rNeAny K) ta tb) A (.bl (!eqD (.lst ds) e)) A2 := ev_op ha hb fun T σ H v w c Q k => .inr (by
  obtain ⟨G, c, r1, r2⟩ := c.top2
  exact ⟨toPy (.lst ds), toPy e, dp_at c hx r2 h1, dp_of c.gh _ h2 r1, shaped_of h1 hn, shaped_of h2 hn, k _ H (c.out (.bl _))⟩)
theorem eqD_nil {n : Nat} (h : eqOk (n + 1) (.lst ds) = true) : eqD (.lst ds) (.lst []) = ds.isEmpty := by
  cases ds with
  | nil => exact eqD_self h
  | cons d ds => exact eqD_ne h (by rfl) (by simp)
theorem eqOk_ints (n : Nat) (ns : List Int) : eqOk (n + 1) (.lst (ns.map Dt.int)) = true := by
  show (ns.map Dt.int).all (eqOk n) = true
  rw [List.all_eq_true]
  intro d hd
  obtain ⟨i, _, rfl⟩ := List.mem_map.mp hd
  cases n <;> rfl
/-- the promise of a def that is handed the script -/
theorem SpSc.body {n : Nat} {preS : List Int → Addr → List Dt → Prop} {resS : List Int → List Dt → Dt → Prop} {N : List Str} {t : TS} {vs : List V} {Q : VK} {E : XK} (h : SpSc K n preS resS vs H Q E)
    (hb : ∀ p ns ds b, Sc K b p ns → ns.length ≤ n → preS ns p ds → StA b t ⟨ds.map some ++ List.replicate (N.length - ds.length) none, []⟩ ⟨fun _ => resS ns ds .non, fun _ => False, fun _ => False, fun d _ => resS ns ds d⟩) :
    t { nx := fun _ H' => Q .non H', rt := Q } (L2.start N vs) H := by
  obtain ⟨p, ns, hq, hn, h⟩ := h
  refine h.body (N := N) fun ds M b ⟨hM, hp⟩ hm h0 hw => ?_
  subst hM
  exact (hb p ns ds b ⟨by rw [h0]; exact hq, by simpa using hm⟩ hn hp).mono (fun A h => ⟨[], List.nil_sublist _, rfl, h⟩) (fun _ h => h) (fun _ h => h) fun d A h => ⟨[], List.nil_sublist _, rfl, h⟩
theorem SpSc.len {n m : Nat} {preS : List Int → Addr → List Dt → Prop} {resS : List Int → List Dt → Dt → Prop} (hn : ∀ ns p ds, preS ns p ds → ds.length = m) : ∀ vs H Q E, SpSc K n preS resS vs H Q E → vs.length = m := fun vs H Q E ⟨p, ns, _, _, h⟩ => SpM.len (fun ds M ⟨_, e⟩ => hn ns p ds e) vs H Q E h
end
end LD
/-! MJ: further rules. -/
namespace LD
open PySem L2
section
variable {b : Bs} {A A1 A2 A3 : Abs} {T : Tmp} {σ : St} {H H2 G : Hp} {v : V} {d e z : Dt} {ds es dds : List Dt} {te ta tb tc td ty tv : TE} {t u : TS} {K : PySem.W.Frag} {P : Post} {C : Addr} {nm f : Str}
/-- between two statements: what is known -/
theorem s_seqI (I : Abs → Prop) (h : StA b t A { P with nx := Up I }) (k : ∀ A', I A' → StA b u A' P) : StA b (tSeq t u) A P :=
  s_seq (h.mono (fun A' ⟨A2, w, i⟩ => (k A2 i).wk w) (fun _ h => h) (fun _ h => h) fun _ _ h => h)
theorem tell_perm {M' : List (Addr × MO)} (h : A.M.Perm M') : Tell b A ⟨A.γ, M'⟩ := fun T σ H ⟨G, g⟩ =>
  ⟨G, { g with mo := fun p hp => g.mo p (h.mem_iff.mpr hp), nd := ((h.flatMap_right own).nodup_iff).mp g.nd, nw' := fun p hp => g.nw' p (h.mem_iff.mpr hp) }⟩
theorem ef_catX {x y : Dt} (ha : EvM b ta A x A1) (hb : EvM b tb A1 y A2) (hx : DAt A2.M x (.lst ds)) (hy : DAt A2.M y (.lst es)) (hl : ds.length + es.length ≤ sizeLine) : EvF b (tOp (rPlus K) ta tb) A (ds ++ es) A2 := fun T σ H c Q k =>
  ha T σ H c _ fun v H1 c1 => hb _ σ H1 c1 _ fun w H2 c2 => .inr (.inr (.inl (by
    obtain ⟨G, c, r1, r2⟩ := c2.top2
    obtain ⟨p, xs, e1, e2, e3⟩ := hx.lst c r2
    obtain ⟨q, ys, f1, f2, f3⟩ := hy.lst c r1
    exact ⟨p, q, xs, ys, e1, f1, e2, f2, by rw [e3.length, f3.length]; exact hl, fun l hl => k _ _ (c.lstM hl (e3.append f3))⟩)))
theorem ev_ixX {x : Dt} {i : Int} (ha : EvM b ta A x A1) (hb : EvM b tb A1 (.int i) A2) (hx : DAt A2.M x (.lst ds)) (h : L2.atI ds i = some d) : EvM b (tOp (rIx K) ta tb) A d A2 := ev_op ha hb fun T σ H v w c Q k => .inl (by
  obtain ⟨G, c, r1, r2⟩ := c.top2
  obtain ⟨p, xs, e1, e2, e3⟩ := hx.lst c r2
  obtain ⟨y, h1, h2⟩ := e3.atI h
  exact ⟨p, xs, i, y, e1, r1.int_inv, SqL.of e2, h1, k _ H (c.out h2)⟩)
theorem atI_map {α β : Type} (g : α → β) {xs : List α} {i : Int} {x : α} (h : L2.atI xs i = some x) : L2.atI (xs.map g) i = some (g x) := by
  unfold L2.atI at h ⊢
  rw [List.length_map]
  cases e : ixN xs.length i with
  | none => simp [e] at h
  | some j => simp [e] at h ⊢; simp [h]
theorem cutG_map {α β : Type} (g : α → β) (xs : List α) (lo hi : Option Int) : cutG (xs.map g) lo hi = (cutG xs lo hi).map g := by
  unfold cutG
  rw [List.length_map, List.map_take, List.map_drop]
theorem cutG_len {α : Type} (xs : List α) (lo hi : Option Int) : (cutG xs lo hi).length ≤ xs.length := by
  unfold cutG
  rw [List.length_take, List.length_drop]
  omega
theorem cutG_mem {α : Type} {xs : List α} {lo hi : Option Int} {x : α} (h : x ∈ cutG xs lo hi) : x ∈ xs := by
  unfold cutG at h
  exact List.mem_of_mem_drop (List.mem_of_mem_take h)
theorem given_mem {n : Nat} {p : Nat → Bool} {g : Nat → Dt} {d : Dt} (h : d ∈ given n p g) : ∃ i, i < n ∧ p i = true ∧ g i = d := by
  unfold given at h
  obtain ⟨i, h1, h2⟩ := List.mem_map.mp h
  obtain ⟨h3, h4⟩ := List.mem_filter.mp h1
  exact ⟨i, List.mem_range.mp h3, h4, h2⟩
theorem mem_given {n i : Nat} {p : Nat → Bool} {g : Nat → Dt} (h1 : i < n) (h2 : p i = true) : g i ∈ given n p g := by
  unfold given
  exact List.mem_map.mpr ⟨i, List.mem_filter.mpr ⟨List.mem_range.mpr h1, h2⟩, rfl⟩
theorem ei_rng1n {n : Nat} {ta : TA} (h : EvA b ta A [.int (n : Int)] A1) (hn : n < 2 ^ 62) : EvI b (iRng1 ta) A n (fun k => .int (0 + (k : Nat))) A1 := by
  have := ei_rng1 h (by omega) (by omega)
  rwa [Int.toNat_natCast] at this
/-! ### arguments that are told by relations -/
def EvAR (b : Bs) (ta : TA) (A : Abs) (R : List Dt → Abs → Prop) : Prop := ∀ T σ H, Conc b A T σ H → ∀ Q : List V → Hp → Prop, (∀ vs ds A' H2, R ds A' → vs.length = ds.length → Conc b A' (vs.zip ds ++ T) σ H2 → Q vs H2) → ta σ H Q
theorem ear_nil {R : List Dt → Abs → Prop} (h : R [] A) : EvAR b tNil A R := fun T σ H c Q k => k [] [] A H h rfl c
theorem ear_cons {R : Dt → Abs → Prop} {R' : List Dt → Abs → Prop} {tr : TA} (h : EvR b ta A R) (k : ∀ d A1, R d A1 → EvAR b tr A1 fun ds A2 => R' (d :: ds) A2) : EvAR b (tCons ta tr) A R' := fun T σ H c Q q =>
  h T σ H c _ fun v d A1 H1 hr c1 => k d A1 hr _ σ H1 c1 _ fun vs ds A2 H2 hr2 hl c2 => q (v :: vs) (d :: ds) A2 H2 hr2 (by simp [hl]) (c2.sub fun p hp => by
    rw [List.zip_cons_cons, List.cons_append] at hp
    rcases List.mem_cons.mp hp with e | h
    · exact List.mem_append_right _ (by rw [e]; exact List.mem_cons_self)
    · rcases List.mem_append.mp h with h | h
      · exact List.mem_append_left _ h
      · exact List.mem_append_right _ (List.mem_cons_of_mem _ h))
theorem ear_m {R' : List Dt → Abs → Prop} {tr : TA} (h : EvM b ta A d A1) (k : EvAR b tr A1 fun ds A2 => R' (d :: ds) A2) : EvAR b (tCons ta tr) A R' := ear_cons (R := fun d' A' => d' = d ∧ A' = A1) (h.r ⟨rfl, rfl⟩) fun d' A' ⟨e1, e2⟩ => by subst e1 e2; exact k
theorem er_tupR {ta : TA} {R : List Dt → Abs → Prop} (h : EvAR b ta A R) (hl : ∀ ds A', R ds A' → ds.length ≤ sizeLine) : EvR b (tTup ta) A fun d A' => ∃ ds, d = .tup ds ∧ R ds A' := fun T σ H c Q k =>
  h T σ H c _ fun vs ds A1 H1 hr hv c1 => by
    obtain ⟨G, g, r⟩ := c1.zip hv
    exact ⟨by rw [r.length]; exact hl ds A1 hr, fun p hp => k _ _ A1 _ ⟨ds, rfl, hr⟩ (g.tup hp r)⟩
theorem ef_lstR {ta : TA} {R : List Dt → Abs → Prop} (h : EvAR b ta A R) (hl : ∀ ds A', R ds A' → ds.length ≤ sizeLine) : EvR b (tLst ta) A fun d A' => ∃ ds, d = .lst ds ∧ R ds A' := fun T σ H c Q k =>
  h T σ H c _ fun vs ds A1 H1 hr hv c1 => by
    obtain ⟨G, g, r⟩ := c1.zip hv
    exact ⟨by rw [r.length]; exact hl ds A1 hr, fun p hp => k _ _ A1 _ ⟨ds, rfl, hr⟩ (g.lst hp r)⟩
/-- xs.append(e), e told by a relation -/
theorem s_appR {l : Addr} {fs : List Dt} {R : Dt → Abs → Prop} (h : EvM b ta A (.obj l) A1) (hm0 : At A1.M l (.d (.lst fs)) (.d (.lst fs)) A1.M) (hx : EvR b tb A1 R)
    (k : ∀ d A2, R d A2 → ∃ ds M', At A2.M l (.d (.lst ds)) (.d (.lst (ds ++ [d]))) M' ∧ ds.length < sizeLine ∧ P.nx ⟨A2.γ, M'⟩) : StA b (tDrop (tBM K "list" rAppend ta (tCons tb tNil))) A P := fun T σ H c D q1 q2 q3 q4 => h T σ H c _ fun v H1 c1 => by
  obtain ⟨G, c, r⟩ := c1.top
  obtain rfl := r.obj_inv
  obtain ⟨xs, e2, e3⟩ := c.lst_at hm0
  refine ⟨.inl ⟨rfl, _, SqL.of e2⟩, hx T σ H1 ⟨G, c⟩ _ fun w d A2 H2 hr c2 => ?_⟩
  obtain ⟨ds, M', hm, hl, hk⟩ := k d A2 hr
  obtain ⟨G, c, r⟩ := c2.top
  obtain ⟨xs, e2, e3⟩ := c.lst_at hm
  exact ⟨l, xs, w, rfl, rfl, e2, by rw [e3.length]; exact hl, q1 _ _ _ hk ⟨G, c.at_ hm ⟨xs ++ [w], upd_same, e3.append (.cons r .nil)⟩⟩⟩
end
end LD
/-! MK: promises of defs that hand out a new list that may be changed. -/
namespace LD
open PySem L2
variable {α : Type}
/-- called with args x (ok x): a new list with res x of its elements, or an error with exc x -/
def SpN (args : α → List Dt) (ok : α → Prop) (res : α → List Dt → Prop) (exc : α → Addr → XF → Prop) : Sp := fun vs H Q E => ∃ x, ok x ∧ SpM (fun ds M => M = [] ∧ ds = args x) (fun _ _ d M' => ∃ p es, d = .obj p ∧ M' = [(p, .d (.lst es))] ∧ res x es) (fun _ => exc x) vs H Q E
section
variable {b : Bs} {A A1 A2 A3 : Abs} {T : Tmp} {σ : St} {H H2 G : Hp} {v : V} {d e z : Dt} {ds es dds : List Dt} {te ta tb tc td ty tv : TE} {t : TA} {K : PySem.W.Frag} {P : Post} {W : WX} {XP : Abs → Addr → XF → Prop} {C : Addr} {nm f m : Str} {vs dvs : List V} {Q : VK} {E : XK}
variable {args : α → List Dt} {ok : α → Prop} {resN : α → List Dt → Prop} {exc : α → Addr → XF → Prop}
theorem SpN.len {n : Nat} (hn : ∀ x, ok x → (args x).length = n) : ∀ vs H Q E, SpN args ok resN exc vs H Q E → vs.length = n := fun vs H Q E ⟨x, hx, h⟩ => SpM.len (fun ds M ⟨_, e⟩ => by rw [e]; exact hn x hx) vs H Q E h
/-- the post: the list at p stands -/
def NewP (res : List Dt → Prop) (d : Dt) (A : Abs) : Prop := ∃ p es, d = .obj p ∧ (p, MO.d (.lst es)) ∈ A.M ∧ res es
theorem SpN.body {N : List Str} {t : TS} (h : SpN args ok resN exc vs H Q E)
    (hb : ∀ x b, ok x → b.mu = [] → WOk b (fun cls d _ H => E cls d H) (fun _ => exc x) →
      StA b t ⟨(args x).map some ++ List.replicate (N.length - (args x).length) none, []⟩ ⟨fun _ => False, fun _ => False, fun _ => False, NewP (resN x)⟩) :
    t { nx := fun _ H' => Q .non H', rt := Q } (L2.start N vs) H := by
  obtain ⟨x, hx, h⟩ := h
  refine h.body (N := N) fun ds M b ⟨hM, hd⟩ hm h0 hw => ?_
  subst hM hd
  exact (hb x b hx (by simpa using hm) hw).mono (fun A h => h.elim) (fun _ h => h) (fun _ h => h) fun d A ⟨p, es, h1, h2, h3⟩ => ⟨[(p, .d (.lst es))], List.singleton_sublist.mpr h2, p, es, h1, rfl, h3⟩
/-! ### calls -/
theorem er_callNw {R : Dt → Abs → Prop} (x : α) (ht : EvA b t A ds A1) (hx : ok x) (hd : ∀ G, RpAll G dvs dds) (he : ds ++ dds = args x) (hr : ∀ p es, resN x es → R (.obj p) ⟨A1.γ, (p, .d (.lst es)) :: A1.M⟩) (hw : WOk b W XP) (hxp : ∀ C o, exc x C o → XP A1 C o) :
    EvR b (tCallSD (SpN args ok resN exc) dvs (WE W) t) A R := fun T σ H c Q q => ht T σ H c _ fun ws H1 hl c1 =>
  ⟨x, hx, er_core c1 hl hd ⟨rfl, he⟩ (R := R) (fun d M' ⟨p, es, h1, h2, h3⟩ => by subst h1 h2; exact hr p es h3) (fun C o dd H2 h c2 ha => hw A1 C o dd T σ H2 (hxp C o h) c2 ha) q⟩
theorem er_methNw {R : Dt → Abs → Prop} {fs : List (Str × Dt)} (x : α) (ho : EvM b ta A (.ins C fs) A1) (hm : fs.lookup m = none) (ht : EvA b t A1 ds A2) (hx : ok x) (hd : ∀ G, RpAll G dvs dds) (he : .ins C fs :: (ds ++ dds) = args x) (hr : ∀ p es, resN x es → R (.obj p) ⟨A2.γ, (p, .d (.lst es)) :: A2.M⟩)
    (hw : WOk b W XP) (hxp : ∀ D o, exc x D o → XP A2 D o) : EvR b (tMethSD C m (SpN args ok resN exc) dvs (WE W) ta t) A R := fun T σ H c Q q => ho T σ H c _ fun u H1 c1 => by
  have w := c1
  obtain ⟨G, g, r⟩ := c1.top
  obtain ⟨a, dx, xs, e1, e2, e3, e4⟩ := r.ins_inv
  refine ⟨a, dx, xs, e1, g.gh _ _ e2, ?_, ht _ σ H1 w _ fun ws H2 hl c2 => ?_⟩
  · rcases look_rp e3 e4 m with h | ⟨_, _, _, h, _⟩
    · exact h.1
    · rw [hm] at h; cases h
  · have c3 : Conc b A2 ((u :: ws).zip (.ins C fs :: ds) ++ T) σ H2 := c2.sub fun p hp => by
      rw [List.zip_cons_cons, List.cons_append] at hp
      rcases List.mem_cons.mp hp with e | h
      · exact List.mem_append_right _ (by rw [e]; exact List.mem_cons_self)
      · rcases List.mem_append.mp h with h | h
        · exact List.mem_append_left _ h
        · exact List.mem_append_right _ (List.mem_cons_of_mem _ h)
    exact ⟨x, hx, er_core (ds := .ins C fs :: ds) (ws := u :: ws) c3 (by simp [hl]) hd ⟨rfl, he⟩ (R := R) (fun d M' ⟨p, es, h1, h2, h3⟩ => by subst h1 h2; exact hr p es h3) (fun D o dd H3 h c4 ha => hw A2 D o dd T σ H3 (hxp D o h) c4 ha) q⟩
end
end LD
/-! MN: a comprehension with two for. -/
namespace LD
open PySem L2
section
variable {b : Bs} {A A1 : Abs} {n : Nat} {f : Nat → Dt} {wi wi1 : TI} {te : TE}
def given2 (n : Nat) (m : Nat → Nat) (p : Nat → Nat → Bool) (g : Nat → Nat → Dt) : List Dt := (List.range n).flatMap fun i => given (m i) (p i) (g i)
theorem given2_succ (n : Nat) (m : Nat → Nat) (p : Nat → Nat → Bool) (g : Nat → Nat → Dt) : given2 (n + 1) m p g = given2 n m p g ++ given (m n) (p n) (g n) := by
  unfold given2
  rw [List.range_succ, List.flatMap_append]
  simp
theorem ef_lc2 {vs vs1 : List Nat} {k k1 : Nat} {tt1 : TT} (m : Nat → Nat) (f1 : Nat → Nat → Dt) (p : Nat → Nat → Bool) (g : Nat → Nat → Dt) (hi : EvI b wi A n f A1) (hk : k ∈ vs) (hk1 : k1 ∈ vs1)
    (hN : ∀ i j, i < n → j < m i → (given2 i m p g).length + j < sizeLine)
    (hi1 : ∀ i M, i < n → EvI b wi1 ⟨(wipeD A1.γ vs).set k (some (f i)), M :: A1.M⟩ (m i) (f1 i) ⟨(wipeD A1.γ vs).set k (some (f i)), M :: A1.M⟩)
    (ht : ∀ i j M, i < n → j < m i → EvT b tt1 ⟨(wipeD ((wipeD A1.γ vs).set k (some (f i))) vs1).set k1 (some (f1 i j)), M :: A1.M⟩ (p i j) ⟨(wipeD ((wipeD A1.γ vs).set k (some (f i))) vs1).set k1 (some (f1 i j)), M :: A1.M⟩)
    (he : ∀ i j M, i < n → j < m i → p i j = true → EvM b te ⟨(wipeD ((wipeD A1.γ vs).set k (some (f i))) vs1).set k1 (some (f1 i j)), M :: A1.M⟩ (g i j) ⟨(wipeD ((wipeD A1.γ vs).set k (some (f i))) vs1).set k1 (some (f1 i j)), M :: A1.M⟩) :
    EvF b (tLc2 wi (gName k) tYes wi1 (gName k1) tt1 te vs vs1) A (given2 n m p g) A1 := fun T σ H c Q q => hi T σ H c _ fun J T0 H1 c1 sv => by
  intro D hD
  refine ⟨fun i r H' => r = n - i ∧ i ≤ n ∧ Conc b ⟨A1.γ, (D, .d (.lst (given2 i m p g))) :: A1.M⟩ (T0 ++ T) σ H', ⟨n - 0, rfl, Nat.zero_le _, ?_⟩, ?_⟩
  · obtain ⟨G, c⟩ := c1
    exact ⟨G, (c.newM (o := .lst []) (m := .lst (given2 0 m p g)) hD ⟨[], upd_same, .nil⟩).1⟩
  · rintro i r H' ⟨rfl, hi', cA⟩
    by_cases hlt : i < n
    · obtain ⟨go, yld⟩ := (sv i _ T σ H' cA).2 hlt
      refine .inr ⟨go, fun H2 => Conc b ⟨A1.γ, (D, .d (.lst (given2 (i + 1) m p g))) :: A1.M⟩ (T0 ++ T) σ H2, fun H2 h => ⟨n - (i + 1), by omega, rfl, hlt, h⟩, fun x H2 hy => ?_⟩
      have c2 := yld x H2 hy
      refine ⟨wipe_set hk, iteT (B := Conc b ⟨A1.γ, (D, .d (.lst (given2 (i + 1) m p g))) :: A1.M⟩ (T0 ++ T) σ H2) ?_⟩
      obtain ⟨G2, g2⟩ := c2
      have sl := g2.sl
      have g3 : ConcG b ⟨(wipeD A1.γ vs).set k (some (f i)), (D, .d (.lst (given2 i m p g))) :: A1.M⟩ (slT σ A1.γ ++ (T0 ++ T)) ((wipe σ vs).set k (some x)) H2 G2 :=
        { g2 with sl := (sl.wipe vs).set (g2.tm (x, f i) List.mem_cons_self) k, tm := fun q hq => (List.mem_append.mp hq).elim (sl.slT q) fun h => g2.tm q (List.mem_cons_of_mem _ h) }
      refine hi1 i _ hlt _ _ H2 ⟨G2, g3⟩ _ fun J1 T1 H4 c4 sv1 => ?_
      refine ⟨fun j r H' => r = m i - j ∧ j ≤ m i ∧ Conc b ⟨(wipeD A1.γ vs).set k (some (f i)), (D, .d (.lst (given2 i m p g ++ given j (p i) (g i)))) :: A1.M⟩ (T1 ++ (slT σ A1.γ ++ (T0 ++ T))) ((wipe σ vs).set k (some x)) H', ⟨m i - 0, rfl, Nat.zero_le _, ?_⟩, ?_⟩
      · rw [show given 0 (p i) (g i) = [] from rfl, List.append_nil]
        exact c4
      · rintro j r H5 ⟨rfl, hj', cB⟩
        by_cases hjl : j < m i
        · obtain ⟨go1, yld1⟩ := (sv1 j _ _ _ H5 cB).2 hjl
          refine .inr ⟨go1, fun H6 => Conc b ⟨(wipeD A1.γ vs).set k (some (f i)), (D, .d (.lst (given2 i m p g ++ given (j + 1) (p i) (g i)))) :: A1.M⟩ (T1 ++ (slT σ A1.γ ++ (T0 ++ T))) ((wipe σ vs).set k (some x)) H6, fun H6 h => ⟨m i - (j + 1), by omega, rfl, hjl, h⟩, fun x1 H6 hy1 => ?_⟩
          have c6 := yld1 x1 H6 hy1
          refine ⟨wipe_set hk1, ?_⟩
          obtain ⟨G6, g6⟩ := c6
          have sl6 := g6.sl
          obtain ⟨γ1, hγ1⟩ : ∃ γ1, γ1 = (wipeD A1.γ vs).set k (some (f i)) := ⟨_, rfl⟩
          obtain ⟨σ1, hσ1⟩ : ∃ σ1, σ1 = (wipe σ vs).set k (some x) := ⟨_, rfl⟩
          have ht' := ht i j
          have he' := he i j
          rw [← hγ1] at g6 sl6 ht' he' ⊢
          rw [← hσ1] at g6 sl6 ⊢
          have g7 : ConcG b ⟨(wipeD γ1 vs1).set k1 (some (f1 i j)), (D, .d (.lst (given2 i m p g ++ given j (p i) (g i)))) :: A1.M⟩ (slT σ1 γ1 ++ (T1 ++ (slT σ A1.γ ++ (T0 ++ T)))) ((wipe σ1 vs1).set k1 (some x1)) H6 G6 :=
            { g6 with sl := (sl6.wipe vs1).set (g6.tm (x1, f1 i j) List.mem_cons_self) k1, tm := fun q hq => (List.mem_append.mp hq).elim (sl6.slT q) fun h => g6.tm q (List.mem_cons_of_mem _ h) }
          have back : ∀ {mo : MO} {H3 : Hp}, Conc b ⟨(wipeD γ1 vs1).set k1 (some (f1 i j)), (D, mo) :: A1.M⟩ (slT σ1 γ1 ++ (T1 ++ (slT σ A1.γ ++ (T0 ++ T)))) ((wipe σ1 vs1).set k1 (some x1)) H3 → Conc b ⟨γ1, (D, mo) :: A1.M⟩ (T1 ++ (slT σ A1.γ ++ (T0 ++ T))) σ1 H3 := fun ⟨G3, c3⟩ =>
            ⟨G3, { c3 with sl := sl6.back fun q hq => c3.tm q (List.mem_append_left _ hq), tm := fun q hq => c3.tm q (List.mem_append_right _ hq) }⟩
          refine ht' _ hlt hjl _ _ H6 ⟨G6, g7⟩ _ fun H7 c7 => ?_
          cases hp : p i j with
          | true =>
            refine iteT (he' _ hlt hjl hp _ _ H7 c7 _ fun y H8 c8 => ?_)
            obtain ⟨G8, g8, r8⟩ := c8.top
            obtain ⟨acc, h1, h2⟩ := g8.lst_at (m' := .d (.lst (given2 i m p g ++ given (j + 1) (p i) (g i)))) .here
            refine ⟨acc, h1, ?_, back ?_⟩
            · rw [h2.length, List.length_append]
              have := hN i j hlt hjl
              have := given_length j (p i) (g i)
              omega
            · refine ⟨G8, g8.at_ (m' := .lst (given2 i m p g ++ given (j + 1) (p i) (g i))) .here ⟨acc ++ [y], upd_same, ?_⟩⟩
              rw [given_succ, if_pos hp, ← List.append_assoc]
              exact h2.append (.cons r8 .nil)
          | false =>
            refine iteF ?_
            have c9 := back c7
            rw [show given (j + 1) (p i) (g i) = given j (p i) (g i) by rw [given_succ, hp]; simp]
            exact c9
        · have e : j = m i := by omega
          subst e
          refine .inl ⟨(sv1 _ _ _ _ H5 cB).1 (Nat.le_refl _), ?_⟩
          obtain ⟨G5, g5⟩ := cB
          show Conc b ⟨A1.γ, (D, .d (.lst (given2 (i + 1) m p g))) :: A1.M⟩ (T0 ++ T) σ H5
          rw [given2_succ]
          exact ⟨G5, { g5 with sl := sl.back fun q hq => g5.tm q (List.mem_append_right _ (List.mem_append_left _ hq)), tm := fun q hq => g5.tm q (List.mem_append_right _ (List.mem_append_right _ hq)) }⟩
    · have e : i = n := by omega
      subst e
      exact .inl ⟨(sv i _ T σ H' cA).1 (Nat.le_refl _), by
        obtain ⟨G, c⟩ := cA
        exact q D _ ((c.out (.obj D)).sub fun p hp => by
          rcases List.mem_cons.mp hp with e | h
          · rw [e]; exact List.mem_cons_self
          · exact List.mem_cons_of_mem _ (List.mem_append_right _ h))⟩
end
end LD
/-! MO: a changing list handed to a def that only reads it. -/
namespace LD
open PySem L2
variable {α : Type}
section
variable {b : Bs} {A A1 : Abs} {es : List Dt} {ta : TE} {W : WX} {p : Addr} {r : Bool}
variable {args : α → List Dt} {ok : α → Prop} {resP : α → Dt → Prop} {exc : α → Addr → XF → Prop}
/-- f(e), e a changing list, f a def that is promised for data and answers a bool -/
theorem ev_callV (x : α) (ht : EvM b ta A (.obj p) A1) (hm : (p, MO.d (.lst es)) ∈ A1.M) (hx : ok x) (he : [.lst es] = args x) (hr : ∀ d', resP x d' → d' = .bl r) (hxp : ∀ C o, ¬ exc x C o) :
    EvM b (tCallSD (SpP args ok resP exc) [] (WE W) (tCons ta tNil)) A (.bl r) A1 := fun T σ H c Q q => ht T σ H c _ fun v H1 c1 => by
  obtain ⟨G, g, rv⟩ := c1.top
  have ev := rv.obj_inv
  subst ev
  obtain ⟨hG, xs, h1, h2⟩ := g.mo _ hm
  have e1 : Ex G (upd G p (.lst xs)) := fun a o h => by
    by_cases e : a = p
    · subst e
      rw [hG] at h
      cases h
    · rw [upd_ne e]; exact h
  refine ⟨x, hx, upd G p (.lst xs), [.lst es], [], fun a o h => ?_, .cons (.lst upd_same (h2.mono e1)) .nil, fun _ hp => (by cases hp), List.nodup_nil, ⟨rfl, he⟩, fun v d M' G2 H2 ⟨_, hres⟩ _ _ _ kp rv' _ _ _ => ?_, fun C o dd H2 h => absurd h (hxp C o)⟩
  · by_cases e : a = p
    · subst e
      rw [upd_same] at h
      rw [h1, ← h]
    · rw [upd_ne e] at h
      exact g.gh _ _ h
  · have ed := hr d hres
    subst ed
    rw [rv'.bl_inv]
    exact q _ _ ((show ConcG b A1 T σ H2 G from keep_conc g kp).out (.bl _))
end
end LD
/-! MP: assignments of calls that hand out new lists; isinstance of a changing list. -/
namespace LD
open PySem L2
variable {α : Type}
section
variable {b : Bs} {A A1 A2 : Abs} {ds es dds : List Dt} {ta tb : TE} {t : TA} {W : WX} {p : Addr} {r : Bool} {K : PySem.W.Frag} {P : Post} {XP : Abs → Addr → XF → Prop} {C : Addr} {m : Str} {dvs : List V} {e : Dt}
variable {args : α → List Dt} {ok : α → Prop} {resP : α → Dt → Prop} {resN : α → List Dt → Prop} {exc : α → Addr → XF → Prop}
theorem s_callNw {n : Nat} (x : α) (ht : EvA b t A ds A1) (hx : ok x) (hd : ∀ G, RpAll G dvs dds) (he : ds ++ dds = args x) (hw : WOk b W XP) (hxp : ∀ C o, exc x C o → XP A1 C o)
    (k : ∀ p es, resN x es → P.nx ⟨A1.γ.set n (some (.obj p)), (p, .d (.lst es)) :: A1.M⟩) : StA b (tAsg (tCallSD (SpN args ok resN exc) dvs (WE W) t) (gName n)) A P :=
  s_asgR (R := fun d A' => ∃ p es, d = .obj p ∧ A' = ⟨A1.γ, (p, .d (.lst es)) :: A1.M⟩ ∧ resN x es) (er_callNw x ht hx hd he (fun p es h => ⟨p, es, rfl, rfl, h⟩) hw hxp) fun d A' ⟨p, es, h1, h2, h3⟩ => by subst h1 h2; exact k p es h3
theorem s_methNw {n : Nat} {fs : List (Str × Dt)} (x : α) (ho : EvM b ta A (.ins C fs) A1) (hm : fs.lookup m = none) (ht : EvA b t A1 ds A2) (hx : ok x) (hd : ∀ G, RpAll G dvs dds) (he : .ins C fs :: (ds ++ dds) = args x) (hw : WOk b W XP) (hxp : ∀ D o, exc x D o → XP A2 D o)
    (k : ∀ p es, resN x es → P.nx ⟨A2.γ.set n (some (.obj p)), (p, .d (.lst es)) :: A2.M⟩) : StA b (tAsg (tMethSD C m (SpN args ok resN exc) dvs (WE W) ta t) (gName n)) A P :=
  s_asgR (R := fun d A' => ∃ p es, d = .obj p ∧ A' = ⟨A2.γ, (p, .d (.lst es)) :: A2.M⟩ ∧ resN x es) (er_methNw x ho hm ht hx hd he (fun p es h => ⟨p, es, rfl, rfl, h⟩) hw hxp) fun d A' ⟨p, es, h1, h2, h3⟩ => by subst h1 h2; exact k p es h3
/-- isinstance of a changing list -/
theorem ev_isiM {u : Value} (ha : EvM b ta A (.obj p) A1) (hb : EvM b tb A1 e A2) (hm : (p, MO.d (.lst es)) ∈ A2.M) (hu : ClsD e u) (hk : PySem.W.kitOne K (.type "list") u = some r) : EvM b (tCB (rIsi K) (tCons ta (tCons tb tNil))) A (.bl r) A2 := fun T σ H c Q k =>
  ha T σ H c _ fun v H1 c1 => hb _ σ H1 c1 _ fun w H2 c2 => by
    obtain ⟨G, g, r1, r2⟩ := c2.top2
    obtain ⟨_, xs, h1, _⟩ := g.mo _ hm
    have ev := r2.obj_inv
    subst ev
    exact ⟨_, w, .type "list", u, r, rfl, hu.cls r1, .base (.lst h1), hk, k _ _ (g.out (.bl _))⟩
end
theorem cut_mid {z w : Str} {u v : List Nat} {i : Int} (h : z.cps.toList = u ++ w.cps.toList ++ v) (hi : (u.length : Int) = i) : cutS z (some i) (some (i + (w.length : Int))) = w := by
  have hw : w.length = w.cps.toList.length := by show w.cps.size = _; rw [Array.length_toList]
  have hz : z.length = u.length + w.length + v.length := by
    show z.cps.size = _
    rw [← Array.length_toList, h, List.length_append, List.length_append, hw]
  unfold cutS
  have e1 : i + (w.length : Int) = ((u.length + w.length : Nat) : Int) := by omega
  rw [e1, ← hi, HT.sIx_nat, HT.sIx_nat, hz, Nat.min_eq_left (by omega), Nat.min_eq_left (by omega), h, show u.length + w.length - u.length = w.length by omega, List.append_assoc, List.drop_left, hw, List.take_left]
end LD
/-! MQ: own errors without fields, chains of three comparisons, lists told by their elements, in. -/
namespace LX
open PySem PySem.Spec PyProof.Rows L2
/-- an own error without __init__, over ValueError -/
structure ErrN (K : PySem.W.Frag) (mg : Str → Option Value) (cn : Str) (C : Addr) : Prop where
  gC : mg cn = some (.ref C)
  kC : PySem.W.keepIn K (.ref C) = true
  xC : PySem.W.excIn K C [.type "ValueError", .type "Exception", .type "BaseException", .type "object"] "ValueError.__new__" = true
  bC : PySem.W.subIn K (.ref C) (.type "BaseException") = some true
  tC : PySem.W.typeIn K (.ref C) = some (.type "type")
/-- raise C('..') -/
def tRaiseN (C : Addr) (W : WX) : TS := fun _ σ H => W (.ref C) none σ H
theorem ps_raiseN {X : Cx} {C : Addr} {W : WX} {x m : Str} {j : Nat} {p p2 pos pos2 : Pos} (hc : X.calm = true) (T : ErrN X.K X.mg x C) (tk : Takes X W) (hg : Gl X x) (hdb : (x == ("__debug__" : Str)) = false := by decide) :
    PS X (.Raise (some (.Call (.Name x p) [.Constant (.str m) j p2] [] pos)) none pos2) (tRaiseN C W) := ps_raise hc tk (pmk_own PySem.F.excBase_ValueError T.xC T.gC T.kC (raises_own T.bC T.tC) hg hdb)
/-- a op1 b op2 c op3 d, as a test -/
def tChain3 (r r' r'' : R2) (ta tb tc td : TE) : TT := fun σ H Q => ta σ H fun x H1 => tb σ H1 fun y H2 => r x y H2 fun z H3 => ∃ k, z = .bl k ∧
  (if k = true then tc σ H3 fun u H4 => r' y u H4 fun z2 H5 => ∃ k2, z2 = .bl k2 ∧ (if k2 = true then td σ H5 fun v H6 => r'' u v H6 fun z3 H7 => ∃ k3, z3 = .bl k3 ∧ Q k3 H7 else Q false H5) else Q false H3)
theorem pt_chain3 {X : Cx} {a b c d : Expr} {ta tb tc td : TE} {pos : Pos} {op op' op'' : CmpOp} {r r' r'' : R2} (ho : OpR X (compareOp op) r) (ho' : OpR X (compareOp op') r') (ho'' : OpR X (compareOp op'') r'') (ha : PE X a ta) (hb : PE X b tb) (hc : PE X c tc) (hd : PE X d td)
    (hm : lastMarks [op, op', op''] [b, c, d] = false := by with_unfolding_all rfl) : PT X (.Compare a [op, op', op''] [b, c, d] pos) (tChain3 r r' r'' ta tb tc td) := by
  refine ⟨fun pins s σ H Q I h => ?_⟩
  refine isTrue_chain (thn (ha.run pins s σ H _ I h) fun v s1 ⟨x, H1, I1, r1, q1⟩ => test_link (thn (hb.run pins s1 σ H1 _ I1 q1) fun u s2 ⟨y, H2, I2, r2, q2⟩ =>
    thn (ho pins s2 σ H2 x y v u _ I2 r1 r2 q2) fun e s3 ⟨z, H3, I3, r3, k, ez, q3⟩ => ?_)) hm
  subst ez
  cases r3
  refine wpAny_truthy_bool ?_
  cases k with
  | false => exact ite_ff ⟨H3, I3, q3⟩
  | true =>
    refine ite_tt (test_link (thn (hc.run pins s3 σ H3 _ I3 q3) fun w' s4 ⟨z', H4, I4, r4, q4⟩ => thn (ho' pins s4 σ H4 y z' u w' _ I4 r2 r4 q4) fun d' s5 ⟨z2, H5, I5, r5, k2, e2, q5⟩ => ?_))
    subst e2
    cases r5
    refine wpAny_truthy_bool ?_
    cases k2 with
    | false => exact ite_ff ⟨H5, I5, q5⟩
    | true =>
      refine ite_tt (test_last (thn (hd.run pins s5 σ H5 _ I5 q5) fun w2 s6 ⟨z3, H6, I6, r6, q6⟩ => thn (ho'' pins s6 σ H6 z' z3 w' w2 _ I6 r4 r6 q6) fun d'' s7 ⟨z4, H7, I7, r7, k3, e3, q7⟩ => ?_))
      subst e3
      cases r7
      exact wpAny_truthy_bool ⟨H7, I7, q7⟩
/-- in, not in, over data -/
def rInL (K : PySem.W.Frag) : R2 := fun x y H Q => LD.rInA K x y H Q ∨ rInD K x y H Q
def rNotInL (K : PySem.W.Frag) : R2 := fun x y H Q => LD.rNotInA K x y H Q ∨ rNotInD K x y H Q
theorem op_inL {X : Cx} (hu : X.A.units + 65 < cLine) : OpR X (compareOp .In) (rInL X.K) := OpR.or LD.op_inA (op_inD hu)
theorem op_notInL {X : Cx} (hu : X.A.units + 65 < cLine) : OpR X (compareOp .NotIn) (rNotInL X.K) := OpR.or LD.op_notInA (op_notInD hu)
end LX
namespace LD
open PySem L2
section
variable {b : Bs} {A A1 A2 A3 : Abs} {T : Tmp} {σ : St} {H H2 G : Hp} {v : V} {d e z : Dt} {ds es : List Dt} {te ta tb tc td : TE} {i j l k : Int} {K : PySem.W.Frag} {P : Post} {W : WX} {XP : Abs → Addr → XF → Prop} {C : Addr} {c1 c2 c3 : Bool}
theorem s_raiseN (hw : WOk b W XP) (hx : XP A C none) : StA b (LX.tRaiseN C W) A P := fun T σ H c D _ _ _ _ => hw A C none none T σ H hx c rfl
theorem et_chain3 {r r' r'' : R2} (ha : EvM b ta A (.int i) A1) (hb : EvM b tb A1 (.int j) A1) (hr : RVd b r A1 (.int i) (.int j) (.bl c1) A1) (hc : c1 = true → EvM b tc A1 (.int k) A1) (hr' : c1 = true → RVd b r' A1 (.int j) (.int k) (.bl c2) A1)
    (hd : c1 = true → c2 = true → EvM b td A1 (.int l) A1) (hr'' : c1 = true → c2 = true → RVd b r'' A1 (.int k) (.int l) (.bl c3) A1) : EvT b (LX.tChain3 r r' r'' ta tb tc td) A (c1 && (c2 && c3)) A1 := fun T σ H c Q q => ha T σ H c _ fun v H1 g1 => hb _ σ H1 g1 _ fun w H2 g2 => by
  have g2' : Conc b A1 ((w, .int j) :: (v, .int i) :: (w, .int j) :: T) σ H2 := g2.sub fun p hp => by
    simp only [List.mem_cons] at hp ⊢
    rcases hp with h | h | h | h
    · exact .inl h
    · exact .inr (.inl h)
    · exact .inl h
    · exact .inr (.inr h)
  refine hr _ σ H2 v w g2' _ fun u H3 g3 => ?_
  obtain ⟨G3, g3', ru⟩ := g3.top
  refine ⟨c1, ru.bl_inv, ?_⟩
  cases c1 with
  | false => rw [if_neg (by simp)]; exact q H3 (Conc.pop (p := (w, .int j)) ⟨G3, g3'⟩)
  | true =>
    rw [if_pos rfl]
    refine hc rfl _ σ H3 ⟨G3, g3'⟩ _ fun x H4 g4 => ?_
    have g4' : Conc b A1 ((x, .int k) :: (w, .int j) :: (x, .int k) :: T) σ H4 := g4.sub fun p hp => by
      simp only [List.mem_cons] at hp ⊢
      rcases hp with h | h | h | h
      · exact .inl h
      · exact .inr (.inl h)
      · exact .inl h
      · exact .inr (.inr h)
    refine hr' rfl _ σ H4 w x g4' _ fun u2 H5 g5 => ?_
    obtain ⟨G5, g5', ru2⟩ := g5.top
    refine ⟨c2, ru2.bl_inv, ?_⟩
    cases c2 with
    | false => rw [if_neg (by simp)]; exact q H5 (Conc.pop (p := (x, .int k)) ⟨G5, g5'⟩)
    | true =>
      rw [if_pos rfl]
      refine hd rfl rfl _ σ H5 ⟨G5, g5'⟩ _ fun y H6 g6 => ?_
      refine hr'' rfl rfl _ σ H6 x y g6 _ fun u3 H7 g7 => ?_
      obtain ⟨G7, g7', ru3⟩ := g7.top
      exact ⟨c3, ru3.bl_inv, q H7 ⟨G7, g7'⟩⟩
theorem rv_lt : RVd b (rI0 fun i j => .bl (decide (i < j))) A (.int i) (.int j) (.bl (decide (i < j))) A := rv_I0 fun _ => .bl _
theorem rv_le : RVd b (rI0 fun i j => .bl (decide (i ≤ j))) A (.int i) (.int j) (.bl (decide (i ≤ j))) A := rv_I0 fun _ => .bl _
/-- tuples, one behind the other -/
theorem ev_catT (ha : EvM b ta A (.tup ds) A1) (hb : EvM b tb A1 (.tup es) A2) (hl : ds.length + es.length ≤ sizeLine) : EvM b (tOp (rPlus K) ta tb) A (.tup (ds ++ es)) A2 :=
  ev_op ha hb fun T σ H v w c Q k => .inr (.inr (.inr (by
    obtain ⟨G, g, r1, r2⟩ := c.top2
    obtain ⟨p, xs, e1, e2, e3⟩ := r2.tup_inv
    obtain ⟨q, ys, f1, f2, f3⟩ := r1.tup_inv
    refine ⟨p, q, xs, ys, e1, f1, SqT.of (g.gh _ _ e2), SqT.of (g.gh _ _ f2), by rw [e3.length, f3.length]; exact hl, fun h => ?_, fun _ h => ?_, fun _ _ l hl => k _ _ (g.tup hl (e3.append f3))⟩
    · have hd : ds = [] := List.eq_nil_of_length_eq_zero (by rw [← e3.length, h]; rfl)
      rw [← f1]
      exact k _ _ (g.out (by rw [hd, List.nil_append]; exact r1))
    · have hd : es = [] := List.eq_nil_of_length_eq_zero (by rw [← f3.length, h]; rfl)
      rw [← e1]
      exact k _ _ (g.out (by rw [hd, List.append_nil]; exact r2)))))
theorem any_py (ds : List Dt) (d : Dt) : (toPys ds).any (fun z => PyData.eqv z (toPy d)) = ds.any fun y => eqD y d := by
  induction ds with
  | nil => rfl
  | cons y ys ih => rw [toPys, List.any_cons, List.any_cons, ih]; rfl
theorem ints_rp : ∀ {xs : List V} {ns : List Int}, RpAll G xs (ns.map Dt.int) → xs = ns.map V.int
  | [], [], _ => rfl
  | _ :: _, _ :: _, .cons h r => by rw [List.map_cons, h.int_inv, ints_rp r]
/-- x in xs, data -/
theorem ev_inD (n : Nat) (ha : EvM b ta A d A1) (hb : EvM b tb A1 e A2) (hx : DAt A2.M e (.lst ds)) (h1 : eqOk n d = true) (h2 : eqOk (n + 1) (.lst ds) = true) (hn : n + 1 ≤ 64) : EvM b (tOp (LX.rInL K) ta tb) A (.bl (ds.any fun y => eqD y d)) A2 := ev_op ha hb fun T σ H v w c Q k => .inr (by
  obtain ⟨G, c, r1, r2⟩ := c.top2
  have e0 := any_py ds d
  have := dp_at (K := K) c hx r1 h2
  rw [toPy] at this
  have sh := shaped_of h2 hn
  rw [toPy] at sh
  exact ⟨toPy d, toPys ds, dp_of c.gh n h1 r2, this, shaped_of h1 (by omega), sh, by rw [e0]; exact k _ H (c.out (.bl _))⟩)
theorem ev_notInD (n : Nat) (ha : EvM b ta A d A1) (hb : EvM b tb A1 e A2) (hx : DAt A2.M e (.lst ds)) (h1 : eqOk n d = true) (h2 : eqOk (n + 1) (.lst ds) = true) (hn : n + 1 ≤ 64) : EvM b (tOp (LX.rNotInL K) ta tb) A (.bl (!ds.any fun y => eqD y d)) A2 := ev_op ha hb fun T σ H v w c Q k => .inr (by
  obtain ⟨G, c, r1, r2⟩ := c.top2
  have e0 := any_py ds d
  have := dp_at (K := K) c hx r1 h2
  rw [toPy] at this
  have sh := shaped_of h2 hn
  rw [toPy] at sh
  exact ⟨toPy d, toPys ds, dp_of c.gh n h1 r2, this, shaped_of h1 (by omega), sh, by rw [e0]; exact k _ H (c.out (.bl _))⟩)
/-- k in (1, 3, ..): a tuple of ints made here -/
theorem ev_inT {ns : List Int} (ha : EvM b ta A (.int i) A1) (hb : EvM b tb A1 (.tup (ns.map Dt.int)) A2) : EvM b (tOp (rInA K) ta tb) A (.bl (inV (.int i) (ns.map V.int))) A2 := ev_op ha hb fun T σ H v w c Q k => .inr (by
  obtain ⟨G, c, r1, r2⟩ := c.top2
  obtain ⟨p, xs, e1, e2, e3⟩ := r1.tup_inv
  have hx := ints_rp e3
  subst hx
  rw [r2.int_inv]
  exact ⟨p, _, e1, .inr (SqT.of (c.gh _ _ e2)), rfl, by rw [List.all_map]; exact List.all_eq_true.mpr fun _ _ => rfl, k _ _ (c.out (.bl _))⟩)
/-! ### lists told by their elements -/
section
variable {α : Type} {xs : List α} {f : α → Dt} {g : TG} {tb : TS} {wi : TI}
theorem s_forL (I : Nat → Abs → Prop) (hi : EvI b wi A (xs.map f).length (fun i => (xs.map f).getD i .non) A1) (h0 : Up (I 0) A1)
    (hs : ∀ i x A', xs[i]? = some x → I i A' → ∃ A2, GA b g (f x) A' A2 ∧ StA b tb A2 ⟨Up (I (i + 1)), P.nx, Up (I (i + 1)), P.rt⟩) (hd : ∀ A', I xs.length A' → P.nx A') : StA b (tFor wi g tb) A P :=
  s_for I hi h0 (fun i A' hn hI => by
    rw [List.length_map] at hn
    have hx : xs[i]? = some xs[i] := List.getElem?_eq_getElem hn
    have : (xs.map f).getD i .non = f xs[i] := by simp [List.getD, List.getElem?_map, hx]
    rw [this]
    exact hs i _ A' hx hI) (fun A' h => hd A' (by rw [List.length_map] at h; exact h))
theorem s_forE (I : Nat → Abs → Prop) (hi : EvI b wi A (xs.map f).length (fun i => .tup [.int (i : Nat), (xs.map f).getD i .non]) A1) (h0 : Up (I 0) A1)
    (hs : ∀ i x A', xs[i]? = some x → I i A' → ∃ A2, GA b g (.tup [.int (i : Nat), f x]) A' A2 ∧ StA b tb A2 ⟨Up (I (i + 1)), P.nx, Up (I (i + 1)), P.rt⟩) (hd : ∀ A', I xs.length A' → P.nx A') : StA b (tFor wi g tb) A P :=
  s_for I hi h0 (fun i A' hn hI => by
    rw [List.length_map] at hn
    have hx : xs[i]? = some xs[i] := List.getElem?_eq_getElem hn
    have : (xs.map f).getD i .non = f xs[i] := by simp [List.getD, List.getElem?_map, hx]
    rw [this]
    exact hs i _ A' hx hI) (fun A' h => hd A' (by rw [List.length_map] at h; exact h))
theorem given_list {xs : List α} (p : α → Bool) (g : α → Dt) (d0 : α) : given xs.length (fun i => p (xs.getD i d0)) (fun i => g (xs.getD i d0)) = (xs.filter p).map g := by
  have key : ∀ n, n ≤ xs.length → given n (fun i => p (xs.getD i d0)) (fun i => g (xs.getD i d0)) = ((xs.take n).filter p).map g := by
    intro n
    induction n with
    | zero => intro _; rfl
    | succ n ih =>
      intro hn
      have hx : xs[n]? = some xs[n] := List.getElem?_eq_getElem (by omega)
      have e : xs.getD n d0 = xs[n] := by simp [List.getD, hx]
      have e2 : xs.take (n + 1) = xs.take n ++ [xs[n]] := by rw [List.take_succ, hx]; rfl
      rw [given_succ, ih (by omega), e2, List.filter_append, List.map_append, e]
      cases hp : p xs[n]
      · rw [if_neg (by simp), show [xs[n]].filter p = [] by simp [hp]]; simp
      · rw [if_pos rfl, show [xs[n]].filter p = [xs[n]] by simp [hp]]; rfl
  have := key xs.length (Nat.le_refl _)
  rwa [List.take_length] at this
/-- [e for x in xs if t], xs told by its elements -/
theorem ef_lcL {vs : List Nat} {k : Nat} {tt : TT} {te : TE} (p : α → Bool) (g : α → Dt) (hi : EvI b wi A (xs.map f).length (fun i => (xs.map f).getD i .non) A1) (hk : k ∈ vs) (hn : xs.length < sizeLine)
    (ht : ∀ x M, x ∈ xs → EvT b tt ⟨(wipeD A1.γ vs).set k (some (f x)), M :: A1.M⟩ (p x) ⟨(wipeD A1.γ vs).set k (some (f x)), M :: A1.M⟩)
    (he : ∀ x M, x ∈ xs → p x = true → EvM b te ⟨(wipeD A1.γ vs).set k (some (f x)), M :: A1.M⟩ (g x) ⟨(wipeD A1.γ vs).set k (some (f x)), M :: A1.M⟩) :
    EvF b (tLc wi (gName k) tt te vs) A ((xs.filter p).map g) A1 := by
  by_cases h0 : xs = []
  · subst h0
    exact ef_lc (fun _ => true) (fun _ => .non) hi hk (by rw [List.length_map]; exact hn) (fun i M hi => absurd hi (by simp)) (fun i M hi _ => absurd hi (by simp))
  · obtain ⟨d0, hd0⟩ : ∃ d0, xs.head? = some d0 := by
      cases xs with
      | nil => exact absurd rfl h0
      | cons x xs => exact ⟨x, rfl⟩
    rw [← given_list p g d0, ← List.length_map (f := f)]
    have hx : ∀ i, i < (xs.map f).length → xs[i]? = some (xs.getD i d0) ∧ (xs.map f).getD i .non = f (xs.getD i d0) ∧ xs.getD i d0 ∈ xs := fun i hi => by
      rw [List.length_map] at hi
      have h : xs[i]? = some xs[i] := List.getElem?_eq_getElem hi
      refine ⟨by simp [List.getD, h], by simp [List.getD, List.getElem?_map, h], ?_⟩
      have : xs.getD i d0 = xs[i] := by simp [List.getD, h]
      rw [this]; exact List.getElem_mem hi
    refine ef_lc (fun i => p (xs.getD i d0)) (fun i => g (xs.getD i d0)) hi hk (by rw [List.length_map]; exact hn) (fun i M hi => ?_) (fun i M hi hp => ?_)
    · obtain ⟨_, e, m⟩ := hx i hi
      rw [e]; exact ht _ M m
    · obtain ⟨_, e, m⟩ := hx i hi
      rw [e]; exact he _ M m hp
end
end
theorem atI_mapN {α : Type} (f : α → Dt) {xs : List α} {i : Nat} {x : α} (h : xs[i]? = some x) : L2.atI (xs.map f) (i : Int) = some (f x) := atI_nat (by rw [List.getElem?_map, h]; rfl)
theorem atI_mapI {α : Type} (f : α → Dt) {xs : List α} {m : Int} {x : α} (h0 : 0 ≤ m) (h : xs[m.toNat]? = some x) : L2.atI (xs.map f) m = some (f x) := by
  have : m = (m.toNat : Int) := by omega
  rw [this]
  exact atI_mapN f h
end LD
namespace LX
open PySem PySem.Spec PyProof.Rows L2
theorem units65 {k : Nat} {A : Around} (r : Room k A) : A.units + 65 < cLine := by have := r.un; omega
end LX
/-! MR: comprehensions whose target is a pair of names. -/
namespace LD
open PySem L2
section
variable {b : Bs} {A A1 A2 A3 : Abs} {T : Tmp} {σ : St} {H H2 G : Hp} {v : V} {d e z : Dt} {ds es : List Dt} {te ta tb tc td : TE} {K : PySem.W.Frag} {P : Post} {wi : TI} {tt : TT}
theorem wipe_get : ∀ (us : List Nat) (τ : St) (i : Nat), (L2.wipe τ us)[i]? = if i ∈ us then (if i < τ.length then some none else none) else τ[i]? := by
  intro us
  induction us with
  | nil => intro τ i; simp [L2.wipe]
  | cons w us ih =>
    intro τ i
    show ((L2.wipe τ us).set w none)[i]? = _
    by_cases e : w = i
    · subst e
      by_cases hl : w < τ.length
      · rw [List.getElem?_set_self (by rw [wipe_length]; exact hl)]; simp [hl]
      · rw [List.getElem?_eq_none (by rw [List.length_set, wipe_length]; omega)]; simp [hl]
    · rw [List.getElem?_set_ne e, ih]
      have e' : i ≠ w := fun q => e q.symm
      simp [e']
theorem wipe_in {vs : List Nat} {τ : St} {k : Nat} {x : Option V} (hk : k ∈ vs) : wipe (τ.set k x) vs = wipe τ vs := by
  apply List.ext_getElem?
  intro i
  rw [wipe_get, wipe_get, List.length_set]
  by_cases hi : i ∈ vs
  · rw [if_pos hi, if_pos hi]
  · rw [if_neg hi, if_neg hi, List.getElem?_set_ne (fun q => hi (by rw [← q]; exact hk))]
theorem wipe_twice {vs : List Nat} {τ : St} : wipe (wipe τ vs) vs = wipe τ vs := by
  apply List.ext_getElem?
  intro i
  rw [wipe_get, wipe_get, wipe_length]
  by_cases hi : i ∈ vs
  · rw [if_pos hi, if_pos hi]
  · rw [if_neg hi, if_neg hi]
theorem EvI.cong {n : Nat} {f f' : Nat → Dt} (h : EvI b wi A n f A1) (e : ∀ i, i < n → f i = f' i) : EvI b wi A n f' A1 := fun T σ H c R k => h T σ H c R fun J T0 H2 c2 sv => k J T0 H2 c2 fun i A T σ H c => ⟨(sv i A T σ H c).1, fun hn => by rw [← e i hn]; exact (sv i A T σ H c).2 hn⟩
theorem ef_lcT {vs : List Nat} {k1 k2 n : Nat} {f1 f2 : Nat → Dt} (p : Nat → Bool) (g : Nat → Dt) (hi : EvI b wi A n (fun i => .tup [f1 i, f2 i]) A1) (hk1 : k1 ∈ vs) (hk2 : k2 ∈ vs) (hn : n < sizeLine)
    (ht : ∀ i M, i < n → EvT b tt ⟨((wipeD A1.γ vs).set k1 (some (f1 i))).set k2 (some (f2 i)), M :: A1.M⟩ (p i) ⟨((wipeD A1.γ vs).set k1 (some (f1 i))).set k2 (some (f2 i)), M :: A1.M⟩)
    (he : ∀ i M, i < n → p i = true → EvM b te ⟨((wipeD A1.γ vs).set k1 (some (f1 i))).set k2 (some (f2 i)), M :: A1.M⟩ (g i) ⟨((wipeD A1.γ vs).set k1 (some (f1 i))).set k2 (some (f2 i)), M :: A1.M⟩) :
    EvF b (tLc wi (gTup K 2 (gCons (gName k1) (gCons (gName k2) gNil))) tt te vs) A (given n p g) A1 := fun T σ H c Q q => hi T σ H c _ fun J T0 H1 c1 sv => by
  intro D hD
  refine ⟨fun i m H' => m = n - i ∧ i ≤ n ∧ Conc b ⟨A1.γ, (D, .d (.lst (given i p g))) :: A1.M⟩ (T0 ++ T) σ H', ⟨n - 0, rfl, Nat.zero_le _, ?_⟩, ?_⟩
  · obtain ⟨G, c⟩ := c1
    exact ⟨G, (c.newM (o := .lst []) (m := .lst (given 0 p g)) hD ⟨[], upd_same, .nil⟩).1⟩
  · rintro i m H' ⟨rfl, hi', cA⟩
    by_cases hlt : i < n
    · obtain ⟨go, yld⟩ := (sv i _ T σ H' cA).2 hlt
      refine .inr ⟨go, fun H2 => Conc b ⟨A1.γ, (D, .d (.lst (given (i + 1) p g))) :: A1.M⟩ (T0 ++ T) σ H2, fun H2 h => ⟨n - (i + 1), by omega, rfl, hlt, h⟩, fun x H2 hy => ?_⟩
      have c2 := yld x H2 hy
      obtain ⟨G2, g2⟩ := c2
      have rx : Rp G2 x (.tup [f1 i, f2 i]) := g2.tm (x, .tup [f1 i, f2 i]) List.mem_cons_self
      obtain ⟨a, xs, ea, eg, er⟩ := rx.tup_inv
      cases er with
      | @cons x1 _ _ _ r1 er =>
        cases er with
        | @cons x2 _ _ _ r2 er =>
          cases er
          refine ⟨a, [x1, x2], ea, SqT.of (g2.gh _ _ eg), rfl, x1, [x2], rfl, x2, [], rfl, rfl, ?_⟩
          refine ⟨by rw [wipe_in hk2, wipe_in hk1, wipe_twice], ?_⟩
          have sl := g2.sl
          have g3 : ConcG b ⟨((wipeD A1.γ vs).set k1 (some (f1 i))).set k2 (some (f2 i)), (D, .d (.lst (given i p g))) :: A1.M⟩ (slT σ A1.γ ++ (T0 ++ T)) (((wipe σ vs).set k1 (some x1)).set k2 (some x2)) H2 G2 :=
            { g2 with sl := ((sl.wipe vs).set r1 k1).set r2 k2, tm := fun q hq => (List.mem_append.mp hq).elim (sl.slT q) fun h => g2.tm q (List.mem_cons_of_mem _ h) }
          have back : ∀ {m : MO} {H3 : Hp}, Conc b ⟨((wipeD A1.γ vs).set k1 (some (f1 i))).set k2 (some (f2 i)), (D, m) :: A1.M⟩ (slT σ A1.γ ++ (T0 ++ T)) (((wipe σ vs).set k1 (some x1)).set k2 (some x2)) H3 → Conc b ⟨A1.γ, (D, m) :: A1.M⟩ (T0 ++ T) σ H3 := fun ⟨G3, c3⟩ =>
            ⟨G3, { c3 with sl := sl.back fun q hq => c3.tm q (List.mem_append_left _ hq), tm := fun q hq => c3.tm q (List.mem_append_right _ hq) }⟩
          refine ht i _ hlt _ _ H2 ⟨G2, g3⟩ _ fun H3 c3 => ?_
          cases hp : p i with
          | true =>
            refine iteT (he i _ hlt hp _ _ H3 c3 _ fun y H4 c4 => ?_)
            obtain ⟨G4, g4, r4⟩ := c4.top
            obtain ⟨acc, h1, h2⟩ := g4.lst_at (m' := .d (.lst (given (i + 1) p g))) .here
            refine ⟨acc, h1, ?_, back ?_⟩
            · rw [h2.length]
              exact Nat.lt_of_le_of_lt (given_length i p g) (by omega)
            · refine ⟨G4, g4.at_ (m' := .lst (given (i + 1) p g)) .here ⟨acc ++ [y], upd_same, ?_⟩⟩
              rw [given_succ, if_pos hp]
              exact h2.append (.cons r4 .nil)
          | false =>
            refine iteF ?_
            have c5 := back c3
            rw [show given (i + 1) p g = given i p g by rw [given_succ, hp]; simp]
            exact c5
    · have e : i = n := by omega
      subst e
      exact .inl ⟨(sv i _ T σ H' cA).1 (Nat.le_refl _), by
        obtain ⟨G, c⟩ := cA
        exact q D _ ((c.out (.obj D)).sub fun p hp => by
          rcases List.mem_cons.mp hp with e | h
          · rw [e]; exact List.mem_cons_self
          · exact List.mem_cons_of_mem _ (List.mem_append_right _ h))⟩
/-- the same over a list told by its elements -/
theorem ef_lcTL {α : Type} {xs : List α} {h1 h2 : α → Dt} {vs : List Nat} {k1 k2 : Nat} (p : α → Bool) (g : α → Dt) (hi : EvI b wi A (xs.map fun x => Dt.tup [h1 x, h2 x]).length (fun i => (xs.map fun x => Dt.tup [h1 x, h2 x]).getD i .non) A1) (hk1 : k1 ∈ vs) (hk2 : k2 ∈ vs) (hn : xs.length < sizeLine)
    (ht : ∀ x M, x ∈ xs → EvT b tt ⟨((wipeD A1.γ vs).set k1 (some (h1 x))).set k2 (some (h2 x)), M :: A1.M⟩ (p x) ⟨((wipeD A1.γ vs).set k1 (some (h1 x))).set k2 (some (h2 x)), M :: A1.M⟩)
    (he : ∀ x M, x ∈ xs → p x = true → EvM b te ⟨((wipeD A1.γ vs).set k1 (some (h1 x))).set k2 (some (h2 x)), M :: A1.M⟩ (g x) ⟨((wipeD A1.γ vs).set k1 (some (h1 x))).set k2 (some (h2 x)), M :: A1.M⟩) :
    EvF b (tLc wi (gTup K 2 (gCons (gName k1) (gCons (gName k2) gNil))) tt te vs) A ((xs.filter p).map g) A1 := by
  rw [List.length_map] at hi
  by_cases h0 : xs = []
  · subst h0
    exact ef_lcT (f1 := fun _ => .non) (f2 := fun _ => .non) (fun _ => true) (fun _ => .non) (hi.cong fun i hi => absurd hi (by simp)) hk1 hk2 hn (fun i M hi => absurd hi (by simp)) (fun i M hi _ => absurd hi (by simp))
  · obtain ⟨d0, hd0⟩ : ∃ d0, xs.head? = some d0 := by
      cases xs with
      | nil => exact absurd rfl h0
      | cons x xs => exact ⟨x, rfl⟩
    rw [← given_list p g d0]
    have hx : ∀ i, i < xs.length → (xs.map fun x => Dt.tup [h1 x, h2 x]).getD i .non = .tup [h1 (xs.getD i d0), h2 (xs.getD i d0)] ∧ xs.getD i d0 ∈ xs := fun i hi => by
      have h : xs[i]? = some xs[i] := List.getElem?_eq_getElem hi
      have e : xs.getD i d0 = xs[i] := by simp [List.getD, h]
      refine ⟨?_, by rw [e]; exact List.getElem_mem hi⟩
      rw [e]
      simp [List.getD, List.getElem?_map, h]
    exact ef_lcT (f1 := fun i => h1 (xs.getD i d0)) (f2 := fun i => h2 (xs.getD i d0)) (fun i => p (xs.getD i d0)) (fun i => g (xs.getD i d0)) (hi.cong fun i hi => (hx i hi).1) hk1 hk2 hn (fun i M hi => ht _ M (hx i hi).2) (fun i M hi hp => he _ M (hx i hi).2 hp)
end
end LD
namespace LD
open PySem L2
variable {α : Type}
section
variable {b : Bs} {A A1 A2 : Abs} {ds es dds : List Dt} {ta tb : TE} {t : TA} {W : WX} {p : Addr} {r : Bool} {K : PySem.W.Frag} {P : Post} {XP : Abs → Addr → XF → Prop} {C : Addr} {m : Str} {dvs : List V} {e : Dt}
variable {args : α → List Dt} {ok : α → Prop} {resP : α → Dt → Prop} {resN : α → List Dt → Prop} {exc : α → Addr → XF → Prop}
theorem s_callPx {n : Nat} (x : α) (ht : EvA b t A ds A1) (hx : ok x) (hd : ∀ G, RpAll G dvs dds) (he : ds ++ dds = args x) (hw : WOk b W XP) (hxp : ∀ C o, exc x C o → XP A1 C o)
    (k : ∀ d, resP x d → P.nx ⟨A1.γ.set n (some d), A1.M⟩) : StA b (tAsg (tCallSD (SpP args ok resP exc) dvs (WE W) t) (gName n)) A P :=
  s_asgR (R := fun d A' => A' = A1 ∧ resP x d) (er_callP x ht hx hd he (fun d h => ⟨rfl, h⟩) hw hxp) fun d A' ⟨h1, h2⟩ => by subst h1; exact k d h2
theorem s_methPx {n : Nat} {fs : List (Str × Dt)} (x : α) (ho : EvM b ta A (.ins C fs) A1) (hm : fs.lookup m = none) (ht : EvA b t A1 ds A2) (hx : ok x) (hd : ∀ G, RpAll G dvs dds) (he : .ins C fs :: (ds ++ dds) = args x) (hw : WOk b W XP) (hxp : ∀ D o, exc x D o → XP A2 D o)
    (k : ∀ d, resP x d → P.nx ⟨A2.γ.set n (some d), A2.M⟩) : StA b (tAsg (tMethSD C m (SpP args ok resP exc) dvs (WE W) ta t) (gName n)) A P :=
  s_asgR (R := fun d A' => A' = A2 ∧ resP x d) (er_methP x ho hm ht hx hd he (fun d h => ⟨rfl, h⟩) hw hxp) fun d A' ⟨h1, h2⟩ => by subst h1; exact k d h2
/-- a def that cannot answer: the statement ends there -/
theorem s_asgX {g : TG} (h : EvR b ta A fun _ _ => False) : StA b (tAsg ta g) A P := fun T σ H c D _ _ _ _ => h T σ H c _ fun _ _ _ _ hf => hf.elim
theorem s_asgLcX {g g' : TG} {tt : TT} {te : TE} {vs : List Nat} (h : EvR b ta A fun _ _ => False) : StA b (tAsg (tLc (LX.iSeq K ta) g tt te vs) g') A P := fun T σ H c D _ _ _ _ => .inl (h T σ H c _ fun _ _ _ _ hf => hf.elim)
theorem s_dropX (h : EvR b ta A fun _ _ => False) : StA b (tDrop ta) A P := fun T σ H c D _ _ _ _ => h T σ H c _ fun _ _ _ _ hf => hf.elim
theorem s_retX (h : EvR b ta A fun _ _ => False) : StA b (tRet ta) A P := fun T σ H c D _ _ _ _ => h T σ H c _ fun _ _ _ _ hf => hf.elim
end
theorem cutS_len (s : Str) (lo hi : Option Int) : (cutS s lo hi).length ≤ s.length := by
  unfold cutS
  show (List.toArray _).size ≤ _
  rw [List.size_toArray, List.length_take, List.length_drop]
  have : s.cps.toList.length = s.length := by rw [Array.length_toList]; rfl
  omega
end LD
namespace LX
open PySem PySem.Spec PyProof.Rows L2
/-- sep.join(xs) -/
def rJoin (K : PySem.W.Frag) : V → List V → Hp → VK → Prop := fun x xs H Q => ∃ a p, ∃ ys : List Str, x = .str a ∧ xs = [.ref p] ∧ (SqL K H p (ys.map V.str) ∨ SqT K H p (ys.map V.str)) ∧
  (ys.map (·.length)).sum + ys.length * a.length ≤ 16777216 ∧ Q (.str (Txt.join a ys)) H
end LX
namespace LD
open PySem PySem.Spec PyProof.Rows L2
section
variable {K : PySem.W.Frag} {b : Bs} {A A1 A2 : Abs} {ta tb : TE}
theorem strs_rp {G : Hp} : ∀ {xs : List V} {ns : List Str}, RpAll G xs (ns.map Dt.str) → xs = ns.map V.str
  | _, [], h => by cases h; rfl
  | _, n :: ns, h => by
    cases h with
    | cons r rs => rw [strs_rp rs, r.str_inv]; rfl
theorem ev_join {s : Str} {ys : List Str} (ha : EvM b ta A (.str s) A1) (hb : EvM b tb A1 (.lst (ys.map Dt.str)) A2) (hl : (ys.map (·.length)).sum + ys.length * s.length ≤ 16777216) :
    EvM b (tM1 (LX.rJoin K) ta tb) A (.str (Txt.join s ys)) A2 := fun T σ H c Q k => ha T σ H c _ fun v H1 c1 => by
  obtain ⟨G, c, r⟩ := c1.top
  have := r.str_inv
  subst this
  refine ⟨⟨_, rfl⟩, hb T σ H1 ⟨G, c⟩ _ fun w H2 c2 => ?_⟩
  obtain ⟨G, c, r⟩ := c2.top
  obtain ⟨p, xs, e1, e2, e3⟩ := r.lst_inv
  have hx := strs_rp e3
  subst hx e1
  exact ⟨s, p, ys, rfl, rfl, .inl (SqL.of (c.gh _ _ e2)), hl, k _ _ (c.out (.str _))⟩
theorem ev_max {ns : List Int} {m : Int} (ha : EvM b ta A (.lst (ns.map Dt.int)) A1) (hm : m ∈ ns) (hle : ∀ y ∈ ns, y ≤ m) : EvM b (tCB (rMax K) (tCons ta tNil)) A (.int m) A1 := fun T σ H c Q k => ha T σ H c _ fun v H1 c1 => by
  obtain ⟨G, c, r⟩ := c1.top
  obtain ⟨p, xs, e1, e2, e3⟩ := r.lst_inv
  have hx := ints_rp e3
  subst hx e1
  refine ⟨p, ns, rfl, SqL.of (c.gh _ _ e2), List.length_pos_of_mem hm, fun m' hm' hle' => ?_⟩
  have : m' = m := Int.le_antisymm (hle m' hm') (hle' m hm)
  subst this
  exact k _ _ (c.out (.int _))
theorem ev_eqB {i j : Bool} (ha : EvM b ta A (.bl i) A1) (hb : EvM b tb A1 (.bl j) A2) : EvM b (tOp (rEqAny K) ta tb) A (.bl (decide (i = j))) A2 := ev_op ha hb fun T σ H v w c Q k => .inl (by
  obtain ⟨G, c, r1, r2⟩ := c.top2
  rw [r2.bl_inv, r1.bl_inv]
  exact ⟨rfl, k _ H (c.out (by rw [show decide (V.bl i = V.bl j) = decide (i = j) by simp]; exact .bl _))⟩)
theorem ev_neB {i j : Bool} (ha : EvM b ta A (.bl i) A1) (hb : EvM b tb A1 (.bl j) A2) : EvM b (tOp (rNeAny K) ta tb) A (.bl (!decide (i = j))) A2 := ev_op ha hb fun T σ H v w c Q k => .inl (by
  obtain ⟨G, c, r1, r2⟩ := c.top2
  rw [r2.bl_inv, r1.bl_inv]
  exact ⟨rfl, k _ H (c.out (by rw [show decide (V.bl i = V.bl j) = decide (i = j) by simp]; exact .bl _))⟩)
end
/-! ### plain data, bools among them -/
def smOk : Nat → Dt → Bool
  | _, .non => true
  | _, .bl _ => true
  | _, .int _ => true
  | _, .str s => PyData.strOk s
  | n + 1, .lst ds => ds.all (smOk n)
  | n + 1, .tup ds => ds.all (smOk n)
  | _, _ => false
mutual
def szD : Dt → Nat
  | .lst ds => szDs ds + 1
  | .tup ds => szDs ds + 1
  | _ => 1
def szDs : List Dt → Nat
  | [] => 0
  | d :: ds => szD d + szDs ds
end
theorem szDs_app : ∀ ds es : List Dt, szDs (ds ++ es) = szDs ds + szDs es
  | [], es => by rw [List.nil_append, szDs, Nat.zero_add]
  | d :: ds, es => by rw [List.cons_append, szDs, szDs, szDs_app ds es]; omega
theorem sm_all {K : PySem.W.Frag} {G H : Hp} {n : Nat} (f : ∀ {v : V} {d : Dt}, smOk n d = true → Rp G v d → Dp K H v (toPy d)) : ∀ {vs : List V} {ds : List Dt}, ds.all (smOk n) = true → RpAll G vs ds → DpAll K H vs (toPys ds)
  | _, _, _, .nil => by rw [toPys]; exact .nil
  | _, _, h, .cons q r => by
    rw [List.all_cons, Bool.and_eq_true] at h
    rw [toPys]
    exact .cons (f h.1 q) (sm_all f h.2 r)
theorem sm_of {K : PySem.W.Frag} {G H : Hp} (e : Ex G H) : ∀ (n : Nat) {v : V} {d : Dt}, smOk n d = true → Rp G v d → Dp K H v (toPy d) := by
  intro n
  induction n with
  | zero =>
    intro v d h r
    cases r with
    | non => rw [toPy]; exact .non
    | bl i => rw [toPy]; exact .bl i
    | int i => rw [toPy]; exact .int i
    | str s => rw [toPy]; exact .str s
    | _ => cases h
  | succ n ih =>
    intro v d h r
    cases r with
    | non => rw [toPy]; exact .non
    | bl i => rw [toPy]; exact .bl i
    | int i => rw [toPy]; exact .int i
    | str s => rw [toPy]; exact .str s
    | lst ha r =>
      rw [toPy]
      exact .lst (SqL.of (e _ _ ha)) (sm_all ih h r)
    | tup ha r =>
      rw [toPy]
      exact .tup (SqT.of (e _ _ ha)) (sm_all ih h r)
    | _ => cases h
theorem smLays {n : Nat} (f : ∀ d, smOk n d = true → (toPy d).canLay0 = true ∧ (toPy d).depth ≤ n) : ∀ {ds : List Dt}, ds.all (smOk n) = true → PyData.canLayAll0 (toPys ds) = true ∧ PyData.depthAll (toPys ds) ≤ n
  | [], _ => by rw [toPys, PyData.canLayAll0, PyData.depthAll]; exact ⟨rfl, Nat.zero_le _⟩
  | d :: ds, h => by
    rw [List.all_cons, Bool.and_eq_true] at h
    obtain ⟨h1, h2⟩ := f d h.1
    obtain ⟨h3, h4⟩ := smLays f h.2
    rw [toPys, PyData.canLayAll0, PyData.depthAll, h1, h3]
    exact ⟨rfl, Nat.max_le.mpr ⟨h2, h4⟩⟩
theorem smLay : ∀ (n : Nat) (d : Dt), smOk n d = true → (toPy d).canLay0 = true ∧ (toPy d).depth ≤ n := by
  intro n
  induction n with
  | zero =>
    intro d h
    cases d with
    | str s => exact ⟨by rw [toPy, PyData.canLay0]; exact h, by rw [toPy, PyData.depth]; exact Nat.le_refl _⟩
    | non => exact ⟨by rw [toPy, PyData.canLay0], by rw [toPy, PyData.depth]; exact Nat.le_refl _⟩
    | bl i => exact ⟨by rw [toPy, PyData.canLay0], by rw [toPy, PyData.depth]; exact Nat.le_refl _⟩
    | int i => exact ⟨by rw [toPy, PyData.canLay0], by rw [toPy, PyData.depth]; exact Nat.le_refl _⟩
    | _ => cases h
  | succ n ih =>
    intro d h
    cases d with
    | str s => exact ⟨by rw [toPy, PyData.canLay0]; exact h, by rw [toPy, PyData.depth]; exact Nat.zero_le _⟩
    | non => exact ⟨by rw [toPy, PyData.canLay0], by rw [toPy, PyData.depth]; exact Nat.zero_le _⟩
    | bl i => exact ⟨by rw [toPy, PyData.canLay0], by rw [toPy, PyData.depth]; exact Nat.zero_le _⟩
    | int i => exact ⟨by rw [toPy, PyData.canLay0], by rw [toPy, PyData.depth]; exact Nat.zero_le _⟩
    | lst ds =>
      obtain ⟨h1, h2⟩ := smLays ih h
      exact ⟨by rw [toPy, PyData.canLay0]; exact h1, by rw [toPy, PyData.depth]; exact Nat.succ_le_succ h2⟩
    | tup ds =>
      obtain ⟨h1, h2⟩ := smLays ih h
      exact ⟨by rw [toPy, PyData.canLay0]; exact h1, by rw [toPy, PyData.depth]; exact Nat.succ_le_succ h2⟩
    | _ => cases h
section
variable {K : PySem.W.Frag} {b : Bs} {A A1 A2 : Abs} {ta tb : TE} {ds : List Dt}
/-- xs == [], a changing list of plain data -/
theorem ev_eqNil (n : Nat) {x : Dt} (ha : EvM b ta A x A1) (hb : EvM b tb A1 (.lst []) A2) (hx : DAt A2.M x (.lst ds)) (h1 : smOk (n + 1) (.lst ds) = true) (hn : n + 1 ≤ 64) : EvM b (tOp (rEqAny K) ta tb) A (.bl ds.isEmpty) A2 := ev_op ha hb fun T σ H v w c Q k => .inr (by
  obtain ⟨G, c, r1, r2⟩ := c.top2
  obtain ⟨h2, h3⟩ := smLay _ _ h1
  refine ⟨toPy (.lst ds), toPy (.lst []), ?_, dp_of c.gh 1 rfl r1, ?_, shaped_of (n := 1) rfl (by decide), ?_⟩
  · have gh := c.gh
    obtain ⟨a, xs, e1, e2, e3⟩ := hx.lst c r2
    subst e1
    rw [toPy]
    exact .lst (SqL.of e2) (sm_all (fun h r => sm_of gh n h r) h1 e3)
  · unfold SeqAt.shaped
    rw [h2, Bool.true_and, decide_eq_true (Nat.le_trans h3 hn)]
  · have : PyData.eqv (toPy (.lst ds)) (toPy (.lst [])) = ds.isEmpty := by
      cases ds <;> simp [toPy, toPys, PyData.eqv, PyData.eqvAll]
    rw [this]
    exact k _ H (c.out (.bl _)))
end
end LD
namespace LD
open PySem PySem.Spec PyProof.Rows L2
section
variable {α : Type} {K : PySem.W.Frag}
theorem er_callAR {b : Bs} {A : Abs} {t : TA} {dvs : List V} {dds : List Dt} {W : WX} {args : α → List Dt} {ok : α → Prop} {resP : α → Dt → Prop} {exc : α → Addr → XF → Prop} {RA : List Dt → Abs → Prop} {R : Dt → Abs → Prop} (ht : EvAR b t A RA) (hd : ∀ G, RpAll G dvs dds)
    (k : ∀ ds A1, RA ds A1 → ∃ x : α, ok x ∧ ds ++ dds = args x ∧ (∀ d, resP x d → R d A1) ∧ ∀ C o, ¬ exc x C o) : EvR b (tCallSD (SpP args ok resP exc) dvs (WE W) t) A R := fun T σ H c Q q => ht T σ H c _ fun ws ds A1 H1 hr hl c1 => by
  obtain ⟨x, h1, h2, h3, h4⟩ := k ds A1 hr
  exact ⟨x, h1, er_core c1 hl hd ⟨rfl, h2⟩ (R := R) (fun d M' ⟨h5, h6⟩ => by subst h5; exact h3 d h6) (fun C o dd H2 h _ _ => absurd h (h4 C o)) q⟩
/-- a slice of a list that is told by a relation -/
theorem er_slL {b : Bs} {A A1 A2 A3 : Abs} {te : TE} {tl th : TO} {lo hi : Option Int} {φ : List Dt → Prop} (h : EvR b te A fun d A' => (∃ ds, d = .lst ds ∧ φ ds) ∧ A' = A1) (h1 : EvO b tl A1 lo A2) (h2 : EvO b th A2 hi A3) :
    EvR b (tSl (rSl K) te tl th) A fun d A' => (∃ ds, d = .lst (cutG ds lo hi) ∧ φ ds) ∧ A' = A3 := fun T σ H c Q k =>
  h T σ H c _ fun v d A' H1 hr c1 => by
    obtain ⟨⟨ds, rfl, hp⟩, rfl⟩ := hr
    exact h1 _ σ H1 c1 _ fun H2 c2 => h2 _ σ H2 c2 _ fun H3 c3 => .inl (by
      obtain ⟨G, c, r⟩ := c3.top
      obtain ⟨p, xs, e1, e2, e3⟩ := r.lst_inv
      exact ⟨p, xs, e1, SqL.of (c.gh _ _ e2), fun q hq => k _ _ _ _ ⟨⟨ds, rfl, hp⟩, rfl⟩ (c.lst hq (e3.cut lo hi))⟩)
end
end LD
/-! MU: find, rfind, slices of tuples, constants of a class, sorted, + told by relations -/
namespace LX
open PySem PySem.Spec PyProof.Rows L2
def rFind : V → List V → Hp → VK → Prop := fun x xs H Q => ∃ a b, x = .str a ∧ xs = [.str b] ∧ Q (.int (Txt.find a b)) H
def rRfind : V → List V → Hp → VK → Prop := fun x xs H Q => ∃ a b, x = .str a ∧ xs = [.str b] ∧ Q (.int (Txt.rfind a b)) H
section
variable {X : Cx} {o e : Expr} {apos pos : Pos} {to te : TE}
theorem pe_find (ho : PE X o to) (he : PE X e te) (hs : starEach [e] X.env = [(false, eval e X.env)] := by rfl) (hbase : attributeBase o "find" X.env (eval o X.env) = eval o X.env := by rfl) (hline : (apos.endLine == pos.line) = true := by rfl) :
    PE X (.Call (.Attribute o "find" apos) [e] [] pos) (tM1 rFind to te) := pe_m1 F.slot_str_find F.type_str_find mt_find ho he hs hbase hline
theorem pe_rfind (ho : PE X o to) (he : PE X e te) (hs : starEach [e] X.env = [(false, eval e X.env)] := by rfl) (hbase : attributeBase o "rfind" X.env (eval o X.env) = eval o X.env := by rfl) (hline : (apos.endLine == pos.line) = true := by rfl) :
    PE X (.Call (.Attribute o "rfind" apos) [e] [] pos) (tM1 rRfind to te) := pe_m1 F.slot_str_rfind F.type_str_rfind mt_rfind ho he hs hbase hline
end
end LX
namespace LD
open PySem PySem.Spec PyProof.Rows L2
section
variable {K : PySem.W.Frag} {b : Bs} {A A1 A2 A3 : Abs} {ta tb te : TE} {d : Dt} {ds es : List Dt}
theorem ev_find {s t : Str} (ha : EvM b ta A (.str s) A1) (hb : EvM b tb A1 (.str t) A2) : EvM b (tM1 LX.rFind ta tb) A (.int (Txt.find s t)) A2 := fun T σ H c Q k => ha T σ H c _ fun v H1 c1 => by
  obtain ⟨G, c, r⟩ := c1.top
  have := r.str_inv
  subst this
  refine ⟨⟨_, rfl⟩, hb T σ H1 ⟨G, c⟩ _ fun w H2 c2 => ?_⟩
  obtain ⟨G, c, r⟩ := c2.top
  have := r.str_inv
  subst this
  exact ⟨s, t, rfl, rfl, k _ _ (c.out (.int _))⟩
theorem ev_rfind {s t : Str} (ha : EvM b ta A (.str s) A1) (hb : EvM b tb A1 (.str t) A2) : EvM b (tM1 LX.rRfind ta tb) A (.int (Txt.rfind s t)) A2 := fun T σ H c Q k => ha T σ H c _ fun v H1 c1 => by
  obtain ⟨G, c, r⟩ := c1.top
  have := r.str_inv
  subst this
  refine ⟨⟨_, rfl⟩, hb T σ H1 ⟨G, c⟩ _ fun w H2 c2 => ?_⟩
  obtain ⟨G, c, r⟩ := c2.top
  have := r.str_inv
  subst this
  exact ⟨s, t, rfl, rfl, k _ _ (c.out (.int _))⟩
/-- a proper slice of a tuple -/
theorem ev_slT {tl th : TO} {lo hi : Option Int} (h : EvM b te A (.tup ds) A1) (h1 : EvO b tl A1 lo A2) (h2 : EvO b th A2 hi A3) (hw : ¬ (HT.sIx ds.length 0 lo = 0 ∧ HT.sIx ds.length ds.length hi = ds.length)) :
    EvM b (tSl (rSlT K) te tl th) A (.tup (cutG ds lo hi)) A3 := fun T σ H c Q k =>
  h T σ H c _ fun v H1 c1 => h1 _ σ H1 c1 _ fun H2 c2 => h2 _ σ H2 c2 _ fun H3 c3 => by
    obtain ⟨G, c, r⟩ := c3.top
    obtain ⟨p, xs, e1, e2, e3⟩ := r.tup_inv
    exact ⟨p, xs, e1, SqT.of (c.gh _ _ e2), by rw [e3.length]; exact hw, fun q hq => k _ _ (c.tup hq (e3.cut lo hi))⟩
/-- C.f, a constant of the class -/
theorem ev_cval {C : Addr} {f : Str} {mc u : Value} {vc : V} (h : EvM b ta A (.obj C) A1) (hr : ClX.CRead K C mc) (hn : ClX.CVal K C mc f vc u) (hd : ∀ G, Rp G vc d) : EvM b (ClX.tCVal K ta f) A d A1 := fun T σ H c Q q => h T σ H c _ fun v H1 c1 => by
  obtain ⟨G, g, r⟩ := c1.top
  have := r.obj_inv
  subst this
  exact ⟨C, mc, vc, u, rfl, hr, hn, q _ _ (g.out (hd G))⟩
/-- sorted(xs), a list of few ints -/
theorem er_sorted {ns : List Int} (h : EvM b ta A (.lst (ns.map Dt.int)) A1) (hl : ns.length < 64) : EvR b (tCB (rSorted K) (tCons ta tNil)) A fun d A' => (∃ ms : List Int, d = .lst (ms.map Dt.int) ∧ ms.Perm ns) ∧ A' = A1 := fun T σ H c Q q => h T σ H c _ fun v H1 c1 => by
  obtain ⟨G, c, r⟩ := c1.top
  obtain ⟨p, xs, e1, e2, e3⟩ := r.lst_inv
  have hx := ints_rp e3
  subst hx e1
  exact ⟨p, ns, rfl, SqL.of (c.gh _ _ e2), hl, fun ms q' hp _ hq => q _ _ _ _ ⟨⟨ms, rfl, hp⟩, rfl⟩ (c.lst hq (RpAll.ints ms))⟩
/-- xs + ys, the right one told by a relation -/
theorem er_catR {φ : List Dt → Prop} (ha : EvM b ta A (.lst ds) A1) (hb : EvR b tb A1 fun d A' => (∃ es, d = .lst es ∧ φ es) ∧ A' = A2) (hl : ∀ es, φ es → ds.length + es.length ≤ sizeLine) :
    EvR b (tOp (rPlus K) ta tb) A fun d A' => (∃ es, d = .lst (ds ++ es) ∧ φ es) ∧ A' = A2 := fun T σ H c Q k =>
  ha T σ H c _ fun v H1 c1 => hb _ σ H1 c1 _ fun w d A' H2 hr c2 => by
    obtain ⟨⟨es, rfl, hp⟩, rfl⟩ := hr
    refine .inr (.inr (.inl ?_))
    obtain ⟨G, c, r1, r2⟩ := c2.top2
    obtain ⟨p, xs, e1, e2, e3⟩ := r2.lst_inv
    obtain ⟨q, ys, f1, f2, f3⟩ := r1.lst_inv
    subst e1 f1
    refine ⟨p, q, xs, ys, rfl, rfl, c.gh _ _ e2, c.gh _ _ f2, by rw [e3.length, f3.length]; exact hl es hp, fun r hr => k _ _ _ _ ⟨⟨es, rfl, hp⟩, rfl⟩ (c.lst hr (e3.append f3))⟩
theorem er_catL {φ : List Dt → Prop} (ha : EvR b ta A fun d A' => (∃ ds, d = .lst ds ∧ φ ds) ∧ A' = A1) (hb : EvM b tb A1 (.lst es) A2) (hl : ∀ ds, φ ds → ds.length + es.length ≤ sizeLine) :
    EvR b (tOp (rPlus K) ta tb) A fun d A' => (∃ ds, d = .lst (ds ++ es) ∧ φ ds) ∧ A' = A2 := fun T σ H c Q k =>
  ha T σ H c _ fun v d A' H1 hr c1 => by
    obtain ⟨⟨ds, rfl, hp⟩, rfl⟩ := hr
    refine hb _ σ H1 c1 _ fun w H2 c2 => ?_
    refine .inr (.inr (.inl ?_))
    obtain ⟨G, c, r1, r2⟩ := c2.top2
    obtain ⟨p, xs, e1, e2, e3⟩ := r2.lst_inv
    obtain ⟨q, ys, f1, f2, f3⟩ := r1.lst_inv
    subst e1 f1
    refine ⟨p, q, xs, ys, rfl, rfl, c.gh _ _ e2, c.gh _ _ f2, by rw [e3.length, f3.length]; exact hl ds hp, fun r hr => k _ _ _ _ ⟨⟨ds, rfl, hp⟩, rfl⟩ (c.lst hr (e3.append f3))⟩
end
section
variable {α : Type} {b : Bs} {A A1 : Abs} {t : TA} {ds : List Dt} {K : PySem.W.Frag} {W : WX} {XP : Abs → Addr → XF → Prop} {C : Addr} {Q Q' : VK} {E : XK} {vs : List V} {H : Hp}
theorem SpM.imp {pre : List Dt → List (Addr × MO) → Prop} {res : List Dt → List (Addr × MO) → Dt → List (Addr × MO) → Prop} {exc : List Dt → Addr → Option (List (Str × V)) → Prop} (h : SpM pre res exc vs H Q' E)
    (k : ∀ ds M d M' v H2, pre ds M → res ds M d M' → Q' v H2 → Q v H2) : SpM pre res exc vs H Q E := by
  obtain ⟨G, ds, M, h1, h2, h3, h4, h5, h6, h7⟩ := h
  exact ⟨G, ds, M, h1, h2, h3, h4, h5, fun v d M' G2 H2 r a1 a2 a3 a4 a5 a6 a7 a8 => k ds M d M' v H2 h5 r (h6 v d M' G2 H2 r a1 a2 a3 a4 a5 a6 a7 a8), h7⟩
/-- making an object; what its __init__ promises is kept -/
theorem er_makeX {preX : α → List Dt → List (Addr × MO) → Prop} {resX : α → Dt → List (Addr × MO) → Prop} {exc : α → Addr → XF → Prop} {Ms Rm : List (Addr × MO)} {φ : Prop} {fs : List (Str × Dt)} {Ms' : List (Addr × MO)} (x : Addr → α) (ht : EvA b t A ds A1) (hM : A1.M.Perm (Ms ++ Rm)) (hp : ∀ o, preX (x o) (.obj o :: ds) ((o, .d (.ins C [])) :: Ms))
    (hr : ∀ o d M', resX (x o) d M' → φ ∧ d = .non ∧ M' = (o, .d (.ins C fs)) :: Ms') (hw : WOk b W XP) (hx : ∀ p E o, exc (x p) E o → XP ⟨A1.γ, Rm⟩ E o) :
    EvR b (tMakeSD C (SpX preX resX exc) [] (WE W) t) A fun d A' => φ ∧ d = .ins C fs ∧ A' = ⟨A1.γ, Ms' ++ Rm⟩ := fun T σ H c Q q => ht T σ H c _ fun ws H1 hl c1 => fun o dx hx0 hdx ne =>
  ⟨x o, SpM.imp (make_core (Q := fun v H2 => φ → Q v H2) (dvs := []) (dds := []) c1 hl (fun _ => .nil) hM (by rw [List.append_nil]; exact hp o) (fun d M' h => (hr o d M' h).2) (fun D oo dd H2 he c2 ha => hw _ D oo dd T σ H2 (hx o D oo he) c2 ha) hx0 hdx ne (fun v H2 c hφ => q v _ _ H2 ⟨hφ, rfl, rfl⟩ c))
    fun ds M d M' v H2 _ hres hq => ⟨hq.1, hq.2 (hr o d M' hres).1⟩⟩
end
/-- what isinstance asks of an own class of objects -/
structure InsC (K : PySem.W.Frag) (C : Addr) : Prop where
  ha : PySem.W.findIn K (.ref C) "__class__" = some (some (.builtin "object.__class__"))
  hn : PySem.W.specialIn K (.builtin "object.__class__") "__get__" = some (some (.builtin "getset_descriptor.__get__"))
  htk : PySem.W.takesIn K (.builtin "object.__class__") = some true
  hm : PySem.W.mroIn K C (.type "object") = some true
section
variable {b : Bs} {A A1 A2 : Abs} {ta tb : TE} {K : PySem.W.Frag} {C : Addr} {x e : Dt} {fs : List (Str × Dt)} {r : Bool} {u : Value}
theorem ev_isiO (hC : Cls K C) (hI : InsC K C) (ha : EvM b ta A x A1) (hb : EvM b tb A1 e A2) (hx : DAt A2.M x (.ins C fs)) (hu : ClsD e u) (hk : PySem.W.kitOne K (.ref C) u = some r) : EvM b (tCB (rIsi K) (tCons ta (tCons tb tNil))) A (.bl r) A2 := fun T σ H c Q k =>
  ha T σ H c _ fun v H1 c1 => hb _ σ H1 c1 _ fun w H2 c2 => by
    obtain ⟨G, g, r1, r2⟩ := c2.top2
    obtain ⟨a, dx, xs, h1, h2, _⟩ := hx.ins g r2
    subst h1
    exact ⟨_, w, .ref C, u, r, rfl, hu.cls r1, .base (.ins h2 hC hI.ha hI.hn hI.htk hI.hm), hk, k _ _ (g.out (.bl _))⟩
end
end LD
namespace KB
open PySem PySem.Spec PyProof.Rows L2 LD
def top (i : Nat) : Stmt := PySem.Challenge.pw_adjoinedtongues_k89_pair_rules_limits_an.main.body.getD i (.Pass ⟨0, 0, 0, 0⟩)
abbrev st_bad_letter : Stmt := top 14
abbrev st_check_text : Stmt := top 15
abbrev st_pair_fits : Stmt := top 16
abbrev st_Forms___init__ : Stmt := inClass (top 18) 0
abbrev st_Grammar___init__ : Stmt := inClass (top 20) 1
abbrev st_join_pairs : Stmt := top 30
abbrev st_is_leaf_text : Stmt := top 31
abbrev st_is_name : Stmt := top 32
abbrev st_is_pair_rule : Stmt := top 33
abbrev st_child_names : Stmt := top 34
abbrev st_PairGrammar___init__ : Stmt := inClass (top 36) 1
abbrev st__law_row : Stmt := top 38
abbrev st__law_same : Stmt := top 39
abbrev st__law_text : Stmt := top 40
abbrev st__law_join : Stmt := top 41
abbrev st__law_letters : Stmt := top 42
abbrev st__law_fits : Stmt := top 43
abbrev st__law_bad_place : Stmt := top 44
abbrev st__law_good_rule : Stmt := top 45
abbrev st__law_bad_rule : Stmt := top 46
abbrev st__law_is_valid : Stmt := top 47
abbrev st__law_due : Stmt := top 48
abbrev st__law_made : Stmt := top 49
abbrev st__law_drawn_holds : Stmt := top 50
abbrev st__law_limits_hold : Stmt := top 51
abbrev st__law_checked : Stmt := top 52
abbrev st__law_texts_hold : Stmt := top 53
abbrev st__law_pairs_hold : Stmt := top 54
abbrev st_law : Stmt := top 55
abbrev st_BadText___init__ : Stmt := inClass (top 3) 0
abbrev st_TooMany___init__ : Stmt := inClass (top 4) 0
abbrev st_BadRule___init__ : Stmt := inClass (top 5) 0
abbrev N_bad_letter : List Str := ["text", "most", "place", "letter"]
abbrev ps_bad_letter : List Str := ["text", "most"]
theorem sc_bad_letter : FnScope N_bad_letter ps_bad_letter (defScope st_bad_letter) := ⟨rfl, rfl, rfl, by decide +kernel, rfl, by decide +kernel, by decide +kernel⟩
abbrev N_check_text : List Str := ["text", "most", "place"]
abbrev ps_check_text : List Str := ["text", "most"]
theorem sc_check_text : FnScope N_check_text ps_check_text (defScope st_check_text) := ⟨rfl, rfl, rfl, by decide +kernel, rfl, by decide +kernel, by decide +kernel⟩
abbrev N_pair_fits : List Str := ["text", "pair", "left", "right", "start", "end"]
abbrev ps_pair_fits : List Str := ["text", "pair"]
theorem sc_pair_fits : FnScope N_pair_fits ps_pair_fits (defScope st_pair_fits) := ⟨rfl, rfl, rfl, by decide +kernel, rfl, by decide +kernel, by decide +kernel⟩
abbrev N_Forms___init__ : List Str := ["self", "rows", "sort", "number", "children"]
abbrev ps_Forms___init__ : List Str := ["self", "rows"]
theorem sc_Forms___init__ : FnScope N_Forms___init__ ps_Forms___init__ (defScope st_Forms___init__) := ⟨rfl, rfl, rfl, by decide +kernel, rfl, by decide +kernel, by decide +kernel⟩
abbrev N_Grammar___init__ : List Str := ["self", "names", "rules"]
abbrev ps_Grammar___init__ : List Str := ["self", "names", "rules"]
theorem sc_Grammar___init__ : FnScope N_Grammar___init__ ps_Grammar___init__ (defScope st_Grammar___init__) := ⟨rfl, rfl, rfl, by decide +kernel, rfl, by decide +kernel, by decide +kernel⟩
abbrev N_join_pairs : List Str := ["kind", "first", "second"]
abbrev ps_join_pairs : List Str := ["kind", "first", "second"]
theorem sc_join_pairs : FnScope N_join_pairs ps_join_pairs (defScope st_join_pairs) := ⟨rfl, rfl, rfl, by decide +kernel, rfl, by decide +kernel, by decide +kernel⟩
abbrev N_is_leaf_text : List Str := ["text"]
abbrev ps_is_leaf_text : List Str := ["text"]
theorem sc_is_leaf_text : FnScope N_is_leaf_text ps_is_leaf_text (defScope st_is_leaf_text) := ⟨rfl, rfl, rfl, by decide +kernel, rfl, by decide +kernel, by decide +kernel⟩
abbrev N_is_name : List Str := ["name", "names"]
abbrev ps_is_name : List Str := ["name", "names"]
theorem sc_is_name : FnScope N_is_name ps_is_name (defScope st_is_name) := ⟨rfl, rfl, rfl, by decide +kernel, rfl, by decide +kernel, by decide +kernel⟩
abbrev N_is_pair_rule : List Str := ["rule", "names", "kind", "head", "x", "y"]
abbrev ps_is_pair_rule : List Str := ["rule", "names"]
theorem sc_is_pair_rule : FnScope N_is_pair_rule ps_is_pair_rule (defScope st_is_pair_rule) := ⟨rfl, rfl, rfl, by decide +kernel, rfl, by decide +kernel, by decide +kernel⟩
abbrev N_child_names : List Str := ["rule"]
abbrev ps_child_names : List Str := ["rule"]
theorem sc_child_names : FnScope N_child_names ps_child_names (defScope st_child_names) := ⟨rfl, rfl, rfl, by decide +kernel, rfl, by decide +kernel, by decide +kernel⟩
abbrev N_PairGrammar___init__ : List Str := ["self", "names", "rules", "__class__", "rows", "place", "rule"]
abbrev ps_PairGrammar___init__ : List Str := ["self", "names", "rules"]
theorem sc_PairGrammar___init__ : NdefX.NScope N_PairGrammar___init__ ps_PairGrammar___init__ ["__class__"] (defScope st_PairGrammar___init__) := NdefX.nscope_by (by decide +kernel)
abbrev N__law_row : List Str := ["script", "many", "rest", "row", "mixed", "k", "cell"]
abbrev ps__law_row : List Str := ["script", "many"]
theorem sc__law_row : FnScope N__law_row ps__law_row (defScope st__law_row) := ⟨rfl, rfl, rfl, by decide +kernel, rfl, by decide +kernel, by decide +kernel⟩
abbrev N__law_same : List Str := ["told", "due", "waiting", "k", "one", "two", "at"]
abbrev ps__law_same : List Str := ["told", "due"]
theorem sc__law_same : FnScope N__law_same ps__law_same (defScope st__law_same) := ⟨rfl, rfl, rfl, by decide +kernel, rfl, by decide +kernel, by decide +kernel⟩
abbrev N__law_text : List Str := ["number", "length", "letters", "k"]
abbrev ps__law_text : List Str := ["number"]
theorem sc__law_text : FnScope N__law_text ps__law_text (defScope st__law_text) := ⟨rfl, rfl, rfl, by decide +kernel, rfl, by decide +kernel, by decide +kernel⟩
abbrev N__law_join : List Str := ["kind", "first", "second"]
abbrev ps__law_join : List Str := ["kind", "first", "second"]
theorem sc__law_join : FnScope N__law_join ps__law_join (defScope st__law_join) := ⟨rfl, rfl, rfl, by decide +kernel, rfl, by decide +kernel, by decide +kernel⟩
abbrev N__law_letters : List Str := ["number", "many", "pool", "told", "rest", "k"]
abbrev ps__law_letters : List Str := ["number", "many", "pool"]
theorem sc__law_letters : FnScope N__law_letters ps__law_letters (defScope st__law_letters) := ⟨rfl, rfl, rfl, by decide +kernel, rfl, by decide +kernel, by decide +kernel⟩
abbrev N__law_fits : List Str := ["text", "left", "right", "i", "rest", "k"]
abbrev ps__law_fits : List Str := ["text", "left", "right"]
theorem sc__law_fits : FnScope N__law_fits ps__law_fits (defScope st__law_fits) := ⟨rfl, rfl, rfl, by decide +kernel, rfl, by decide +kernel, by decide +kernel⟩
abbrev N__law_bad_place : List Str := ["text", "most", "k"]
abbrev ps__law_bad_place : List Str := ["text", "most"]
theorem sc__law_bad_place : FnScope N__law_bad_place ps__law_bad_place (defScope st__law_bad_place) := ⟨rfl, rfl, rfl, by decide +kernel, rfl, by decide +kernel, by decide +kernel⟩
abbrev N__law_good_rule : List Str := ["drawn", "names", "kind", "head"]
abbrev ps__law_good_rule : List Str := ["drawn", "names"]
theorem sc__law_good_rule : FnScope N__law_good_rule ps__law_good_rule (defScope st__law_good_rule) := ⟨rfl, rfl, rfl, by decide +kernel, rfl, by decide +kernel, by decide +kernel⟩
abbrev N__law_bad_rule : List Str := ["drawn", "names", "pool", "name", "wrong", "text", "at", "spoilt", "wide", "kind", "rules"]
abbrev ps__law_bad_rule : List Str := ["drawn", "names", "pool"]
theorem sc__law_bad_rule : FnScope N__law_bad_rule ps__law_bad_rule (defScope st__law_bad_rule) := ⟨rfl, rfl, rfl, by decide +kernel, rfl, by decide +kernel, by decide +kernel⟩
abbrev N__law_is_valid : List Str := ["rule", "names", "part"]
abbrev ps__law_is_valid : List Str := ["rule", "names"]
theorem sc__law_is_valid : FnScope N__law_is_valid ps__law_is_valid (defScope st__law_is_valid) := ⟨rfl, rfl, rfl, by decide +kernel, rfl, by decide +kernel, by decide +kernel⟩
abbrev N__law_due : List Str := ["names", "rules", "k"]
abbrev ps__law_due : List Str := ["names", "rules"]
theorem sc__law_due : FnScope N__law_due ps__law_due (defScope st__law_due) := ⟨rfl, rfl, rfl, by decide +kernel, rfl, by decide +kernel, by decide +kernel⟩
abbrev N__law_made : List Str := ["names", "rules", "passed", "grammar", "e"]
abbrev ps__law_made : List Str := ["names", "rules"]
theorem sc__law_made : FnScope N__law_made ps__law_made (defScope st__law_made) := ⟨rfl, rfl, rfl, by decide +kernel, rfl, by decide +kernel, by decide +kernel⟩
abbrev N__law_drawn_holds : List Str := ["row", "pool", "names", "good", "k", "rules", "at", "base"]
abbrev ps__law_drawn_holds : List Str := ["row", "pool"]
theorem sc__law_drawn_holds : FnScope N__law_drawn_holds ps__law_drawn_holds (defScope st__law_drawn_holds) := ⟨rfl, rfl, rfl, by decide +kernel, rfl, by decide +kernel, by decide +kernel⟩
abbrev N__law_limits_hold : List Str := ["row", "pool", "sizes", "names", "count", "rules", "k", "at"]
abbrev ps__law_limits_hold : List Str := ["row", "pool"]
theorem sc__law_limits_hold : FnScope N__law_limits_hold ps__law_limits_hold (defScope st__law_limits_hold) := ⟨rfl, rfl, rfl, by decide +kernel, rfl, by decide +kernel, by decide +kernel⟩
abbrev N__law_checked : List Str := ["text", "e"]
abbrev ps__law_checked : List Str := ["text"]
theorem sc__law_checked : FnScope N__law_checked ps__law_checked (defScope st__law_checked) := ⟨rfl, rfl, rfl, by decide +kernel, rfl, by decide +kernel, by decide +kernel⟩
abbrev N__law_texts_hold : List Str := ["row", "bad", "letters", "size", "text", "k", "at", "other", "due"]
abbrev ps__law_texts_hold : List Str := ["row"]
theorem sc__law_texts_hold : FnScope N__law_texts_hold ps__law_texts_hold (defScope st__law_texts_hold) := ⟨rfl, rfl, rfl, by decide +kernel, rfl, by decide +kernel, by decide +kernel⟩
abbrev N__law_pairs_hold : List Str := ["row", "pool", "size", "text", "k", "cuts", "i", "ends", "pair", "other", "kind"]
abbrev ps__law_pairs_hold : List Str := ["row", "pool"]
theorem sc__law_pairs_hold : FnScope N__law_pairs_hold ps__law_pairs_hold (defScope st__law_pairs_hold) := ⟨rfl, rfl, rfl, by decide +kernel, rfl, by decide +kernel, by decide +kernel⟩
abbrev N_law : List Str := ["script", "row", "letters", "pool"]
abbrev ps_law : List Str := ["script"]
theorem sc_law : FnScope N_law ps_law (defScope st_law) := ⟨rfl, rfl, rfl, by decide +kernel, rfl, by decide +kernel, by decide +kernel⟩
structure Ad where
  f_bad_letter : Addr
  d_bad_letter : FuncData
  f_check_text : Addr
  d_check_text : FuncData
  f_pair_fits : Addr
  d_pair_fits : FuncData
  f_Forms___init__ : Addr
  d_Forms___init__ : FuncData
  f_Grammar___init__ : Addr
  d_Grammar___init__ : FuncData
  f_join_pairs : Addr
  d_join_pairs : FuncData
  f_is_leaf_text : Addr
  d_is_leaf_text : FuncData
  f_is_name : Addr
  d_is_name : FuncData
  f_is_pair_rule : Addr
  d_is_pair_rule : FuncData
  f_child_names : Addr
  d_child_names : FuncData
  f_PairGrammar___init__ : Addr
  d_PairGrammar___init__ : FuncData
  f__law_row : Addr
  d__law_row : FuncData
  f__law_same : Addr
  d__law_same : FuncData
  f__law_text : Addr
  d__law_text : FuncData
  f__law_join : Addr
  d__law_join : FuncData
  f__law_letters : Addr
  d__law_letters : FuncData
  f__law_fits : Addr
  d__law_fits : FuncData
  f__law_bad_place : Addr
  d__law_bad_place : FuncData
  f__law_good_rule : Addr
  d__law_good_rule : FuncData
  f__law_bad_rule : Addr
  d__law_bad_rule : FuncData
  f__law_is_valid : Addr
  d__law_is_valid : FuncData
  f__law_due : Addr
  d__law_due : FuncData
  f__law_made : Addr
  d__law_made : FuncData
  f__law_drawn_holds : Addr
  d__law_drawn_holds : FuncData
  f__law_limits_hold : Addr
  d__law_limits_hold : FuncData
  f__law_checked : Addr
  d__law_checked : FuncData
  f__law_texts_hold : Addr
  d__law_texts_hold : FuncData
  f__law_pairs_hold : Addr
  d__law_pairs_hold : FuncData
  f_law : Addr
  d_law : FuncData
  c_Fault : Addr
  c_BadText : Addr
  f_BadText___init__ : Addr
  d_BadText___init__ : FuncData
  c_TooMany : Addr
  f_TooMany___init__ : Addr
  d_TooMany___init__ : FuncData
  c_BadRule : Addr
  f_BadRule___init__ : Addr
  d_BadRule___init__ : FuncData
  c_Forms : Addr
  c_Grammar : Addr
  c_PairGrammar : Addr
  v_RULE_KINDS : Addr
/-! ### plain data -/
abbrev RawRule := Str × Key × Key × Key
def rawD (r : RawRule) : Dt := .tup [.str r.1, keyD r.2.1, keyD r.2.2.1, keyD r.2.2.2]
def letters : Str := "abcdefghijklmnopqrstuvwxyz"
def badL : List Nat → Int → Nat → Int
  | [], _, _ => -1
  | c :: l, m, k => if m ≤ (k : Int) ∨ ¬ c ∈ letters.cps.toList then (k : Int) else badL l m (k + 1)
def isLeaf : Key → Bool
  | .inr s => decide (badL s.cps.toList 12 0 < 0)
  | .inl _ => false
def isName (n : Int) : Key → Bool
  | .inl i => decide (0 ≤ i) && decide (i < n)
  | .inr _ => false
def isKind (s : Str) : Bool := decide (s = "leaf") || (decide (s = "wrap") || (decide (s = "left") || decide (s = "right")))
def okRule (n : Int) (r : RawRule) : Bool := isKind r.1 && (isName n r.2.1 && (if r.1 = "leaf" then isLeaf r.2.2.1 && isLeaf r.2.2.2 else isName n r.2.2.1 && isName n r.2.2.2))
def childs (r : RawRule) : List Key := if r.1 = "leaf" then [] else [r.2.2.1, r.2.2.2]
/-- a row of Forms: sort, number, children -/
abbrev Row := Key × Key × List Key
def rowD (r : Row) : Dt := .tup [keyD r.1, keyD r.2.1, .tup (r.2.2.map keyD)]
def chD (rows : List Row) : List (List Key × Dt) := rows.foldl (fun es r => putD es [r.1, r.2.1] (.tup (r.2.2.map keyD))) []
def nuD (rows : List Row) : List (Key × List Dt) := rows.foldl (fun es r => appP es r.1 (keyD r.2.1)) []
def arD (rows : List Row) : List (Key × Dt) := rows.foldl (fun es r => putD es r.2.1 (.int (r.2.2.length : Int))) []
def formsF (rows : List Row) : List (Str × Dt) := [("children", .dT (chD rows)), ("numbers", .dK ((nuD rows).map fun e => (e.1, .lst e.2))), ("arity", .dK (arD rows))]
/-- the children of a number for a sort -/
def chOf (rows : List Row) (s n : Key) : Option (List Key) := ((rows.reverse.find? fun r => decide (r.1 = s ∧ r.2.1 = n)).map fun r => r.2.2)
/-- the first place where the numbers are no list of what is due (top at the end) -/
def chk (rows : List Row) : List Key → List Key → Nat → Option Nat
  | due, [], k => if due = [] then none else some k
  | due, n :: ns, k => match due.getLast? with
    | none => some k
    | some s => match chOf rows s n with
      | none => some k
      | some cs => chk rows (due.dropLast ++ cs.reverse) ns (k + 1)
def rowsOf (rules : List RawRule) : List Row := (List.range rules.length).map fun i => ((rules.getD i ("", .inl 0, .inl 0, .inl 0)).2.1, .inl (i : Int), childs (rules.getD i ("", .inl 0, .inl 0, .inl 0)))
def gramF (C : Addr) (names : Int) (rules : List RawRule) : List (Str × Dt) := [("names", .int names), ("rules", .tup (rules.map rawD)), ("forms", .ins C (formsF (rowsOf rules)))]
abbrev Pair := Str × Str
def pairD (p : Pair) : Dt := .tup [.str p.1, .str p.2]
def joinP (k : Str) (p q : Pair) : Pair := if k = "wrap" then (p.1 ++ q.1, q.2 ++ p.2) else if k = "left" then (p.1 ++ p.2 ++ q.1, q.2) else (p.1, p.2 ++ q.1 ++ q.2)
def strK : Key → Str
  | .inr s => s
  | .inl _ => ""
/-- one rule on the stack of pairs (top at the end) -/
def stepP (r : RawRule) (w : List Pair) : List Pair := if r.1 = "leaf" then w ++ [(strK r.2.2.1, strK r.2.2.2)] else w.dropLast.dropLast ++ [joinP r.1 (w.getLastD ("", "")) (w.dropLast.getLastD ("", ""))]
def dR : RawRule := ("", .inl 0, .inl 0, .inl 0)
/-- the stack behind the numbers, from their end -/
def stackP (rules : List RawRule) (ns : List Int) : List Pair := ns.foldr (fun n w => stepP (rules.getD n.toNat dR) w) []
/-- the pair of each place -/
def toldP (rules : List RawRule) : List Int → List Pair
  | [] => []
  | n :: ns => (stackP rules (n :: ns)).getLastD ("", "") :: toldP rules ns
def intsD (ns : List Int) : Dt := .lst (ns.map Dt.int)
def okG (names : Int) (rules : List RawRule) : Prop := names ≤ 300 ∧ rules.length ≤ 900 ∧ ∀ r ∈ rules, okRule names r = true
def chkG (rules : List RawRule) (name : Int) (ns : List Int) : Option Nat := chk (rowsOf rules) [.inl name] (ns.map Sum.inl) 0
def placeX (k : Nat) : XF := some [(("place" : Str), V.int (k : Int))]
def limitX (k : Int) : XF := some [(("limit" : Str), V.int k)]
/-! ### promises -/
abbrev sp_bad_letter (K : PySem.W.Frag) (a : Ad) : Sp := SpP (α := Str × Int) (fun x => [.str x.1, .int x.2]) (fun _ => True) (fun x d => d = .int (badL x.1.cps.toList x.2 0)) (fun _ _ _ => False)
abbrev sp_Forms___init__ (K : PySem.W.Frag) (a : Ad) : Sp := SpX (α := Addr × List Row) (fun x ds M => ds = [.obj x.1, .lst (x.2.map rowD)] ∧ M = [(x.1, .d (.ins a.c_Forms []))] ∧ x.2.length ≤ 900) (fun x d M' => d = .non ∧ M' = [(x.1, .d (.ins a.c_Forms (formsF x.2)))]) (fun _ _ _ => False)
abbrev sp_join_pairs (K : PySem.W.Frag) (a : Ad) : Sp := SpP (α := Str × Pair × Pair) (fun x => [.str x.1, pairD x.2.1, pairD x.2.2]) (fun x => x.2.1.1.length + x.2.1.2.length + (x.2.2.1.length + x.2.2.2.length) ≤ sizeLine) (fun x d => d = pairD (joinP x.1 x.2.1 x.2.2)) (fun _ _ _ => False)
abbrev sp_is_leaf_text (K : PySem.W.Frag) (a : Ad) : Sp := SpP (α := Key) (fun x => [keyD x]) (fun _ => True) (fun x d => d = .bl (isLeaf x)) (fun _ _ _ => False)
abbrev sp_is_name (K : PySem.W.Frag) (a : Ad) : Sp := SpP (α := Key × Int) (fun x => [keyD x.1, .int x.2]) (fun _ => True) (fun x d => d = .bl (isName x.2 x.1)) (fun _ _ _ => False)
abbrev sp_is_pair_rule (K : PySem.W.Frag) (a : Ad) : Sp := SpP (α := RawRule × Int) (fun x => [rawD x.1, .int x.2]) (fun _ => True) (fun x d => d = .bl (okRule x.2 x.1)) (fun _ _ _ => False)
abbrev sp_child_names (K : PySem.W.Frag) (a : Ad) : Sp := SpP (α := RawRule) (fun x => [rawD x]) (fun _ => True) (fun x d => d = .tup ((childs x).map keyD)) (fun _ _ _ => False)
/-- the row of drawn numbers -/
def okRow (row : List Int) : Prop := row.length = 226 ∧ ∀ z ∈ row, 0 ≤ z ∧ z < 997
abbrev sp__law_row (K : PySem.W.Frag) (a : Ad) : Sp := SpSc K 63 (fun ns p ds => ds = [.obj p, .int 226]) (fun ns ds d => ∃ row, d = intsD row ∧ okRow row)
/-- a text of at most 12 letters -/
def okText (s : Str) : Prop := s.cps.size ≤ 12 ∧ ∀ c ∈ s.cps.toList, c ∈ letters.cps.toList
/-- rules as they are drawn: names in all, each with a leaf rule -/
def okRules (names : Int) (rules : List RawRule) : Prop := 1 ≤ names ∧ names ≤ 5 ∧ rules.length ≤ 20 ∧ rules ≠ [] ∧ (∀ r ∈ rules, okRule names r = true) ∧ ∀ i : Nat, (i : Int) < names → ∃ x y : Key, (("leaf", Sum.inl (i : Int), x, y) : RawRule) ∈ rules
abbrev sp__law_join (K : PySem.W.Frag) (a : Ad) : Sp := sp_join_pairs K a
/-- what _law_told tells -/
def toldD (rules : List RawRule) (name : Int) (ns : List Int) (whole : Bool) : Dt := match chkG rules name ns with
  | some k => .tup [.str "bad", .int (k : Nat)]
  | none => .tup [.str "good", if whole then pairD ((stackP rules ns).getLastD ("", "")) else .non]
/-! ### k89: pair rules, limits and texts -/
def firstBad (n : Int) : List RawRule → Nat → Option Nat
  | [], _ => none
  | r :: rs, k => if okRule n r = true then firstBad n rs (k + 1) else some k
def initX (a : Ad) (n : Int) (len : Nat) (bad : Option Nat) (C : Addr) (o : XF) : Prop := (300 < n ∧ C = a.c_TooMany ∧ o = limitX 300) ∨ (n ≤ 300 ∧ 900 < len ∧ C = a.c_TooMany ∧ o = limitX 900) ∨ (n ≤ 300 ∧ len ≤ 900 ∧ ∃ k, bad = some k ∧ C = a.c_BadRule ∧ o = placeX k)
abbrev sp_Grammar___init__ (K : PySem.W.Frag) (a : Ad) : Sp := SpX (α := (Addr × Addr) × Int × Dt × List Dt × List (Addr × MO)) (fun x ds M => ds = [.obj x.1.1, .int x.2.1, x.2.2.1] ∧ M = (x.1.1, .d (.ins x.1.2 [])) :: x.2.2.2.2 ∧ DAt x.2.2.2.2 x.2.2.1 (.lst x.2.2.2.1) ∧ (x.1.2 = a.c_PairGrammar ∨ x.1.2 = a.c_Grammar))
  (fun x d M' => d = .non ∧ x.2.1 ≤ 300 ∧ x.2.2.2.1.length ≤ 900 ∧ M' = (x.1.1, .d (.ins x.1.2 [("names", .int x.2.1), ("rules", .tup x.2.2.2.1)])) :: x.2.2.2.2)
  (fun x C o => C = a.c_TooMany ∧ ((300 < x.2.1 ∧ o = limitX 300) ∨ (x.2.1 ≤ 300 ∧ 900 < x.2.2.2.1.length ∧ o = limitX 900)))
abbrev sp_PairGrammar___init__ (K : PySem.W.Frag) (a : Ad) : Sp := SpX (α := Addr × Int × Dt × List RawRule × List (Addr × MO)) (fun x ds M => ds = [.obj x.1, .int x.2.1, x.2.2.1] ∧ M = (x.1, .d (.ins a.c_PairGrammar [])) :: x.2.2.2.2 ∧ DAt x.2.2.2.2 x.2.2.1 (.lst (x.2.2.2.1.map rawD)))
  (fun x d M' => d = .non ∧ okG x.2.1 x.2.2.2.1 ∧ M' = (x.1, .d (.ins a.c_PairGrammar (gramF a.c_Forms x.2.1 x.2.2.2.1))) :: x.2.2.2.2)
  (fun x C o => initX a x.2.1 x.2.2.2.1.length (firstBad x.2.1 x.2.2.2.1 0) C o)
abbrev sp_check_text (K : PySem.W.Frag) (a : Ad) : Sp := SpP (α := Str) (fun x => [.str x, .int 60]) (fun x => x.length ≤ 1000000) (fun x d => d = .non ∧ badL x.cps.toList 60 0 < 0)
  (fun x C o => C = a.c_BadText ∧ ∃ k : Nat, badL x.cps.toList 60 0 = (k : Int) ∧ o = placeX k)
def fitsB (t l r : Str) : Bool := decide (0 ≤ Txt.find t l) && (decide (0 ≤ Txt.rfind t r) && decide (Txt.find t l + (l.length : Int) ≤ Txt.rfind t r))
abbrev sp_pair_fits (K : PySem.W.Frag) (a : Ad) : Sp := SpP (α := Str × Pair) (fun x => [.str x.1, pairD x.2]) (fun x => x.1.length ≤ 1000000 ∧ x.2.1.length ≤ 1000000) (fun x d => d = .bl (fitsB x.1 x.2.1 x.2.2)) (fun _ _ _ => False)
/-! the law's own -/
abbrev sp__law_same (K : PySem.W.Frag) (a : Ad) : Sp := SpP (α := Dt) (fun x => [x, x]) (fun x => smOk 40 x = true ∧ szD x ≤ 100000) (fun x d => d = .bl true) (fun _ _ _ => False)
def lenT (n : Int) : Nat := ([0, 1, 1, 2, 2, 3, 0, 1, 1, 2, 1, 12] : List Nat).getD (n % 12).toNat 0
def chrAt (i : Int) : Nat := letters.cps.toList.getD (i % 26).toNat 97
def textF (n : Int) : Str := ⟨((List.range (lenT n)).map fun k : Nat => chrAt (n / 12 + (k : Int) * (1 + n % 5))).toArray⟩
abbrev sp__law_text (K : PySem.W.Frag) (a : Ad) : Sp := SpP (α := Int) (fun x => [.int x]) (fun x => 0 ≤ x ∧ x < 997) (fun x d => d = .str (textF x)) (fun _ _ _ => False)
def okPool (p : Str) : Prop := p.length = 2 ∧ ∀ c ∈ p.cps.toList, c ∈ letters.cps.toList
abbrev sp__law_letters (K : PySem.W.Frag) (a : Ad) : Sp := SpP (α := Int × Int × Str) (fun x => [.int x.1, .int x.2.1, .str x.2.2]) (fun x => 0 ≤ x.1 ∧ x.1 < 997 ∧ 0 ≤ x.2.1 ∧ x.2.1 ≤ 100 ∧ okPool x.2.2) (fun x d => ∃ s : Str, d = .str s ∧ (s.length : Int) = x.2.1 ∧ ∀ c ∈ s.cps.toList, c ∈ letters.cps.toList) (fun _ _ _ => False)
abbrev sp__law_fits (K : PySem.W.Frag) (a : Ad) : Sp := SpP (α := Str × Str × Str) (fun x => [.str x.1, .str x.2.1, .str x.2.2]) (fun x => x.1.length ≤ 1000 ∧ x.2.1.length ≤ 1000 ∧ x.2.2.length ≤ 1000) (fun x d => d = .bl (fitsB x.1 x.2.1 x.2.2)) (fun _ _ _ => False)
abbrev sp__law_bad_place (K : PySem.W.Frag) (a : Ad) : Sp := SpP (α := Str × Int) (fun x => [.str x.1, .int x.2]) (fun x => x.1.length ≤ 1000000) (fun x d => d = .int (badL x.1.cps.toList x.2 0)) (fun _ _ _ => False)
def goodF (drawn : List Int) (names : Int) : RawRule :=
  if drawn.getD 0 0 % 4 = 0 then ("leaf", .inl (if drawn.getD 4 0 % 2 = 0 then drawn.getD 1 0 % names else names - 1), .inr (textF (drawn.getD 2 0)), .inr (textF (drawn.getD 3 0)))
  else ((["leaf", "wrap", "left", "right"] : List Str).getD (drawn.getD 0 0 % 4).toNat "", .inl (if drawn.getD 4 0 % 2 = 0 then drawn.getD 1 0 % names else names - 1), .inl (drawn.getD 2 0 % names), .inl (if drawn.getD 5 0 % 2 = 0 then names - 1 else drawn.getD 3 0 % names))
def okDrawn (drawn : List Int) : Prop := drawn.length = 6 ∧ ∀ z ∈ drawn, 0 ≤ z ∧ z < 997
abbrev sp__law_good_rule (K : PySem.W.Frag) (a : Ad) : Sp := SpP (α := List Int × Int) (fun x => [intsD x.1, .int x.2]) (fun x => okDrawn x.1 ∧ 1 ≤ x.2) (fun x d => d = rawD (goodF x.1 x.2)) (fun _ _ _ => False)
/-- a rule that can be judged -/
def okRaw (r : RawRule) : Prop := (∃ z : Int, r.2.1 = .inl z) ∧ smOk 1 (rawD r) = true ∧ eqOk 1 (rawD r) = true ∧ ∀ s : Str, (r.2.2.1 = .inr s ∨ r.2.2.2 = .inr s) → s.length ≤ 1000
abbrev sp__law_bad_rule (K : PySem.W.Frag) (a : Ad) : Sp := SpP (α := List Int × Int × Str) (fun x => [intsD x.1, .int x.2.1, .str x.2.2]) (fun x => okDrawn x.1 ∧ 1 ≤ x.2.1 ∧ okPool x.2.2) (fun x d => ∃ r, d = rawD r ∧ okRaw r) (fun _ _ _ => False)
abbrev sp__law_is_valid (K : PySem.W.Frag) (a : Ad) : Sp := SpP (α := RawRule × Int) (fun x => [rawD x.1, .int x.2]) (fun x => okRaw x.1) (fun x d => d = .bl (okRule x.2 x.1)) (fun _ _ _ => False)
def dueG (n : Int) (rules : List RawRule) : Dt := if 300 < n then .lst [.str "many", .int 300] else if 900 < rules.length then .lst [.str "many", .int 900] else
  match firstBad n rules 0 with
  | some k => .lst [.str "bad", .int (k : Nat)]
  | none => .lst [.str "made", .int n, .tup (rules.map rawD)]
abbrev sp__law_due (K : PySem.W.Frag) (a : Ad) : Sp := SpP (α := Int × List RawRule) (fun x => [.int x.1, .lst (x.2.map rawD)]) (fun x => x.2.length ≤ 2000 ∧ ∀ r ∈ x.2, okRaw r) (fun x d => d = dueG x.1 x.2) (fun _ _ _ => False)
abbrev sp__law_made (K : PySem.W.Frag) (a : Ad) : Sp := SpP (α := Int × List RawRule) (fun x => [.int x.1, .lst (x.2.map rawD)]) (fun x => x.2.length ≤ 2000 ∧ ∀ r ∈ x.2, okRaw r) (fun x d => d = dueG x.1 x.2) (fun _ _ _ => False)
abbrev sp__law_drawn_holds (K : PySem.W.Frag) (a : Ad) : Sp := SpP (α := List Int × Str) (fun x => [intsD x.1, .str x.2]) (fun x => okRow x.1 ∧ okPool x.2) (fun x d => d = .bl true) (fun _ _ _ => False)
abbrev sp__law_limits_hold (K : PySem.W.Frag) (a : Ad) : Sp := SpP (α := List Int × Str) (fun x => [intsD x.1, .str x.2]) (fun x => okRow x.1 ∧ okPool x.2) (fun x d => d = .bl true) (fun _ _ _ => False)
def checkD (t : Str) : Dt := if badL t.cps.toList 60 0 < 0 then .lst [.str "told", .non] else .lst [.str "bad", .int (badL t.cps.toList 60 0)]
abbrev sp__law_checked (K : PySem.W.Frag) (a : Ad) : Sp := SpP (α := Str) (fun x => [.str x]) (fun x => x.length ≤ 1000000) (fun x d => d = checkD x) (fun _ _ _ => False)
abbrev sp__law_texts_hold (K : PySem.W.Frag) (a : Ad) : Sp := SpP (α := List Int) (fun x => [intsD x]) (fun x => okRow x) (fun x d => d = .bl true) (fun _ _ _ => False)
abbrev sp__law_pairs_hold (K : PySem.W.Frag) (a : Ad) : Sp := SpP (α := List Int × Str) (fun x => [intsD x.1, .str x.2]) (fun x => okRow x.1 ∧ okPool x.2) (fun x d => d = .bl true) (fun _ _ _ => False)
abbrev sp_law (K : PySem.W.Frag) (a : Ad) : Sp := SpSc K 63 (fun ns p ds => ds = [.obj p]) (fun ns ds d => d = .bl true)

structure Txt (P : Program) (K : PySem.W.Frag) (mg : Str → Option Value) (a : Ad) : Prop where
  g_bad_letter : mg "bad_letter" = some (.ref a.f_bad_letter)
  F_bad_letter : FunD K "bad_letter" "bad_letter" (defArgs st_bad_letter) (defBody st_bad_letter) (defScope st_bad_letter) [] [] a.f_bad_letter a.d_bad_letter
  b_bad_letter : Binds K a.d_bad_letter ps_bad_letter []
  g_check_text : mg "check_text" = some (.ref a.f_check_text)
  F_check_text : FunD K "check_text" "check_text" (defArgs st_check_text) (defBody st_check_text) (defScope st_check_text) [.int 60] [] a.f_check_text a.d_check_text
  b_check_text : Binds K a.d_check_text ps_check_text []
  g_pair_fits : mg "pair_fits" = some (.ref a.f_pair_fits)
  F_pair_fits : FunD K "pair_fits" "pair_fits" (defArgs st_pair_fits) (defBody st_pair_fits) (defScope st_pair_fits) [] [] a.f_pair_fits a.d_pair_fits
  b_pair_fits : Binds K a.d_pair_fits ps_pair_fits []
  F_Forms___init__ : FunD K "__init__" "Forms.__init__" (defArgs st_Forms___init__) (defBody st_Forms___init__) (defScope st_Forms___init__) [] [] a.f_Forms___init__ a.d_Forms___init__
  b_Forms___init__ : Binds K a.d_Forms___init__ ps_Forms___init__ []
  F_Grammar___init__ : FunD K "__init__" "Grammar.__init__" (defArgs st_Grammar___init__) (defBody st_Grammar___init__) (defScope st_Grammar___init__) [] [] a.f_Grammar___init__ a.d_Grammar___init__
  b_Grammar___init__ : Binds K a.d_Grammar___init__ ps_Grammar___init__ []
  g_join_pairs : mg "join_pairs" = some (.ref a.f_join_pairs)
  F_join_pairs : FunD K "join_pairs" "join_pairs" (defArgs st_join_pairs) (defBody st_join_pairs) (defScope st_join_pairs) [] [] a.f_join_pairs a.d_join_pairs
  b_join_pairs : Binds K a.d_join_pairs ps_join_pairs []
  g_is_leaf_text : mg "is_leaf_text" = some (.ref a.f_is_leaf_text)
  F_is_leaf_text : FunD K "is_leaf_text" "is_leaf_text" (defArgs st_is_leaf_text) (defBody st_is_leaf_text) (defScope st_is_leaf_text) [] [] a.f_is_leaf_text a.d_is_leaf_text
  b_is_leaf_text : Binds K a.d_is_leaf_text ps_is_leaf_text []
  g_is_name : mg "is_name" = some (.ref a.f_is_name)
  F_is_name : FunD K "is_name" "is_name" (defArgs st_is_name) (defBody st_is_name) (defScope st_is_name) [] [] a.f_is_name a.d_is_name
  b_is_name : Binds K a.d_is_name ps_is_name []
  g_is_pair_rule : mg "is_pair_rule" = some (.ref a.f_is_pair_rule)
  F_is_pair_rule : FunD K "is_pair_rule" "is_pair_rule" (defArgs st_is_pair_rule) (defBody st_is_pair_rule) (defScope st_is_pair_rule) [] [] a.f_is_pair_rule a.d_is_pair_rule
  b_is_pair_rule : Binds K a.d_is_pair_rule ps_is_pair_rule []
  g_child_names : mg "child_names" = some (.ref a.f_child_names)
  F_child_names : FunD K "child_names" "child_names" (defArgs st_child_names) (defBody st_child_names) (defScope st_child_names) [] [] a.f_child_names a.d_child_names
  b_child_names : Binds K a.d_child_names ps_child_names []
  F_PairGrammar___init__ : LX.SupD K P mg "__init__" "PairGrammar.__init__" st_PairGrammar___init__ a.f_PairGrammar___init__ a.d_PairGrammar___init__ a.c_PairGrammar
  b_PairGrammar___init__ : Binds K a.d_PairGrammar___init__ ps_PairGrammar___init__ []
  g__law_row : mg "_law_row" = some (.ref a.f__law_row)
  F__law_row : FunD K "_law_row" "_law_row" (defArgs st__law_row) (defBody st__law_row) (defScope st__law_row) [] [] a.f__law_row a.d__law_row
  b__law_row : Binds K a.d__law_row ps__law_row []
  g__law_same : mg "_law_same" = some (.ref a.f__law_same)
  F__law_same : FunD K "_law_same" "_law_same" (defArgs st__law_same) (defBody st__law_same) (defScope st__law_same) [] [] a.f__law_same a.d__law_same
  b__law_same : Binds K a.d__law_same ps__law_same []
  g__law_text : mg "_law_text" = some (.ref a.f__law_text)
  F__law_text : FunD K "_law_text" "_law_text" (defArgs st__law_text) (defBody st__law_text) (defScope st__law_text) [] [] a.f__law_text a.d__law_text
  b__law_text : Binds K a.d__law_text ps__law_text []
  g__law_join : mg "_law_join" = some (.ref a.f__law_join)
  F__law_join : FunD K "_law_join" "_law_join" (defArgs st__law_join) (defBody st__law_join) (defScope st__law_join) [] [] a.f__law_join a.d__law_join
  b__law_join : Binds K a.d__law_join ps__law_join []
  g__law_letters : mg "_law_letters" = some (.ref a.f__law_letters)
  F__law_letters : FunD K "_law_letters" "_law_letters" (defArgs st__law_letters) (defBody st__law_letters) (defScope st__law_letters) [] [] a.f__law_letters a.d__law_letters
  b__law_letters : Binds K a.d__law_letters ps__law_letters []
  g__law_fits : mg "_law_fits" = some (.ref a.f__law_fits)
  F__law_fits : FunD K "_law_fits" "_law_fits" (defArgs st__law_fits) (defBody st__law_fits) (defScope st__law_fits) [] [] a.f__law_fits a.d__law_fits
  b__law_fits : Binds K a.d__law_fits ps__law_fits []
  g__law_bad_place : mg "_law_bad_place" = some (.ref a.f__law_bad_place)
  F__law_bad_place : FunD K "_law_bad_place" "_law_bad_place" (defArgs st__law_bad_place) (defBody st__law_bad_place) (defScope st__law_bad_place) [] [] a.f__law_bad_place a.d__law_bad_place
  b__law_bad_place : Binds K a.d__law_bad_place ps__law_bad_place []
  g__law_good_rule : mg "_law_good_rule" = some (.ref a.f__law_good_rule)
  F__law_good_rule : FunD K "_law_good_rule" "_law_good_rule" (defArgs st__law_good_rule) (defBody st__law_good_rule) (defScope st__law_good_rule) [] [] a.f__law_good_rule a.d__law_good_rule
  b__law_good_rule : Binds K a.d__law_good_rule ps__law_good_rule []
  g__law_bad_rule : mg "_law_bad_rule" = some (.ref a.f__law_bad_rule)
  F__law_bad_rule : FunD K "_law_bad_rule" "_law_bad_rule" (defArgs st__law_bad_rule) (defBody st__law_bad_rule) (defScope st__law_bad_rule) [] [] a.f__law_bad_rule a.d__law_bad_rule
  b__law_bad_rule : Binds K a.d__law_bad_rule ps__law_bad_rule []
  g__law_is_valid : mg "_law_is_valid" = some (.ref a.f__law_is_valid)
  F__law_is_valid : FunD K "_law_is_valid" "_law_is_valid" (defArgs st__law_is_valid) (defBody st__law_is_valid) (defScope st__law_is_valid) [] [] a.f__law_is_valid a.d__law_is_valid
  b__law_is_valid : Binds K a.d__law_is_valid ps__law_is_valid []
  g__law_due : mg "_law_due" = some (.ref a.f__law_due)
  F__law_due : FunD K "_law_due" "_law_due" (defArgs st__law_due) (defBody st__law_due) (defScope st__law_due) [] [] a.f__law_due a.d__law_due
  b__law_due : Binds K a.d__law_due ps__law_due []
  g__law_made : mg "_law_made" = some (.ref a.f__law_made)
  F__law_made : FunD K "_law_made" "_law_made" (defArgs st__law_made) (defBody st__law_made) (defScope st__law_made) [] [] a.f__law_made a.d__law_made
  b__law_made : Binds K a.d__law_made ps__law_made []
  g__law_drawn_holds : mg "_law_drawn_holds" = some (.ref a.f__law_drawn_holds)
  F__law_drawn_holds : FunD K "_law_drawn_holds" "_law_drawn_holds" (defArgs st__law_drawn_holds) (defBody st__law_drawn_holds) (defScope st__law_drawn_holds) [] [] a.f__law_drawn_holds a.d__law_drawn_holds
  b__law_drawn_holds : Binds K a.d__law_drawn_holds ps__law_drawn_holds []
  g__law_limits_hold : mg "_law_limits_hold" = some (.ref a.f__law_limits_hold)
  F__law_limits_hold : FunD K "_law_limits_hold" "_law_limits_hold" (defArgs st__law_limits_hold) (defBody st__law_limits_hold) (defScope st__law_limits_hold) [] [] a.f__law_limits_hold a.d__law_limits_hold
  b__law_limits_hold : Binds K a.d__law_limits_hold ps__law_limits_hold []
  g__law_checked : mg "_law_checked" = some (.ref a.f__law_checked)
  F__law_checked : FunD K "_law_checked" "_law_checked" (defArgs st__law_checked) (defBody st__law_checked) (defScope st__law_checked) [] [] a.f__law_checked a.d__law_checked
  b__law_checked : Binds K a.d__law_checked ps__law_checked []
  g__law_texts_hold : mg "_law_texts_hold" = some (.ref a.f__law_texts_hold)
  F__law_texts_hold : FunD K "_law_texts_hold" "_law_texts_hold" (defArgs st__law_texts_hold) (defBody st__law_texts_hold) (defScope st__law_texts_hold) [] [] a.f__law_texts_hold a.d__law_texts_hold
  b__law_texts_hold : Binds K a.d__law_texts_hold ps__law_texts_hold []
  g__law_pairs_hold : mg "_law_pairs_hold" = some (.ref a.f__law_pairs_hold)
  F__law_pairs_hold : FunD K "_law_pairs_hold" "_law_pairs_hold" (defArgs st__law_pairs_hold) (defBody st__law_pairs_hold) (defScope st__law_pairs_hold) [] [] a.f__law_pairs_hold a.d__law_pairs_hold
  b__law_pairs_hold : Binds K a.d__law_pairs_hold ps__law_pairs_hold []
  g_law : mg "law" = some (.ref a.f_law)
  F_law : FunD K "law" "law" (defArgs st_law) (defBody st_law) (defScope st_law) [] [] a.f_law a.d_law
  b_law : Binds K a.d_law ps_law []
  gc_Fault : mg "Fault" = some (.ref a.c_Fault)
  e_BadText : LX.ErrTxt K P mg "BadText" "place" st_BadText___init__ a.c_BadText a.f_BadText___init__ a.d_BadText___init__
  e_TooMany : LX.ErrTxt K P mg "TooMany" "limit" st_TooMany___init__ a.c_TooMany a.f_TooMany___init__ a.d_TooMany___init__
  e_BadRule : LX.ErrTxt K P mg "BadRule" "place" st_BadRule___init__ a.c_BadRule a.f_BadRule___init__ a.d_BadRule___init__
  xf_TooMany : XfC K a.c_TooMany
  xn_TooMany_limit : PySem.W.findIn K (.ref a.c_TooMany) "limit" = some none
  xf_BadRule : XfC K a.c_BadRule
  xn_BadRule_place : PySem.W.findIn K (.ref a.c_BadRule) "place" = some none
  xf_BadText : XfC K a.c_BadText
  xn_BadText_place : PySem.W.findIn K (.ref a.c_BadText) "place" = some none
  gc_Forms : mg "Forms" = some (.ref a.c_Forms)
  cl_Forms : Cls K a.c_Forms
  mk_Forms : Mk K a.c_Forms a.f_Forms___init__
  n_Forms_children : NoAttr K a.c_Forms "children"
  n_Forms_numbers : NoAttr K a.c_Forms "numbers"
  n_Forms_arity : NoAttr K a.c_Forms "arity"
  gc_Grammar : mg "Grammar" = some (.ref a.c_Grammar)
  cl_Grammar : Cls K a.c_Grammar
  mk_Grammar : Mk K a.c_Grammar a.f_Grammar___init__
  n_Grammar_names : NoAttr K a.c_Grammar "names"
  n_Grammar_rules : NoAttr K a.c_Grammar "rules"
  gc_PairGrammar : mg "PairGrammar" = some (.ref a.c_PairGrammar)
  cl_PairGrammar : Cls K a.c_PairGrammar
  mk_PairGrammar : Mk K a.c_PairGrammar a.f_PairGrammar___init__
  n_PairGrammar_names : NoAttr K a.c_PairGrammar "names"
  n_PairGrammar_rules : NoAttr K a.c_PairGrammar "rules"
  n_PairGrammar_forms : NoAttr K a.c_PairGrammar "forms"
  su_PairGrammar : LX.SupM K a.c_PairGrammar a.c_PairGrammar a.f_Grammar___init__
  z_len : mg "len" = none
  z_int : mg "int" = none
  z_min : mg "min" = none
  z_list : mg "list" = none
  z_tuple : mg "tuple" = none
  z_isinstance : mg "isinstance" = none
  z_range : mg "range" = none
  z_enumerate : mg "enumerate" = none
  z_str : mg "str" = none
  z_bool : mg "bool" = none
  z_ValueError : mg "ValueError" = none
  z_sorted : mg "sorted" = none
  v_LETTERS : ∃ t, mg "LETTERS" = some (.str "abcdefghijklmnopqrstuvwxyz" t)
  v_MOST_LEAF : ∃ t, mg "MOST_LEAF" = some (.int 12 t)
  v_MOST_NAMES : ∃ t, mg "MOST_NAMES" = some (.int 300 t)
  v_MOST_RULES : ∃ t, mg "MOST_RULES" = some (.int 900 t)
  v_RULE_KINDS : mg "RULE_KINDS" = some (.ref a.v_RULE_KINDS)
  w_RULE_KINDS : ∀ H, SqT K H a.v_RULE_KINDS [.str "leaf", .str "wrap", .str "left", .str "right"]
  ec_BadText : ExcC K a.c_BadText
  ec_TooMany : ExcC K a.c_TooMany
  ec_BadRule : ExcC K a.c_BadRule
  kt_BadText_BadText : PySem.W.kitOne K (.ref a.c_BadText) (.ref a.c_BadText) = some true
  kt_BadText_TooMany : PySem.W.kitOne K (.ref a.c_BadText) (.ref a.c_TooMany) = some false
  kt_BadText_ValueError : PySem.W.kitOne K (.ref a.c_BadText) (.type "ValueError") = some true
  kt_TooMany_TooMany : PySem.W.kitOne K (.ref a.c_TooMany) (.ref a.c_TooMany) = some true
  kt_TooMany_BadRule : PySem.W.kitOne K (.ref a.c_TooMany) (.ref a.c_BadRule) = some false
  kt_TooMany_ValueError : PySem.W.kitOne K (.ref a.c_TooMany) (.type "ValueError") = some true
  kt_BadRule_TooMany : PySem.W.kitOne K (.ref a.c_BadRule) (.ref a.c_TooMany) = some false
  kt_BadRule_BadRule : PySem.W.kitOne K (.ref a.c_BadRule) (.ref a.c_BadRule) = some true
  kt_BadRule_ValueError : PySem.W.kitOne K (.ref a.c_BadRule) (.type "ValueError") = some true
  xm_BadText_Fault : PySem.W.exmOne K (.ref a.c_BadText) (.ref a.c_Fault) = some true
  xm_TooMany_Fault : PySem.W.exmOne K (.ref a.c_TooMany) (.ref a.c_Fault) = some true
  xm_BadRule_Fault : PySem.W.exmOne K (.ref a.c_BadRule) (.ref a.c_Fault) = some true
  ic_PairGrammar : LD.InsC K a.c_PairGrammar
  dv1_check_text : ∃ ds, Vals [.int 60] ds ∧ Binds K a.d_check_text ps_check_text ds
  kt_PairGrammar_Grammar : PySem.W.kitOne K (.ref a.c_PairGrammar) (.ref a.c_Grammar) = some true
  con_PairGrammar_KIND : ∃ u, Con K a.c_PairGrammar "KIND" (.str "pairs") u
  cval_PairGrammar_KIND : ∃ mc u, ClX.CRead K a.c_PairGrammar mc ∧ ClX.CVal K a.c_PairGrammar mc "KIND" (.str "pairs") u
section
variable {P : Program} {w : World} {K : PySem.W.Frag} {mg : Str → Option Value} {base : Heap} {a : Ad}
/-- bad_letter: level 3 -/
def t_bad_letter (K : PySem.W.Frag) (a : Ad) (E : XK) : TS := tSeq (tFor (LX.iEnumA K (tCons (tVar 0) tNil)) (gTup K 2 (gCons (gName 2) (gCons (gName 3) (gNil)))) (tIfS (tOr (tTest (tOp (rI0 fun i j => .bl (decide (j ≤ i))) (tVar 2) (tVar 1))) (tTest (tOp (rNotInA K) (tVar 3) (tC (.str "abcdefghijklmnopqrstuvwxyz"))))) (tRet (tVar 2)) (tNext))) (tRet (tUn (rU fun i => .int (-i)) (tC (.int 1))))
theorem tm_bad_letter (T : Txt P K mg a)  {cdv : Value} {A : Around} {outer : List Env} {s : Shared} {H : Hp} {E : XK} (hr : Room 2 (cxOf (L2.CX P w) P w K mg base N_bad_letter "bad_letter" (defScope st_bad_letter) a.f_bad_letter cdv A outer s H E).A) : PSs (cxOf (L2.CX P w) P w K mg base N_bad_letter "bad_letter" (defScope st_bad_letter) a.f_bad_letter cdv A outer s H E) (defBody st_bad_letter) (t_bad_letter K a E) :=
  pss_cons (ps_for (passes_of rfl) rfl (LX.pi_enumA rfl T.z_enumerate (pa_cons (pv 0) pa_nil)) (pg_tup rfl (pgs_cons (pg_name (i := 2) sc_bad_letter.nd rfl (Or.inl rfl)) (pgs_cons (pg_name (i := 3) sc_bad_letter.nd rfl (Or.inl rfl)) (pgs_nil)))) (pss_one (ps_if ((pw_or (pt_cmpR op_ge (pv 2) (pv 1) (nomark _)) (pw_or1 (pt_cmpR op_notInA (pv 3) (pe_glob (v := .str "abcdefghijklmnopqrstuvwxyz") (by rfl) (T.v_LETTERS).choose_spec ⟨_, rfl⟩) rfl))).pt) (pss_one (ps_ret (pv 2))) (pss_nil)))) (pss_one (ps_ret (pe_un un_neg (pe_int))))
theorem ok_bad_letter (T : Txt P K mg a)  (len : ∀ vs H Q E, sp_bad_letter K a vs H Q E → vs.length = ps_bad_letter.length) (hd : ∀ vs H Q E, sp_bad_letter K a vs H Q E → t_bad_letter K a E { nx := fun _ H' => Q .non H', rt := Q } (L2.start N_bad_letter vs) H) :
    FnOk P w K mg base (L2.CX P w) 3 a.f_bad_letter a.d_bad_letter ps_bad_letter (sp_bad_letter K a) := T.F_bad_letter.ok sc_bad_letter len fun cdv A outer s H vs Q E hr h => ⟨t_bad_letter K a E, tm_bad_letter T  hr, hd vs H Q E h⟩
/-- check_text: level 5 -/
def t_check_text (K : PySem.W.Frag) (a : Ad) (E : XK) : TS := tSeq (tAsg (tCallSD (sp_bad_letter K a) [] (WE (fun cls d _ H => E cls d H)) (tCons (tVar 0) (tCons (tVar 1) (tNil)))) (gName 2)) (tIfS (tTest (tOp (rI0 fun i j => .bl (decide (j ≤ i))) (tVar 2) (tC (.int 0)))) (LX.tRaise a.c_BadText "place" (fun cls d _ H => E cls d H) (tCons (tVar 2) (tNil))) (tNext))
theorem tm_check_text (T : Txt P K mg a) (G_bad_letter : FnOk P w K mg base (L2.CX P w) 3 a.f_bad_letter a.d_bad_letter ps_bad_letter (sp_bad_letter K a)) {cdv : Value} {A : Around} {outer : List Env} {s : Shared} {H : Hp} {E : XK} (hr : Room 4 (cxOf (L2.CX P w) P w K mg base N_check_text "check_text" (defScope st_check_text) a.f_check_text cdv A outer s H E).A) : PSs (cxOf (L2.CX P w) P w K mg base N_check_text "check_text" (defScope st_check_text) a.f_check_text cdv A outer s H E) (defBody st_check_text) (t_check_text K a E) :=
  pss_cons (ps_set (i := 2) sc_check_text.nd rfl (Or.inl rfl) (pe_callSD (G_bad_letter) (hr.mono (by decide)) (by rfl) T.g_bad_letter T.F_bad_letter.kp T.b_bad_letter .nil (fun σ => passAt (takes_of rfl rfl rfl rfl) σ) (pa_cons (pv 0) (pa_cons (pv 1) (pa_nil))))) (pss_one (ps_if (pt_cmpR op_ge (pv 2) (pe_int) (nomark _)) (pss_one (LX.ps_raiseE rfl T.e_BadText hr (takes_of rfl rfl rfl rfl) (pa_cons (pv 2) (pa_nil)) rfl)) (pss_nil)))
theorem ok_check_text (T : Txt P K mg a) (G_bad_letter : FnOk P w K mg base (L2.CX P w) 3 a.f_bad_letter a.d_bad_letter ps_bad_letter (sp_bad_letter K a)) (len : ∀ vs H Q E, sp_check_text K a vs H Q E → vs.length = ps_check_text.length) (hd : ∀ vs H Q E, sp_check_text K a vs H Q E → t_check_text K a E { nx := fun _ H' => Q .non H', rt := Q } (L2.start N_check_text vs) H) :
    FnOk P w K mg base (L2.CX P w) 5 a.f_check_text a.d_check_text ps_check_text (sp_check_text K a) := T.F_check_text.ok sc_check_text len fun cdv A outer s H vs Q E hr h => ⟨t_check_text K a E, tm_check_text T G_bad_letter hr, hd vs H Q E h⟩
/-- pair_fits: level 3 -/
def t_pair_fits (K : PySem.W.Frag) (a : Ad) (E : XK) : TS := tSeq (tAsg (tVar 1) (gTup K 2 (gCons (gName 2) (gCons (gName 3) (gNil))))) (tSeq (tAsg (tM1 LX.rFind (tVar 0) (tVar 2)) (gName 4)) (tSeq (tAsg (tM1 LX.rRfind (tVar 0) (tVar 3)) (gName 5)) (tRet (tAndV (tOp (rI0 fun i j => .bl (decide (j ≤ i))) (tVar 4) (tC (.int 0))) (tAndV (tOp (rI0 fun i j => .bl (decide (j ≤ i))) (tVar 5) (tC (.int 0))) (tOp (rI0 fun i j => .bl (decide (i ≤ j))) (tOp (rPlus K) (tVar 4) (tCB (LD.rLen K) (tCons (tVar 2) (tNil)))) (tVar 5)))))))
theorem tm_pair_fits (T : Txt P K mg a)  {cdv : Value} {A : Around} {outer : List Env} {s : Shared} {H : Hp} {E : XK} (hr : Room 2 (cxOf (L2.CX P w) P w K mg base N_pair_fits "pair_fits" (defScope st_pair_fits) a.f_pair_fits cdv A outer s H E).A) : PSs (cxOf (L2.CX P w) P w K mg base N_pair_fits "pair_fits" (defScope st_pair_fits) a.f_pair_fits cdv A outer s H E) (defBody st_pair_fits) (t_pair_fits K a E) :=
  pss_cons (ps_asg (pv 1) (pg_tup rfl (pgs_cons (pg_name (i := 2) sc_pair_fits.nd rfl (Or.inl rfl)) (pgs_cons (pg_name (i := 3) sc_pair_fits.nd rfl (Or.inl rfl)) (pgs_nil))))) (pss_cons (ps_set (i := 4) sc_pair_fits.nd rfl (Or.inl rfl) (LX.pe_find (pv 0) (pv 2))) (pss_cons (ps_set (i := 5) sc_pair_fits.nd rfl (Or.inl rfl) (LX.pe_rfind (pv 0) (pv 3))) (pss_one (ps_ret (pe_and (pe_cmpR op_ge (pv 4) (pe_int) (nomark _)) (pe_and (pe_cmpR op_ge (pv 5) (pe_int) (nomark _)) (pe_one (pe_cmpR op_le (pe_op op_plus (pv 4) (pe_callB LD.call_len' (by rfl) T.z_len (by decide +kernel) (pa_cons (pv 2) (pa_nil)))) (pv 5) (nomark _)))))))))
theorem ok_pair_fits (T : Txt P K mg a)  (len : ∀ vs H Q E, sp_pair_fits K a vs H Q E → vs.length = ps_pair_fits.length) (hd : ∀ vs H Q E, sp_pair_fits K a vs H Q E → t_pair_fits K a E { nx := fun _ H' => Q .non H', rt := Q } (L2.start N_pair_fits vs) H) :
    FnOk P w K mg base (L2.CX P w) 3 a.f_pair_fits a.d_pair_fits ps_pair_fits (sp_pair_fits K a) := T.F_pair_fits.ok sc_pair_fits len fun cdv A outer s H vs Q E hr h => ⟨t_pair_fits K a E, tm_pair_fits T  hr, hd vs H Q E h⟩
/-- Forms.__init__: level 3 -/
def t_Forms___init__ (K : PySem.W.Frag) (a : Ad) (E : XK) : TS := tSeq (sFld K (tVar 0) (tDNewT) "children") (tSeq (sFld K (tVar 0) (tDNewK) "numbers") (tSeq (sFld K (tVar 0) (tDNewK) "arity") (tFor (LX.iSeq K (tVar 1)) (gTup K 3 (gCons (gName 2) (gCons (gName 3) (gCons (gName 4) (gNil))))) (tSeq (sDPut (tFld K (tVar 0) "children") (tTup (tCons (tVar 2) (tCons (tVar 3) (tNil)))) (tCB (rTupOf K) (tCons (tVar 4) (tNil)))) (tSeq (tDrop (tBM K "list" rAppend (tDSetd (tFld K (tVar 0) "numbers") (tVar 2) (tLst (tNil))) (tCons (tVar 3) (tNil)))) (sDPut (tFld K (tVar 0) "arity") (tVar 3) (tCB (LD.rLen K) (tCons (tVar 4) (tNil)))))))))
theorem tm_Forms___init__ (T : Txt P K mg a)  {cdv : Value} {A : Around} {outer : List Env} {s : Shared} {H : Hp} {E : XK} (hr : Room 2 (cxOf (L2.CX P w) P w K mg base N_Forms___init__ "Forms.__init__" (defScope st_Forms___init__) a.f_Forms___init__ cdv A outer s H E).A) : PSs (cxOf (L2.CX P w) P w K mg base N_Forms___init__ "Forms.__init__" (defScope st_Forms___init__) a.f_Forms___init__ cdv A outer s H E) (defBody st_Forms___init__) (t_Forms___init__ K a E) :=
  pss_cons (ps_fld (pv 0) (pe_dnewT) rfl) (pss_cons (ps_fld (pv 0) (pe_dnewK) rfl) (pss_cons (ps_fld (pv 0) (pe_dnewK) rfl) (pss_one (ps_for (passes_of rfl) rfl (LX.pi_seq (pv 1)) (pg_tup rfl (pgs_cons (pg_name (i := 2) sc_Forms___init__.nd rfl (Or.inl rfl)) (pgs_cons (pg_name (i := 3) sc_Forms___init__.nd rfl (Or.inl rfl)) (pgs_cons (pg_name (i := 4) sc_Forms___init__.nd rfl (Or.inl rfl)) (pgs_nil))))) (pss_cons (ps_dput (hu_of hr) (pe_fld (pv 0) rfl) (pe_tup (pa_cons (pv 2) (pa_cons (pv 3) (pa_nil)))) (pe_callTy call_tuple' (by rfl) T.z_tuple (by decide +kernel) (pa_cons (pv 4) (pa_nil))) rfl) (pss_cons (ps_expr (pe_bm PySem.F.plainAttrs_list PySem.F.slot_list_append PySem.F.type_list_append mt_append (pe_dsetd (pe_fld (pv 0) rfl) (pv 2) (pe_lst (pa_nil)) ⟨rfl, rfl, rfl, rfl⟩) (pa_cons (pv 3) (pa_nil)))) (pss_one (ps_dput (hu_of hr) (pe_fld (pv 0) rfl) (pv 3) (pe_callB LD.call_len' (by rfl) T.z_len (by decide +kernel) (pa_cons (pv 4) (pa_nil))) rfl))))))))
theorem ok_Forms___init__ (T : Txt P K mg a)  (len : ∀ vs H Q E, sp_Forms___init__ K a vs H Q E → vs.length = ps_Forms___init__.length) (hd : ∀ vs H Q E, sp_Forms___init__ K a vs H Q E → t_Forms___init__ K a E { nx := fun _ H' => Q .non H', rt := Q } (L2.start N_Forms___init__ vs) H) :
    FnOk P w K mg base (L2.CX P w) 3 a.f_Forms___init__ a.d_Forms___init__ ps_Forms___init__ (sp_Forms___init__ K a) := T.F_Forms___init__.ok sc_Forms___init__ len fun cdv A outer s H vs Q E hr h => ⟨t_Forms___init__ K a E, tm_Forms___init__ T  hr, hd vs H Q E h⟩
/-- Grammar.__init__: level 5 -/
def t_Grammar___init__ (K : PySem.W.Frag) (a : Ad) (E : XK) : TS := tSeq (tIfS (tTest (tOp (rI0 fun i j => .bl (decide (j < i))) (tVar 1) (tC (.int 300)))) (LX.tRaise a.c_TooMany "limit" (fun cls d _ H => E cls d H) (tCons (tC (.int 300)) (tNil))) (tNext)) (tSeq (tIfS (tTest (tOp (rI0 fun i j => .bl (decide (j < i))) (tCB (LD.rLen K) (tCons (tVar 2) (tNil))) (tC (.int 900)))) (LX.tRaise a.c_TooMany "limit" (fun cls d _ H => E cls d H) (tCons (tC (.int 900)) (tNil))) (tNext)) (tSeq (sFld K (tVar 0) (tVar 1) "names") (sFld K (tVar 0) (tCB (rTupOf K) (tCons (tVar 2) (tNil))) "rules")))
theorem tm_Grammar___init__ (T : Txt P K mg a)  {cdv : Value} {A : Around} {outer : List Env} {s : Shared} {H : Hp} {E : XK} (hr : Room 4 (cxOf (L2.CX P w) P w K mg base N_Grammar___init__ "Grammar.__init__" (defScope st_Grammar___init__) a.f_Grammar___init__ cdv A outer s H E).A) : PSs (cxOf (L2.CX P w) P w K mg base N_Grammar___init__ "Grammar.__init__" (defScope st_Grammar___init__) a.f_Grammar___init__ cdv A outer s H E) (defBody st_Grammar___init__) (t_Grammar___init__ K a E) :=
  pss_cons (ps_if (pt_cmpR op_gt (pv 1) (pe_glob (v := .int 300) (by rfl) (T.v_MOST_NAMES).choose_spec ⟨_, rfl⟩) (nomark _)) (pss_one (LX.ps_raiseE rfl T.e_TooMany hr (takes_of rfl rfl rfl rfl) (pa_cons (pe_glob (v := .int 300) (by rfl) (T.v_MOST_NAMES).choose_spec ⟨_, rfl⟩) (pa_nil)) rfl)) (pss_nil)) (pss_cons (ps_if (pt_cmpR op_gt (pe_callB LD.call_len' (by rfl) T.z_len (by decide +kernel) (pa_cons (pv 2) (pa_nil))) (pe_glob (v := .int 900) (by rfl) (T.v_MOST_RULES).choose_spec ⟨_, rfl⟩) (nomark _)) (pss_one (LX.ps_raiseE rfl T.e_TooMany hr (takes_of rfl rfl rfl rfl) (pa_cons (pe_glob (v := .int 900) (by rfl) (T.v_MOST_RULES).choose_spec ⟨_, rfl⟩) (pa_nil)) rfl)) (pss_nil)) (pss_cons (ps_fld (pv 0) (pv 1) rfl) (pss_one (ps_fld (pv 0) (pe_callTy call_tuple' (by rfl) T.z_tuple (by decide +kernel) (pa_cons (pv 2) (pa_nil))) rfl))))
theorem ok_Grammar___init__ (T : Txt P K mg a)  (len : ∀ vs H Q E, sp_Grammar___init__ K a vs H Q E → vs.length = ps_Grammar___init__.length) (hd : ∀ vs H Q E, sp_Grammar___init__ K a vs H Q E → t_Grammar___init__ K a E { nx := fun _ H' => Q .non H', rt := Q } (L2.start N_Grammar___init__ vs) H) :
    FnOk P w K mg base (L2.CX P w) 5 a.f_Grammar___init__ a.d_Grammar___init__ ps_Grammar___init__ (sp_Grammar___init__ K a) := T.F_Grammar___init__.ok sc_Grammar___init__ len fun cdv A outer s H vs Q E hr h => ⟨t_Grammar___init__ K a E, tm_Grammar___init__ T  hr, hd vs H Q E h⟩
/-- join_pairs: level 3 -/
def t_join_pairs (K : PySem.W.Frag) (a : Ad) (E : XK) : TS := tSeq (tIfS (tTest (tOp (rEqAny K) (tVar 0) (tC (.str "wrap")))) (tRet (tTup (tCons (tOp (rPlus K) (tOp (rIx K) (tVar 1) (tC (.int 0))) (tOp (rIx K) (tVar 2) (tC (.int 0)))) (tCons (tOp (rPlus K) (tOp (rIx K) (tVar 2) (tC (.int 1))) (tOp (rIx K) (tVar 1) (tC (.int 1)))) (tNil))))) (tNext)) (tSeq (tIfS (tTest (tOp (rEqAny K) (tVar 0) (tC (.str "left")))) (tRet (tTup (tCons (tOp (rPlus K) (tOp (rPlus K) (tOp (rIx K) (tVar 1) (tC (.int 0))) (tOp (rIx K) (tVar 1) (tC (.int 1)))) (tOp (rIx K) (tVar 2) (tC (.int 0)))) (tCons (tOp (rIx K) (tVar 2) (tC (.int 1))) (tNil))))) (tNext)) (tRet (tTup (tCons (tOp (rIx K) (tVar 1) (tC (.int 0))) (tCons (tOp (rPlus K) (tOp (rPlus K) (tOp (rIx K) (tVar 1) (tC (.int 1))) (tOp (rIx K) (tVar 2) (tC (.int 0)))) (tOp (rIx K) (tVar 2) (tC (.int 1)))) (tNil))))))
theorem tm_join_pairs (T : Txt P K mg a)  {cdv : Value} {A : Around} {outer : List Env} {s : Shared} {H : Hp} {E : XK} (hr : Room 2 (cxOf (L2.CX P w) P w K mg base N_join_pairs "join_pairs" (defScope st_join_pairs) a.f_join_pairs cdv A outer s H E).A) : PSs (cxOf (L2.CX P w) P w K mg base N_join_pairs "join_pairs" (defScope st_join_pairs) a.f_join_pairs cdv A outer s H E) (defBody st_join_pairs) (t_join_pairs K a E) :=
  pss_cons (ps_if (pt_cmpR (op_eqAny hr.units) (pv 0) (pe_str) (nomark _)) (pss_one (ps_ret (pe_tup (pa_cons (pe_op op_plus (pe_ix ix_seq (pv 1) (pe_int) (fun _ _ => rfl)) (pe_ix ix_seq (pv 2) (pe_int) (fun _ _ => rfl))) (pa_cons (pe_op op_plus (pe_ix ix_seq (pv 2) (pe_int) (fun _ _ => rfl)) (pe_ix ix_seq (pv 1) (pe_int) (fun _ _ => rfl))) (pa_nil)))))) (pss_nil)) (pss_cons (ps_if (pt_cmpR (op_eqAny hr.units) (pv 0) (pe_str) (nomark _)) (pss_one (ps_ret (pe_tup (pa_cons (pe_op op_plus (pe_op op_plus (pe_ix ix_seq (pv 1) (pe_int) (fun _ _ => rfl)) (pe_ix ix_seq (pv 1) (pe_int) (fun _ _ => rfl))) (pe_ix ix_seq (pv 2) (pe_int) (fun _ _ => rfl))) (pa_cons (pe_ix ix_seq (pv 2) (pe_int) (fun _ _ => rfl)) (pa_nil)))))) (pss_nil)) (pss_one (ps_ret (pe_tup (pa_cons (pe_ix ix_seq (pv 1) (pe_int) (fun _ _ => rfl)) (pa_cons (pe_op op_plus (pe_op op_plus (pe_ix ix_seq (pv 1) (pe_int) (fun _ _ => rfl)) (pe_ix ix_seq (pv 2) (pe_int) (fun _ _ => rfl))) (pe_ix ix_seq (pv 2) (pe_int) (fun _ _ => rfl))) (pa_nil)))))))
theorem ok_join_pairs (T : Txt P K mg a)  (len : ∀ vs H Q E, sp_join_pairs K a vs H Q E → vs.length = ps_join_pairs.length) (hd : ∀ vs H Q E, sp_join_pairs K a vs H Q E → t_join_pairs K a E { nx := fun _ H' => Q .non H', rt := Q } (L2.start N_join_pairs vs) H) :
    FnOk P w K mg base (L2.CX P w) 3 a.f_join_pairs a.d_join_pairs ps_join_pairs (sp_join_pairs K a) := T.F_join_pairs.ok sc_join_pairs len fun cdv A outer s H vs Q E hr h => ⟨t_join_pairs K a E, tm_join_pairs T  hr, hd vs H Q E h⟩
/-- is_leaf_text: level 5 -/
def t_is_leaf_text (K : PySem.W.Frag) (a : Ad) (E : XK) : TS := tRet (tAndV (tCB (rIsi K) (tCons (tVar 0) (tCons (tC (.ty "str")) (tNil)))) (tOp (rI0 fun i j => .bl (decide (i < j))) (tCallSD (sp_bad_letter K a) [] (WE (fun cls d _ H => E cls d H)) (tCons (tVar 0) (tCons (tC (.int 12)) (tNil)))) (tC (.int 0))))
theorem tm_is_leaf_text (T : Txt P K mg a) (G_bad_letter : FnOk P w K mg base (L2.CX P w) 3 a.f_bad_letter a.d_bad_letter ps_bad_letter (sp_bad_letter K a)) {cdv : Value} {A : Around} {outer : List Env} {s : Shared} {H : Hp} {E : XK} (hr : Room 4 (cxOf (L2.CX P w) P w K mg base N_is_leaf_text "is_leaf_text" (defScope st_is_leaf_text) a.f_is_leaf_text cdv A outer s H E).A) : PSs (cxOf (L2.CX P w) P w K mg base N_is_leaf_text "is_leaf_text" (defScope st_is_leaf_text) a.f_is_leaf_text cdv A outer s H E) (defBody st_is_leaf_text) (t_is_leaf_text K a E) :=
  pss_one (ps_ret (pe_and (pe_callB call_isi (by rfl) T.z_isinstance (by decide +kernel) (pa_cons (pv 0) (pa_cons (pe_bltn (v := .ty "str") (by rfl) T.z_str (by decide +kernel) rfl) (pa_nil)))) (pe_one (pe_cmpR op_lt (pe_callSD (G_bad_letter) (hr.mono (by decide)) (by rfl) T.g_bad_letter T.F_bad_letter.kp T.b_bad_letter .nil (fun σ => passAt (takes_of rfl rfl rfl rfl) σ) (pa_cons (pv 0) (pa_cons (pe_glob (v := .int 12) (by rfl) (T.v_MOST_LEAF).choose_spec ⟨_, rfl⟩) (pa_nil)))) (pe_int) (nomark _)))))
theorem ok_is_leaf_text (T : Txt P K mg a) (G_bad_letter : FnOk P w K mg base (L2.CX P w) 3 a.f_bad_letter a.d_bad_letter ps_bad_letter (sp_bad_letter K a)) (len : ∀ vs H Q E, sp_is_leaf_text K a vs H Q E → vs.length = ps_is_leaf_text.length) (hd : ∀ vs H Q E, sp_is_leaf_text K a vs H Q E → t_is_leaf_text K a E { nx := fun _ H' => Q .non H', rt := Q } (L2.start N_is_leaf_text vs) H) :
    FnOk P w K mg base (L2.CX P w) 5 a.f_is_leaf_text a.d_is_leaf_text ps_is_leaf_text (sp_is_leaf_text K a) := T.F_is_leaf_text.ok sc_is_leaf_text len fun cdv A outer s H vs Q E hr h => ⟨t_is_leaf_text K a E, tm_is_leaf_text T G_bad_letter hr, hd vs H Q E h⟩
/-- is_name: level 3 -/
def t_is_name (K : PySem.W.Frag) (a : Ad) (E : XK) : TS := tRet (tAndV (tCB (rIsi K) (tCons (tVar 0) (tCons (tC (.ty "int")) (tNil)))) (tChain (rI0 fun i j => .bl (decide (i ≤ j))) (rI0 fun i j => .bl (decide (i < j))) (tC (.int 0)) (tVar 0) (tVar 1)))
theorem tm_is_name (T : Txt P K mg a)  {cdv : Value} {A : Around} {outer : List Env} {s : Shared} {H : Hp} {E : XK} (hr : Room 2 (cxOf (L2.CX P w) P w K mg base N_is_name "is_name" (defScope st_is_name) a.f_is_name cdv A outer s H E).A) : PSs (cxOf (L2.CX P w) P w K mg base N_is_name "is_name" (defScope st_is_name) a.f_is_name cdv A outer s H E) (defBody st_is_name) (t_is_name K a E) :=
  pss_one (ps_ret (pe_and (pe_callB call_isi (by rfl) T.z_isinstance (by decide +kernel) (pa_cons (pv 0) (pa_cons (pe_bltn (v := .ty "int") (by rfl) T.z_int (by decide +kernel) rfl) (pa_nil)))) (pe_one (pe_chain op_le op_lt (pe_int) (pv 0) (pv 1)))))
theorem ok_is_name (T : Txt P K mg a)  (len : ∀ vs H Q E, sp_is_name K a vs H Q E → vs.length = ps_is_name.length) (hd : ∀ vs H Q E, sp_is_name K a vs H Q E → t_is_name K a E { nx := fun _ H' => Q .non H', rt := Q } (L2.start N_is_name vs) H) :
    FnOk P w K mg base (L2.CX P w) 3 a.f_is_name a.d_is_name ps_is_name (sp_is_name K a) := T.F_is_name.ok sc_is_name len fun cdv A outer s H vs Q E hr h => ⟨t_is_name K a E, tm_is_name T  hr, hd vs H Q E h⟩
/-- is_pair_rule: level 7 -/
def t_is_pair_rule (K : PySem.W.Frag) (a : Ad) (E : XK) : TS := tSeq (tAsg (tVar 0) (gTup K 4 (gCons (gName 2) (gCons (gName 3) (gCons (gName 4) (gCons (gName 5) (gNil))))))) (tSeq (tIfS (tOr (tTest (tOp (rNotInA K) (tVar 2) (tC (.ref a.v_RULE_KINDS)))) (tNot (tB (tCallSD (sp_is_name K a) [] (WE (fun cls d _ H => E cls d H)) (tCons (tVar 3) (tCons (tVar 1) (tNil))))))) (tRet (tC (.bl false))) (tNext)) (tSeq (tIfS (tTest (tOp (rEqAny K) (tVar 2) (tC (.str "leaf")))) (tRet (tAndV (tCallSD (sp_is_leaf_text K a) [] (WE (fun cls d _ H => E cls d H)) (tCons (tVar 4) (tNil))) (tCallSD (sp_is_leaf_text K a) [] (WE (fun cls d _ H => E cls d H)) (tCons (tVar 5) (tNil))))) (tNext)) (tRet (tAndV (tCallSD (sp_is_name K a) [] (WE (fun cls d _ H => E cls d H)) (tCons (tVar 4) (tCons (tVar 1) (tNil)))) (tCallSD (sp_is_name K a) [] (WE (fun cls d _ H => E cls d H)) (tCons (tVar 5) (tCons (tVar 1) (tNil))))))))
theorem tm_is_pair_rule (T : Txt P K mg a) (G_is_name : FnOk P w K mg base (L2.CX P w) 3 a.f_is_name a.d_is_name ps_is_name (sp_is_name K a)) (G_is_leaf_text : FnOk P w K mg base (L2.CX P w) 5 a.f_is_leaf_text a.d_is_leaf_text ps_is_leaf_text (sp_is_leaf_text K a)) {cdv : Value} {A : Around} {outer : List Env} {s : Shared} {H : Hp} {E : XK} (hr : Room 6 (cxOf (L2.CX P w) P w K mg base N_is_pair_rule "is_pair_rule" (defScope st_is_pair_rule) a.f_is_pair_rule cdv A outer s H E).A) : PSs (cxOf (L2.CX P w) P w K mg base N_is_pair_rule "is_pair_rule" (defScope st_is_pair_rule) a.f_is_pair_rule cdv A outer s H E) (defBody st_is_pair_rule) (t_is_pair_rule K a E) :=
  pss_cons (ps_asg (pv 0) (pg_tup rfl (pgs_cons (pg_name (i := 2) sc_is_pair_rule.nd rfl (Or.inl rfl)) (pgs_cons (pg_name (i := 3) sc_is_pair_rule.nd rfl (Or.inl rfl)) (pgs_cons (pg_name (i := 4) sc_is_pair_rule.nd rfl (Or.inl rfl)) (pgs_cons (pg_name (i := 5) sc_is_pair_rule.nd rfl (Or.inl rfl)) (pgs_nil))))))) (pss_cons (ps_if ((pw_or (pt_cmpR op_notInA (pv 2) (pe_glob (v := .ref a.v_RULE_KINDS) (by rfl) T.v_RULE_KINDS rfl) rfl) (pw_or1 (pt_not (pt_val (pe_callSD (G_is_name) (hr.mono (by decide)) (by rfl) T.g_is_name T.F_is_name.kp T.b_is_name .nil (fun σ => passAt (takes_of rfl rfl rfl rfl) σ) (pa_cons (pv 3) (pa_cons (pv 1) (pa_nil)))))))).pt) (pss_one (ps_ret (pe_bl))) (pss_nil)) (pss_cons (ps_if (pt_cmpR (op_eqAny hr.units) (pv 2) (pe_str) (nomark _)) (pss_one (ps_ret (pe_and (pe_callSD (G_is_leaf_text) (hr.mono (by decide)) (by rfl) T.g_is_leaf_text T.F_is_leaf_text.kp T.b_is_leaf_text .nil (fun σ => passAt (takes_of rfl rfl rfl rfl) σ) (pa_cons (pv 4) (pa_nil))) (pe_one (pe_callSD (G_is_leaf_text) (hr.mono (by decide)) (by rfl) T.g_is_leaf_text T.F_is_leaf_text.kp T.b_is_leaf_text .nil (fun σ => passAt (takes_of rfl rfl rfl rfl) σ) (pa_cons (pv 5) (pa_nil))))))) (pss_nil)) (pss_one (ps_ret (pe_and (pe_callSD (G_is_name) (hr.mono (by decide)) (by rfl) T.g_is_name T.F_is_name.kp T.b_is_name .nil (fun σ => passAt (takes_of rfl rfl rfl rfl) σ) (pa_cons (pv 4) (pa_cons (pv 1) (pa_nil)))) (pe_one (pe_callSD (G_is_name) (hr.mono (by decide)) (by rfl) T.g_is_name T.F_is_name.kp T.b_is_name .nil (fun σ => passAt (takes_of rfl rfl rfl rfl) σ) (pa_cons (pv 5) (pa_cons (pv 1) (pa_nil))))))))))
theorem ok_is_pair_rule (T : Txt P K mg a) (G_is_name : FnOk P w K mg base (L2.CX P w) 3 a.f_is_name a.d_is_name ps_is_name (sp_is_name K a)) (G_is_leaf_text : FnOk P w K mg base (L2.CX P w) 5 a.f_is_leaf_text a.d_is_leaf_text ps_is_leaf_text (sp_is_leaf_text K a)) (len : ∀ vs H Q E, sp_is_pair_rule K a vs H Q E → vs.length = ps_is_pair_rule.length) (hd : ∀ vs H Q E, sp_is_pair_rule K a vs H Q E → t_is_pair_rule K a E { nx := fun _ H' => Q .non H', rt := Q } (L2.start N_is_pair_rule vs) H) :
    FnOk P w K mg base (L2.CX P w) 7 a.f_is_pair_rule a.d_is_pair_rule ps_is_pair_rule (sp_is_pair_rule K a) := T.F_is_pair_rule.ok sc_is_pair_rule len fun cdv A outer s H vs Q E hr h => ⟨t_is_pair_rule K a E, tm_is_pair_rule T G_is_name G_is_leaf_text hr, hd vs H Q E h⟩
/-- child_names: level 3 -/
def t_child_names (K : PySem.W.Frag) (a : Ad) (E : XK) : TS := tSeq (tIfS (tTest (tOp (rEqAny K) (tOp (rIx K) (tVar 0) (tC (.int 0))) (tC (.str "leaf")))) (tRet (tTup (tNil))) (tNext)) (tRet (tTup (tCons (tOp (rIx K) (tVar 0) (tC (.int 2))) (tCons (tOp (rIx K) (tVar 0) (tC (.int 3))) (tNil)))))
theorem tm_child_names (T : Txt P K mg a)  {cdv : Value} {A : Around} {outer : List Env} {s : Shared} {H : Hp} {E : XK} (hr : Room 2 (cxOf (L2.CX P w) P w K mg base N_child_names "child_names" (defScope st_child_names) a.f_child_names cdv A outer s H E).A) : PSs (cxOf (L2.CX P w) P w K mg base N_child_names "child_names" (defScope st_child_names) a.f_child_names cdv A outer s H E) (defBody st_child_names) (t_child_names K a E) :=
  pss_cons (ps_if (pt_cmpR (op_eqAny hr.units) (pe_ix ix_seq (pv 0) (pe_int) (fun _ _ => rfl)) (pe_str) (nomark _)) (pss_one (ps_ret (pe_tup (pa_nil)))) (pss_nil)) (pss_one (ps_ret (pe_tup (pa_cons (pe_ix ix_seq (pv 0) (pe_int) (fun _ _ => rfl)) (pa_cons (pe_ix ix_seq (pv 0) (pe_int) (fun _ _ => rfl)) (pa_nil))))))
theorem ok_child_names (T : Txt P K mg a)  (len : ∀ vs H Q E, sp_child_names K a vs H Q E → vs.length = ps_child_names.length) (hd : ∀ vs H Q E, sp_child_names K a vs H Q E → t_child_names K a E { nx := fun _ H' => Q .non H', rt := Q } (L2.start N_child_names vs) H) :
    FnOk P w K mg base (L2.CX P w) 3 a.f_child_names a.d_child_names ps_child_names (sp_child_names K a) := T.F_child_names.ok sc_child_names len fun cdv A outer s H vs Q E hr h => ⟨t_child_names K a E, tm_child_names T  hr, hd vs H Q E h⟩
/-- PairGrammar.__init__ -/
def ta_PairGrammar___init__ (K : PySem.W.Frag) (a : Ad) (E : XK) : TA := tCons (tVar 1) (tCons (tVar 2) (tNil))
def t_PairGrammar___init__ (K : PySem.W.Frag) (a : Ad) (E : XK) : TS := tSeq (tAsg (tLst (tNil)) (gName 4)) (tSeq (tFor (LX.iEnumA K (tCons (tFld K (tVar 0) "rules") tNil)) (gTup K 2 (gCons (gName 5) (gCons (gName 6) (gNil)))) (tSeq (tIfS (tNot (tB (tCallSD (sp_is_pair_rule K a) [] (WE (fun cls d _ H => E cls d H)) (tCons (tVar 6) (tCons (tVar 1) (tNil)))))) (LX.tRaise a.c_BadRule "place" (fun cls d _ H => E cls d H) (tCons (tVar 5) (tNil))) (tNext)) (tDrop (tBM K "list" rAppend (tVar 4) (tCons (tTup (tCons (tOp (rIx K) (tVar 6) (tC (.int 1))) (tCons (tVar 5) (tCons (tCallSD (sp_child_names K a) [] (WE (fun cls d _ H => E cls d H)) (tCons (tVar 6) (tNil))) (tNil))))) (tNil)))))) (sFld K (tVar 0) (tMakeSD a.c_Forms (sp_Forms___init__ K a) [] (WE (fun cls d _ H => E cls d H)) (tCons (tVar 4) (tNil))) "forms"))
theorem ok_PairGrammar___init__ (T : Txt P K mg a) (G_is_pair_rule : FnOk P w K mg base (L2.CX P w) 7 a.f_is_pair_rule a.d_is_pair_rule ps_is_pair_rule (sp_is_pair_rule K a)) (G_child_names : FnOk P w K mg base (L2.CX P w) 3 a.f_child_names a.d_child_names ps_child_names (sp_child_names K a)) (G_Forms___init__ : FnOk P w K mg base (L2.CX P w) 3 a.f_Forms___init__ a.d_Forms___init__ ps_Forms___init__ (sp_Forms___init__ K a)) (G_Grammar___init__ : FnOk P w K mg base (L2.CX P w) 5 a.f_Grammar___init__ a.d_Grammar___init__ ps_Grammar___init__ (sp_Grammar___init__ K a)) (len : ∀ vs H Q E, sp_PairGrammar___init__ K a vs H Q E → vs.length = ps_PairGrammar___init__.length)
    (hd : ∀ vs H Q E, sp_PairGrammar___init__ K a vs H Q E → tSeq (LX.tSup a.c_PairGrammar (sp_Grammar___init__ K a) (WE (fun cls d _ H => E cls d H)) (ta_PairGrammar___init__ K a E)) (t_PairGrammar___init__ K a E) { nx := fun _ H' => Q .non H', rt := Q } (L2.start N_PairGrammar___init__ vs) H) : FnOk P w K mg base (L2.CX P w) 9 a.f_PairGrammar___init__ a.d_PairGrammar___init__ ps_PairGrammar___init__ (sp_PairGrammar___init__ K a) :=
  T.F_PairGrammar___init__.ok sc_PairGrammar___init__ len T.su_PairGrammar rfl ⟨_, rfl⟩ rfl rfl rfl (fun _ => rfl) (fun _ => rfl) (fun _ => rfl) ⟨_, fun _ => rfl⟩ G_Grammar___init__ (by decide) T.b_Grammar___init__ fun cc cda A outer s H vs Q E hr h => ⟨ta_PairGrammar___init__ K a E, t_PairGrammar___init__ K a E, (fun cls d _ H => E cls d H), pa_cons (pv 1) (pa_cons (pv 2) (pa_nil)), pss_cons (ps_set (i := 4) sc_PairGrammar___init__.nd rfl (Or.inl rfl) (pe_lst (pa_nil))) (pss_cons (ps_for (passes_of rfl) rfl (LX.pi_enumA rfl T.z_enumerate (pa_cons (pe_fld (pv 0) rfl) pa_nil)) (pg_tup rfl (pgs_cons (pg_name (i := 5) sc_PairGrammar___init__.nd rfl (Or.inl rfl)) (pgs_cons (pg_name (i := 6) sc_PairGrammar___init__.nd rfl (Or.inl rfl)) (pgs_nil)))) (pss_cons (ps_if (pt_not (pt_val (pe_callSD (G_is_pair_rule) (hr.mono (by decide)) (by rfl) T.g_is_pair_rule T.F_is_pair_rule.kp T.b_is_pair_rule .nil (fun σ => passAt (takes_of rfl rfl rfl rfl) σ) (pa_cons (pv 6) (pa_cons (pv 1) (pa_nil)))))) (pss_one (LX.ps_raiseE rfl T.e_BadRule hr (takes_of rfl rfl rfl rfl) (pa_cons (pv 5) (pa_nil)) rfl)) (pss_nil)) (pss_one (ps_expr (pe_bm PySem.F.plainAttrs_list PySem.F.slot_list_append PySem.F.type_list_append mt_append (pv 4) (pa_cons (pe_tup (pa_cons (pe_ix ix_seq (pv 6) (pe_int) (fun _ _ => rfl)) (pa_cons (pv 5) (pa_cons (pe_callSD (G_child_names) (hr.mono (by decide)) (by rfl) T.g_child_names T.F_child_names.kp T.b_child_names .nil (fun σ => passAt (takes_of rfl rfl rfl rfl) σ) (pa_cons (pv 6) (pa_nil))) (pa_nil))))) (pa_nil))))))) (pss_one (ps_fld (pv 0) (LX.pe_makeSD T.mk_Forms (G_Forms___init__) (hr.mono (by decide)) (by rfl) T.gc_Forms T.b_Forms___init__ .nil (fun σ => passAt (takes_of rfl rfl rfl rfl) σ) (pa_cons (pv 4) (pa_nil))) rfl))), takes_of rfl rfl rfl rfl, hd vs H Q E h⟩
/-- _law_row: level 3 -/
def t__law_row (K : PySem.W.Frag) (a : Ad) (E : XK) : TS := tSeq (tAsg (tC (.int 0)) (gName 2)) (tSeq (tIfS (tAnd (tTest (tOp (rI0 fun i j => .bl (decide (j < i))) (tCB (LD.rLen K) (tCons (tVar 0) (tNil))) (tC (.int 0)))) (tTest (tOp (rI0 fun i j => .bl (decide (j ≤ i))) (tOp (rIx K) (tVar 0) (tC (.int 0))) (tOp (rI CPow fun i j => .int (i ^ j.toNat)) (tC (.int 10)) (tC (.int 18)))))) (tAsg (tOp (rIx K) (tVar 0) (tC (.int 0))) (gName 2)) (tNext)) (tSeq (tAsg (tLst (tNil)) (gName 3)) (tSeq (tAsg (tC (.int 12345)) (gName 4)) (tSeq (tFor (iRng1 (tCons (tVar 1) (tNil))) (gName 5) (tSeq (tAsg (tVar 5) (gName 6)) (tSeq (tIfS (tTest (tOp (rI0 fun i j => .bl (decide (j < i))) (tCB (LD.rLen K) (tCons (tVar 0) (tNil))) (tC (.int 0)))) (tAsg (tOp (rIx K) (tVar 0) (tOp (rI (fun _ j => 0 < j) fun i j => .int (i % j)) (tCB rInt1 (tCons (tVar 5) (tNil))) (tCB rMin2' (tCons (tCB (LD.rLen K) (tCons (tVar 0) (tNil))) (tCons (tC (.int 63)) (tNil)))))) (gName 6)) (tNext)) (tSeq (tAsg (tOp (rI (fun _ j => 0 < j) fun i j => .int (i % j)) (tCB rInt1 (tCons (tOp (rPlus K) (tOp (rPlus K) (tOp (rTimes K) (tVar 4) (tC (.int 48271))) (tOp (rTimes K) (tOp (rI (fun _ j => 0 < j) fun i j => .int (i % j)) (tCB rInt1 (tCons (tVar 6) (tNil))) (tC (.int 1000003))) (tC (.int 69621)))) (tOp (rTimes K) (tVar 5) (tC (.int 7907)))) (tNil))) (tC (.int 2147483647))) (gName 4)) (tIfS (tTest (tOp (rI0 fun i j => .bl (decide (j < i))) (tVar 2) (tC (.int 0)))) (tSeq (tDrop (tBM K "list" rAppend (tVar 3) (tCons (tOp (rI (fun _ j => 0 < j) fun i j => .int (i % j)) (tCB rInt1 (tCons (tVar 2) (tNil))) (tC (.int 997))) (tNil)))) (tAsg (tOp (rI CDiv fun i j => .int (i / j)) (tVar 2) (tC (.int 997))) (gName 2))) (tDrop (tBM K "list" rAppend (tVar 3) (tCons (tOp (rI (fun _ j => 0 < j) fun i j => .int (i % j)) (tCB rInt1 (tCons (tOp (rI CDiv fun i j => .int (i / j)) (tVar 4) (tC (.int 11))) (tNil))) (tC (.int 997))) (tNil))))))))) (tRet (tVar 3))))))
theorem tm__law_row (T : Txt P K mg a)  {cdv : Value} {A : Around} {outer : List Env} {s : Shared} {H : Hp} {E : XK} (hr : Room 2 (cxOf (L2.CX P w) P w K mg base N__law_row "_law_row" (defScope st__law_row) a.f__law_row cdv A outer s H E).A) : PSs (cxOf (L2.CX P w) P w K mg base N__law_row "_law_row" (defScope st__law_row) a.f__law_row cdv A outer s H E) (defBody st__law_row) (t__law_row K a E) :=
  pss_cons (ps_set (i := 2) sc__law_row.nd rfl (Or.inl rfl) (pe_int)) (pss_cons (ps_if ((pw_and (pt_cmpR op_gt (pe_callB LD.call_len' (by rfl) T.z_len (by decide +kernel) (pa_cons (pv 0) (pa_nil))) (pe_int) (nomark _)) (pw_and1 (pt_cmpR op_ge (pe_ix ix_seq (pv 0) (pe_int) (fun _ _ => rfl)) (pe_op op_pow (pe_int) (pe_int)) (nomark _)))).pt) (pss_one (ps_set (i := 2) sc__law_row.nd rfl (Or.inl rfl) (pe_ix ix_seq (pv 0) (pe_int) (fun _ _ => rfl)))) (pss_nil)) (pss_cons (ps_set (i := 3) sc__law_row.nd rfl (Or.inl rfl) (pe_lst (pa_nil))) (pss_cons (ps_set (i := 4) sc__law_row.nd rfl (Or.inl rfl) (pe_int)) (pss_cons (ps_for (passes_of rfl) rfl (pi_range1 rfl T.z_range (pa_cons (pv 1) (pa_nil))) (pg_name (i := 5) sc__law_row.nd rfl (Or.inl rfl)) (pss_cons (ps_set (i := 6) sc__law_row.nd rfl (Or.inl rfl) (pv 5)) (pss_cons (ps_if (pt_cmpR op_gt (pe_callB LD.call_len' (by rfl) T.z_len (by decide +kernel) (pa_cons (pv 0) (pa_nil))) (pe_int) (nomark _)) (pss_one (ps_set (i := 6) sc__law_row.nd rfl (Or.inl rfl) (pe_ix ix_seq (pv 0) (pe_op op_mod (pe_callTy call_int' (by rfl) T.z_int (by decide +kernel) (pa_cons (pv 5) (pa_nil))) (pe_callB (call_min2' rfl) (by rfl) T.z_min (by decide +kernel) (pa_cons (pe_callB LD.call_len' (by rfl) T.z_len (by decide +kernel) (pa_cons (pv 0) (pa_nil))) (pa_cons (pe_int) (pa_nil))))) (fun _ _ => rfl)))) (pss_nil)) (pss_cons (ps_set (i := 4) sc__law_row.nd rfl (Or.inl rfl) (pe_op op_mod (pe_callTy call_int' (by rfl) T.z_int (by decide +kernel) (pa_cons (pe_op op_plus (pe_op op_plus (pe_op op_times (pv 4) (pe_int)) (pe_op op_times (pe_op op_mod (pe_callTy call_int' (by rfl) T.z_int (by decide +kernel) (pa_cons (pv 6) (pa_nil))) (pe_int)) (pe_int))) (pe_op op_times (pv 5) (pe_int))) (pa_nil))) (pe_int))) (pss_one (ps_if (pt_cmpR op_gt (pv 2) (pe_int) (nomark _)) (pss_cons (ps_expr (pe_bm PySem.F.plainAttrs_list PySem.F.slot_list_append PySem.F.type_list_append mt_append (pv 3) (pa_cons (pe_op op_mod (pe_callTy call_int' (by rfl) T.z_int (by decide +kernel) (pa_cons (pv 2) (pa_nil))) (pe_int)) (pa_nil)))) (pss_one (ps_set (i := 2) sc__law_row.nd rfl (Or.inl rfl) (pe_op op_fdiv (pv 2) (pe_int))))) (pss_one (ps_expr (pe_bm PySem.F.plainAttrs_list PySem.F.slot_list_append PySem.F.type_list_append mt_append (pv 3) (pa_cons (pe_op op_mod (pe_callTy call_int' (by rfl) T.z_int (by decide +kernel) (pa_cons (pe_op op_fdiv (pv 4) (pe_int)) (pa_nil))) (pe_int)) (pa_nil))))))))))) (pss_one (ps_ret (pv 3)))))))
theorem ok__law_row (T : Txt P K mg a)  (len : ∀ vs H Q E, sp__law_row K a vs H Q E → vs.length = ps__law_row.length) (hd : ∀ vs H Q E, sp__law_row K a vs H Q E → t__law_row K a E { nx := fun _ H' => Q .non H', rt := Q } (L2.start N__law_row vs) H) :
    FnOk P w K mg base (L2.CX P w) 3 a.f__law_row a.d__law_row ps__law_row (sp__law_row K a) := T.F__law_row.ok sc__law_row len fun cdv A outer s H vs Q E hr h => ⟨t__law_row K a E, tm__law_row T  hr, hd vs H Q E h⟩
/-- _law_same: level 3 -/
def t__law_same (K : PySem.W.Frag) (a : Ad) (E : XK) : TS := tSeq (tAsg (tLst (tCons (tTup (tCons (tVar 0) (tCons (tVar 1) (tNil)))) (tNil))) (gName 2)) (tSeq (tFor (iRng1 (tCons (tC (.int 200000)) (tNil))) (gName 3) (tSeq (tIfS (tTest (tOp (rEqAny K) (tVar 2) (tLst (tNil)))) (tRet (tC (.bl true))) (tNext)) (tSeq (tAsg (tBM0 K "list" rPop (tVar 2)) (gTup K 2 (gCons (gName 4) (gCons (gName 5) (gNil))))) (tIfS (tTest (tOp rIsN (tVar 5) (tC .non))) (tIfS (tTest (tOp rNotN (tVar 4) (tC .non))) (tRet (tC (.bl false))) (tNext)) (tIfS (tB (tCB (rIsi K) (tCons (tVar 5) (tCons (tC (.ty "bool")) (tNil))))) (tIfS (tOr (tNot (tB (tCB (rIsi K) (tCons (tVar 4) (tCons (tC (.ty "bool")) (tNil)))))) (tTest (tOp (rNeAny K) (tVar 4) (tVar 5)))) (tRet (tC (.bl false))) (tNext)) (tIfS (tB (tCB (rIsi K) (tCons (tVar 5) (tCons (tC (.ty "int")) (tNil))))) (tIfS (tOr (tNot (tB (tCB (rIsi K) (tCons (tVar 4) (tCons (tC (.ty "int")) (tNil)))))) (tOr (tB (tCB (rIsi K) (tCons (tVar 4) (tCons (tC (.ty "bool")) (tNil))))) (tTest (tOp (rNeAny K) (tVar 4) (tVar 5))))) (tRet (tC (.bl false))) (tNext)) (tIfS (tB (tCB (rIsi K) (tCons (tVar 5) (tCons (tC (.ty "str")) (tNil))))) (tIfS (tOr (tNot (tB (tCB (rIsi K) (tCons (tVar 4) (tCons (tC (.ty "str")) (tNil)))))) (tTest (tOp (rNeAny K) (tVar 4) (tVar 5)))) (tRet (tC (.bl false))) (tNext)) (tSeq (tIfS (tOr (tTest (tOp (rNeAny K) (tCB (rIsi K) (tCons (tVar 4) (tCons (tC (.ty "list")) (tNil)))) (tCB (rIsi K) (tCons (tVar 5) (tCons (tC (.ty "list")) (tNil)))))) (tTest (tOp (rNeAny K) (tCB (rIsi K) (tCons (tVar 4) (tCons (tC (.ty "tuple")) (tNil)))) (tCB (rIsi K) (tCons (tVar 5) (tCons (tC (.ty "tuple")) (tNil))))))) (tRet (tC (.bl false))) (tNext)) (tSeq (tIfS (tTest (tOp (rNeAny K) (tCB (LD.rLen K) (tCons (tVar 4) (tNil))) (tCB (LD.rLen K) (tCons (tVar 5) (tNil))))) (tRet (tC (.bl false))) (tNext)) (tFor (iRng1 (tCons (tCB (LD.rLen K) (tCons (tVar 5) (tNil))) (tNil))) (gName 6) (tDrop (tBM K "list" rAppend (tVar 2) (tCons (tTup (tCons (tOp (rIx K) (tVar 4) (tVar 6)) (tCons (tOp (rIx K) (tVar 5) (tVar 6)) (tNil)))) (tNil)))))))))))))) (tRet (tC (.bl false))))
theorem tm__law_same (T : Txt P K mg a)  {cdv : Value} {A : Around} {outer : List Env} {s : Shared} {H : Hp} {E : XK} (hr : Room 2 (cxOf (L2.CX P w) P w K mg base N__law_same "_law_same" (defScope st__law_same) a.f__law_same cdv A outer s H E).A) : PSs (cxOf (L2.CX P w) P w K mg base N__law_same "_law_same" (defScope st__law_same) a.f__law_same cdv A outer s H E) (defBody st__law_same) (t__law_same K a E) :=
  pss_cons (ps_set (i := 2) sc__law_same.nd rfl (Or.inl rfl) (pe_lst (pa_cons (pe_tup (pa_cons (pv 0) (pa_cons (pv 1) (pa_nil)))) (pa_nil)))) (pss_cons (ps_for (passes_of rfl) rfl (pi_range1 rfl T.z_range (pa_cons (pe_int) (pa_nil))) (pg_name (i := 3) sc__law_same.nd rfl (Or.inl rfl)) (pss_cons (ps_if (pt_cmpR (op_eqAny hr.units) (pv 2) (pe_lst (pa_nil)) (nomark _)) (pss_one (ps_ret (pe_bl))) (pss_nil)) (pss_cons (ps_asg (pe_bm0 PySem.F.plainAttrs_list PySem.F.slot_list_pop PySem.F.type_list_pop mt_pop (pv 2)) (pg_tup rfl (pgs_cons (pg_name (i := 4) sc__law_same.nd rfl (Or.inl rfl)) (pgs_cons (pg_name (i := 5) sc__law_same.nd rfl (Or.inl rfl)) (pgs_nil))))) (pss_one (ps_if (pt_cmpR op_isN' (pv 5) (pe_non) (nomark _)) (pss_one (ps_if (pt_cmpR op_notN' (pv 4) (pe_non) (nomark _)) (pss_one (ps_ret (pe_bl))) (pss_nil))) (pss_one (ps_if (pt_val (pe_callB call_isi (by rfl) T.z_isinstance (by decide +kernel) (pa_cons (pv 5) (pa_cons (pe_bltn (v := .ty "bool") (by rfl) T.z_bool (by decide +kernel) rfl) (pa_nil))))) (pss_one (ps_if ((pw_or (pt_not (pt_val (pe_callB call_isi (by rfl) T.z_isinstance (by decide +kernel) (pa_cons (pv 4) (pa_cons (pe_bltn (v := .ty "bool") (by rfl) T.z_bool (by decide +kernel) rfl) (pa_nil)))))) (pw_or1 (pt_cmpR (op_neAny hr.units) (pv 4) (pv 5) (nomark _)))).pt) (pss_one (ps_ret (pe_bl))) (pss_nil))) (pss_one (ps_if (pt_val (pe_callB call_isi (by rfl) T.z_isinstance (by decide +kernel) (pa_cons (pv 5) (pa_cons (pe_bltn (v := .ty "int") (by rfl) T.z_int (by decide +kernel) rfl) (pa_nil))))) (pss_one (ps_if ((pw_or (pt_not (pt_val (pe_callB call_isi (by rfl) T.z_isinstance (by decide +kernel) (pa_cons (pv 4) (pa_cons (pe_bltn (v := .ty "int") (by rfl) T.z_int (by decide +kernel) rfl) (pa_nil)))))) (pw_or (pt_val (pe_callB call_isi (by rfl) T.z_isinstance (by decide +kernel) (pa_cons (pv 4) (pa_cons (pe_bltn (v := .ty "bool") (by rfl) T.z_bool (by decide +kernel) rfl) (pa_nil))))) (pw_or1 (pt_cmpR (op_neAny hr.units) (pv 4) (pv 5) (nomark _))))).pt) (pss_one (ps_ret (pe_bl))) (pss_nil))) (pss_one (ps_if (pt_val (pe_callB call_isi (by rfl) T.z_isinstance (by decide +kernel) (pa_cons (pv 5) (pa_cons (pe_bltn (v := .ty "str") (by rfl) T.z_str (by decide +kernel) rfl) (pa_nil))))) (pss_one (ps_if ((pw_or (pt_not (pt_val (pe_callB call_isi (by rfl) T.z_isinstance (by decide +kernel) (pa_cons (pv 4) (pa_cons (pe_bltn (v := .ty "str") (by rfl) T.z_str (by decide +kernel) rfl) (pa_nil)))))) (pw_or1 (pt_cmpR (op_neAny hr.units) (pv 4) (pv 5) (nomark _)))).pt) (pss_one (ps_ret (pe_bl))) (pss_nil))) (pss_cons (ps_if ((pw_or (pt_cmpR (op_neAny hr.units) (pe_callB call_isi (by rfl) T.z_isinstance (by decide +kernel) (pa_cons (pv 4) (pa_cons (pe_bltn (v := .ty "list") (by rfl) T.z_list (by decide +kernel) rfl) (pa_nil)))) (pe_callB call_isi (by rfl) T.z_isinstance (by decide +kernel) (pa_cons (pv 5) (pa_cons (pe_bltn (v := .ty "list") (by rfl) T.z_list (by decide +kernel) rfl) (pa_nil)))) (nomark _)) (pw_or1 (pt_cmpR (op_neAny hr.units) (pe_callB call_isi (by rfl) T.z_isinstance (by decide +kernel) (pa_cons (pv 4) (pa_cons (pe_bltn (v := .ty "tuple") (by rfl) T.z_tuple (by decide +kernel) rfl) (pa_nil)))) (pe_callB call_isi (by rfl) T.z_isinstance (by decide +kernel) (pa_cons (pv 5) (pa_cons (pe_bltn (v := .ty "tuple") (by rfl) T.z_tuple (by decide +kernel) rfl) (pa_nil)))) (nomark _)))).pt) (pss_one (ps_ret (pe_bl))) (pss_nil)) (pss_cons (ps_if (pt_cmpR (op_neAny hr.units) (pe_callB LD.call_len' (by rfl) T.z_len (by decide +kernel) (pa_cons (pv 4) (pa_nil))) (pe_callB LD.call_len' (by rfl) T.z_len (by decide +kernel) (pa_cons (pv 5) (pa_nil))) (nomark _)) (pss_one (ps_ret (pe_bl))) (pss_nil)) (pss_one (ps_for (passes_of rfl) rfl (pi_range1 rfl T.z_range (pa_cons (pe_callB LD.call_len' (by rfl) T.z_len (by decide +kernel) (pa_cons (pv 5) (pa_nil))) (pa_nil))) (pg_name (i := 6) sc__law_same.nd rfl (Or.inl rfl)) (pss_one (ps_expr (pe_bm PySem.F.plainAttrs_list PySem.F.slot_list_append PySem.F.type_list_append mt_append (pv 2) (pa_cons (pe_tup (pa_cons (pe_ix ix_seq (pv 4) (pv 6) (fun _ _ => rfl)) (pa_cons (pe_ix ix_seq (pv 5) (pv 6) (fun _ _ => rfl)) (pa_nil)))) (pa_nil)))))))))))))))))))) (pss_one (ps_ret (pe_bl))))
theorem ok__law_same (T : Txt P K mg a)  (len : ∀ vs H Q E, sp__law_same K a vs H Q E → vs.length = ps__law_same.length) (hd : ∀ vs H Q E, sp__law_same K a vs H Q E → t__law_same K a E { nx := fun _ H' => Q .non H', rt := Q } (L2.start N__law_same vs) H) :
    FnOk P w K mg base (L2.CX P w) 3 a.f__law_same a.d__law_same ps__law_same (sp__law_same K a) := T.F__law_same.ok sc__law_same len fun cdv A outer s H vs Q E hr h => ⟨t__law_same K a E, tm__law_same T  hr, hd vs H Q E h⟩
/-- _law_text: level 3 -/
def t__law_text (K : PySem.W.Frag) (a : Ad) (E : XK) : TS := tSeq (tAsg (tOp (rIx K) (tLst (tCons (tC (.int 0)) (tCons (tC (.int 1)) (tCons (tC (.int 1)) (tCons (tC (.int 2)) (tCons (tC (.int 2)) (tCons (tC (.int 3)) (tCons (tC (.int 0)) (tCons (tC (.int 1)) (tCons (tC (.int 1)) (tCons (tC (.int 2)) (tCons (tC (.int 1)) (tCons (tC (.int 12)) (tNil)))))))))))))) (tOp (rI (fun _ j => 0 < j) fun i j => .int (i % j)) (tCB rInt1 (tCons (tVar 0) (tNil))) (tC (.int 12)))) (gName 1)) (tSeq (tAsg (tC (.str "")) (gName 2)) (tSeq (tFor (iRng1 (tCons (tVar 1) (tNil))) (gName 3) (tAsg (tOp (rPlus K) (tVar 2) (tOp (rIx K) (tC (.str "abcdefghijklmnopqrstuvwxyz")) (tOp (rI (fun _ j => 0 < j) fun i j => .int (i % j)) (tCB rInt1 (tCons (tOp (rPlus K) (tOp (rI CDiv fun i j => .int (i / j)) (tVar 0) (tC (.int 12))) (tOp (rTimes K) (tVar 3) (tOp (rPlus K) (tC (.int 1)) (tOp (rI (fun _ j => 0 < j) fun i j => .int (i % j)) (tCB rInt1 (tCons (tVar 0) (tNil))) (tC (.int 5)))))) (tNil))) (tC (.int 26))))) (gName 2))) (tRet (tVar 2))))
theorem tm__law_text (T : Txt P K mg a)  {cdv : Value} {A : Around} {outer : List Env} {s : Shared} {H : Hp} {E : XK} (hr : Room 2 (cxOf (L2.CX P w) P w K mg base N__law_text "_law_text" (defScope st__law_text) a.f__law_text cdv A outer s H E).A) : PSs (cxOf (L2.CX P w) P w K mg base N__law_text "_law_text" (defScope st__law_text) a.f__law_text cdv A outer s H E) (defBody st__law_text) (t__law_text K a E) :=
  pss_cons (ps_set (i := 1) sc__law_text.nd rfl (Or.inl rfl) (pe_ix ix_seq (pe_lst (pa_cons (pe_int) (pa_cons (pe_int) (pa_cons (pe_int) (pa_cons (pe_int) (pa_cons (pe_int) (pa_cons (pe_int) (pa_cons (pe_int) (pa_cons (pe_int) (pa_cons (pe_int) (pa_cons (pe_int) (pa_cons (pe_int) (pa_cons (pe_int) (pa_nil)))))))))))))) (pe_op op_mod (pe_callTy call_int' (by rfl) T.z_int (by decide +kernel) (pa_cons (pv 0) (pa_nil))) (pe_int)) (fun _ _ => rfl))) (pss_cons (ps_set (i := 2) sc__law_text.nd rfl (Or.inl rfl) (pe_str)) (pss_cons (ps_for (passes_of rfl) rfl (pi_range1 rfl T.z_range (pa_cons (pv 1) (pa_nil))) (pg_name (i := 3) sc__law_text.nd rfl (Or.inl rfl)) (pss_one (ps_set (i := 2) sc__law_text.nd rfl (Or.inl rfl) (pe_op op_plus (pv 2) (pe_ix ix_seq (pe_str) (pe_op op_mod (pe_callTy call_int' (by rfl) T.z_int (by decide +kernel) (pa_cons (pe_op op_plus (pe_op op_fdiv (pv 0) (pe_int)) (pe_op op_times (pv 3) (pe_op op_plus (pe_int) (pe_op op_mod (pe_callTy call_int' (by rfl) T.z_int (by decide +kernel) (pa_cons (pv 0) (pa_nil))) (pe_int))))) (pa_nil))) (pe_int)) (fun _ _ => rfl)))))) (pss_one (ps_ret (pv 2)))))
theorem ok__law_text (T : Txt P K mg a)  (len : ∀ vs H Q E, sp__law_text K a vs H Q E → vs.length = ps__law_text.length) (hd : ∀ vs H Q E, sp__law_text K a vs H Q E → t__law_text K a E { nx := fun _ H' => Q .non H', rt := Q } (L2.start N__law_text vs) H) :
    FnOk P w K mg base (L2.CX P w) 3 a.f__law_text a.d__law_text ps__law_text (sp__law_text K a) := T.F__law_text.ok sc__law_text len fun cdv A outer s H vs Q E hr h => ⟨t__law_text K a E, tm__law_text T  hr, hd vs H Q E h⟩
/-- _law_join: level 3 -/
def t__law_join (K : PySem.W.Frag) (a : Ad) (E : XK) : TS := tSeq (tIfS (tTest (tOp (rEqAny K) (tVar 0) (tC (.str "wrap")))) (tRet (tTup (tCons (tOp (rPlus K) (tOp (rIx K) (tVar 1) (tC (.int 0))) (tOp (rIx K) (tVar 2) (tC (.int 0)))) (tCons (tOp (rPlus K) (tOp (rIx K) (tVar 2) (tC (.int 1))) (tOp (rIx K) (tVar 1) (tC (.int 1)))) (tNil))))) (tNext)) (tSeq (tIfS (tTest (tOp (rEqAny K) (tVar 0) (tC (.str "left")))) (tRet (tTup (tCons (tOp (rPlus K) (tOp (rPlus K) (tOp (rIx K) (tVar 1) (tC (.int 0))) (tOp (rIx K) (tVar 1) (tC (.int 1)))) (tOp (rIx K) (tVar 2) (tC (.int 0)))) (tCons (tOp (rIx K) (tVar 2) (tC (.int 1))) (tNil))))) (tNext)) (tRet (tTup (tCons (tOp (rIx K) (tVar 1) (tC (.int 0))) (tCons (tOp (rPlus K) (tOp (rPlus K) (tOp (rIx K) (tVar 1) (tC (.int 1))) (tOp (rIx K) (tVar 2) (tC (.int 0)))) (tOp (rIx K) (tVar 2) (tC (.int 1)))) (tNil))))))
theorem tm__law_join (T : Txt P K mg a)  {cdv : Value} {A : Around} {outer : List Env} {s : Shared} {H : Hp} {E : XK} (hr : Room 2 (cxOf (L2.CX P w) P w K mg base N__law_join "_law_join" (defScope st__law_join) a.f__law_join cdv A outer s H E).A) : PSs (cxOf (L2.CX P w) P w K mg base N__law_join "_law_join" (defScope st__law_join) a.f__law_join cdv A outer s H E) (defBody st__law_join) (t__law_join K a E) :=
  pss_cons (ps_if (pt_cmpR (op_eqAny hr.units) (pv 0) (pe_str) (nomark _)) (pss_one (ps_ret (pe_tup (pa_cons (pe_op op_plus (pe_ix ix_seq (pv 1) (pe_int) (fun _ _ => rfl)) (pe_ix ix_seq (pv 2) (pe_int) (fun _ _ => rfl))) (pa_cons (pe_op op_plus (pe_ix ix_seq (pv 2) (pe_int) (fun _ _ => rfl)) (pe_ix ix_seq (pv 1) (pe_int) (fun _ _ => rfl))) (pa_nil)))))) (pss_nil)) (pss_cons (ps_if (pt_cmpR (op_eqAny hr.units) (pv 0) (pe_str) (nomark _)) (pss_one (ps_ret (pe_tup (pa_cons (pe_op op_plus (pe_op op_plus (pe_ix ix_seq (pv 1) (pe_int) (fun _ _ => rfl)) (pe_ix ix_seq (pv 1) (pe_int) (fun _ _ => rfl))) (pe_ix ix_seq (pv 2) (pe_int) (fun _ _ => rfl))) (pa_cons (pe_ix ix_seq (pv 2) (pe_int) (fun _ _ => rfl)) (pa_nil)))))) (pss_nil)) (pss_one (ps_ret (pe_tup (pa_cons (pe_ix ix_seq (pv 1) (pe_int) (fun _ _ => rfl)) (pa_cons (pe_op op_plus (pe_op op_plus (pe_ix ix_seq (pv 1) (pe_int) (fun _ _ => rfl)) (pe_ix ix_seq (pv 2) (pe_int) (fun _ _ => rfl))) (pe_ix ix_seq (pv 2) (pe_int) (fun _ _ => rfl))) (pa_nil)))))))
theorem ok__law_join (T : Txt P K mg a)  (len : ∀ vs H Q E, sp__law_join K a vs H Q E → vs.length = ps__law_join.length) (hd : ∀ vs H Q E, sp__law_join K a vs H Q E → t__law_join K a E { nx := fun _ H' => Q .non H', rt := Q } (L2.start N__law_join vs) H) :
    FnOk P w K mg base (L2.CX P w) 3 a.f__law_join a.d__law_join ps__law_join (sp__law_join K a) := T.F__law_join.ok sc__law_join len fun cdv A outer s H vs Q E hr h => ⟨t__law_join K a E, tm__law_join T  hr, hd vs H Q E h⟩
/-- _law_letters: level 3 -/
def t__law_letters (K : PySem.W.Frag) (a : Ad) (E : XK) : TS := tSeq (tAsg (tC (.str "")) (gName 3)) (tSeq (tAsg (tVar 0) (gName 4)) (tSeq (tFor (iRng1 (tCons (tVar 1) (tNil))) (gName 5) (tSeq (tAsg (tOp (rPlus K) (tVar 3) (tOp (rIx K) (tVar 2) (tOp (rI (fun _ j => 0 < j) fun i j => .int (i % j)) (tCB rInt1 (tCons (tVar 4) (tNil))) (tCB (LD.rLen K) (tCons (tVar 2) (tNil)))))) (gName 3)) (tAsg (tOp (rI CDiv fun i j => .int (i / j)) (tVar 4) (tCB (LD.rLen K) (tCons (tVar 2) (tNil)))) (gName 4)))) (tRet (tVar 3))))
theorem tm__law_letters (T : Txt P K mg a)  {cdv : Value} {A : Around} {outer : List Env} {s : Shared} {H : Hp} {E : XK} (hr : Room 2 (cxOf (L2.CX P w) P w K mg base N__law_letters "_law_letters" (defScope st__law_letters) a.f__law_letters cdv A outer s H E).A) : PSs (cxOf (L2.CX P w) P w K mg base N__law_letters "_law_letters" (defScope st__law_letters) a.f__law_letters cdv A outer s H E) (defBody st__law_letters) (t__law_letters K a E) :=
  pss_cons (ps_set (i := 3) sc__law_letters.nd rfl (Or.inl rfl) (pe_str)) (pss_cons (ps_set (i := 4) sc__law_letters.nd rfl (Or.inl rfl) (pv 0)) (pss_cons (ps_for (passes_of rfl) rfl (pi_range1 rfl T.z_range (pa_cons (pv 1) (pa_nil))) (pg_name (i := 5) sc__law_letters.nd rfl (Or.inl rfl)) (pss_cons (ps_set (i := 3) sc__law_letters.nd rfl (Or.inl rfl) (pe_op op_plus (pv 3) (pe_ix ix_seq (pv 2) (pe_op op_mod (pe_callTy call_int' (by rfl) T.z_int (by decide +kernel) (pa_cons (pv 4) (pa_nil))) (pe_callB LD.call_len' (by rfl) T.z_len (by decide +kernel) (pa_cons (pv 2) (pa_nil)))) (fun _ _ => rfl)))) (pss_one (ps_set (i := 4) sc__law_letters.nd rfl (Or.inl rfl) (pe_op op_fdiv (pv 4) (pe_callB LD.call_len' (by rfl) T.z_len (by decide +kernel) (pa_cons (pv 2) (pa_nil)))))))) (pss_one (ps_ret (pv 3)))))
theorem ok__law_letters (T : Txt P K mg a)  (len : ∀ vs H Q E, sp__law_letters K a vs H Q E → vs.length = ps__law_letters.length) (hd : ∀ vs H Q E, sp__law_letters K a vs H Q E → t__law_letters K a E { nx := fun _ H' => Q .non H', rt := Q } (L2.start N__law_letters vs) H) :
    FnOk P w K mg base (L2.CX P w) 3 a.f__law_letters a.d__law_letters ps__law_letters (sp__law_letters K a) := T.F__law_letters.ok sc__law_letters len fun cdv A outer s H vs Q E hr h => ⟨t__law_letters K a E, tm__law_letters T  hr, hd vs H Q E h⟩
/-- _law_fits: level 3 -/
def t__law_fits (K : PySem.W.Frag) (a : Ad) (E : XK) : TS := tSeq (tFor (iRng1 (tCons (tOp (rPlus K) (tCB (LD.rLen K) (tCons (tVar 0) (tNil))) (tC (.int 1))) (tNil))) (gName 3) (tIfS (tTest (tOp (rEqAny K) (tSl (rSl K) (tVar 0) (tPart (tVar 3)) (tPart (tOp (rPlus K) (tVar 3) (tCB (LD.rLen K) (tCons (tVar 1) (tNil)))))) (tVar 1))) (tSeq (tAsg (tSl (rSl K) (tVar 0) (tPart (tOp (rPlus K) (tVar 3) (tCB (LD.rLen K) (tCons (tVar 1) (tNil))))) (tNoPart)) (gName 4)) (tFor (iRng1 (tCons (tOp (rPlus K) (tCB (LD.rLen K) (tCons (tVar 4) (tNil))) (tC (.int 1))) (tNil))) (gName 5) (tIfS (tTest (tOp (rEqAny K) (tSl (rSl K) (tVar 4) (tPart (tVar 5)) (tPart (tOp (rPlus K) (tVar 5) (tCB (LD.rLen K) (tCons (tVar 2) (tNil)))))) (tVar 2))) (tRet (tC (.bl true))) (tNext)))) (tNext))) (tRet (tC (.bl false)))
theorem tm__law_fits (T : Txt P K mg a)  {cdv : Value} {A : Around} {outer : List Env} {s : Shared} {H : Hp} {E : XK} (hr : Room 2 (cxOf (L2.CX P w) P w K mg base N__law_fits "_law_fits" (defScope st__law_fits) a.f__law_fits cdv A outer s H E).A) : PSs (cxOf (L2.CX P w) P w K mg base N__law_fits "_law_fits" (defScope st__law_fits) a.f__law_fits cdv A outer s H E) (defBody st__law_fits) (t__law_fits K a E) :=
  pss_cons (ps_for (passes_of rfl) rfl (pi_range1 rfl T.z_range (pa_cons (pe_op op_plus (pe_callB LD.call_len' (by rfl) T.z_len (by decide +kernel) (pa_cons (pv 0) (pa_nil))) (pe_int)) (pa_nil))) (pg_name (i := 3) sc__law_fits.nd rfl (Or.inl rfl)) (pss_one (ps_if (pt_cmpR (op_eqAny hr.units) (pe_slice sl_any (pv 0) (po_some (pv 3)) (po_some (pe_op op_plus (pv 3) (pe_callB LD.call_len' (by rfl) T.z_len (by decide +kernel) (pa_cons (pv 1) (pa_nil)))))) (pv 1) (nomark _)) (pss_cons (ps_set (i := 4) sc__law_fits.nd rfl (Or.inl rfl) (pe_slice sl_any (pv 0) (po_some (pe_op op_plus (pv 3) (pe_callB LD.call_len' (by rfl) T.z_len (by decide +kernel) (pa_cons (pv 1) (pa_nil))))) (po_none))) (pss_one (ps_for (passes_of rfl) rfl (pi_range1 rfl T.z_range (pa_cons (pe_op op_plus (pe_callB LD.call_len' (by rfl) T.z_len (by decide +kernel) (pa_cons (pv 4) (pa_nil))) (pe_int)) (pa_nil))) (pg_name (i := 5) sc__law_fits.nd rfl (Or.inl rfl)) (pss_one (ps_if (pt_cmpR (op_eqAny hr.units) (pe_slice sl_any (pv 4) (po_some (pv 5)) (po_some (pe_op op_plus (pv 5) (pe_callB LD.call_len' (by rfl) T.z_len (by decide +kernel) (pa_cons (pv 2) (pa_nil)))))) (pv 2) (nomark _)) (pss_one (ps_ret (pe_bl))) (pss_nil)))))) (pss_nil)))) (pss_one (ps_ret (pe_bl)))
theorem ok__law_fits (T : Txt P K mg a)  (len : ∀ vs H Q E, sp__law_fits K a vs H Q E → vs.length = ps__law_fits.length) (hd : ∀ vs H Q E, sp__law_fits K a vs H Q E → t__law_fits K a E { nx := fun _ H' => Q .non H', rt := Q } (L2.start N__law_fits vs) H) :
    FnOk P w K mg base (L2.CX P w) 3 a.f__law_fits a.d__law_fits ps__law_fits (sp__law_fits K a) := T.F__law_fits.ok sc__law_fits len fun cdv A outer s H vs Q E hr h => ⟨t__law_fits K a E, tm__law_fits T  hr, hd vs H Q E h⟩
/-- _law_bad_place: level 3 -/
def t__law_bad_place (K : PySem.W.Frag) (a : Ad) (E : XK) : TS := tSeq (tFor (iRng1 (tCons (tCB (LD.rLen K) (tCons (tVar 0) (tNil))) (tNil))) (gName 2) (tIfS (tOr (tTest (tOp (rI0 fun i j => .bl (decide (j ≤ i))) (tVar 2) (tVar 1))) (tTest (tOp (rNotInA K) (tOp (rIx K) (tVar 0) (tVar 2)) (tC (.str "abcdefghijklmnopqrstuvwxyz"))))) (tRet (tVar 2)) (tNext))) (tRet (tUn (rU fun i => .int (-i)) (tC (.int 1))))
theorem tm__law_bad_place (T : Txt P K mg a)  {cdv : Value} {A : Around} {outer : List Env} {s : Shared} {H : Hp} {E : XK} (hr : Room 2 (cxOf (L2.CX P w) P w K mg base N__law_bad_place "_law_bad_place" (defScope st__law_bad_place) a.f__law_bad_place cdv A outer s H E).A) : PSs (cxOf (L2.CX P w) P w K mg base N__law_bad_place "_law_bad_place" (defScope st__law_bad_place) a.f__law_bad_place cdv A outer s H E) (defBody st__law_bad_place) (t__law_bad_place K a E) :=
  pss_cons (ps_for (passes_of rfl) rfl (pi_range1 rfl T.z_range (pa_cons (pe_callB LD.call_len' (by rfl) T.z_len (by decide +kernel) (pa_cons (pv 0) (pa_nil))) (pa_nil))) (pg_name (i := 2) sc__law_bad_place.nd rfl (Or.inl rfl)) (pss_one (ps_if ((pw_or (pt_cmpR op_ge (pv 2) (pv 1) (nomark _)) (pw_or1 (pt_cmpR op_notInA (pe_ix ix_seq (pv 0) (pv 2) (fun _ _ => rfl)) (pe_str) rfl))).pt) (pss_one (ps_ret (pv 2))) (pss_nil)))) (pss_one (ps_ret (pe_un un_neg (pe_int))))
theorem ok__law_bad_place (T : Txt P K mg a)  (len : ∀ vs H Q E, sp__law_bad_place K a vs H Q E → vs.length = ps__law_bad_place.length) (hd : ∀ vs H Q E, sp__law_bad_place K a vs H Q E → t__law_bad_place K a E { nx := fun _ H' => Q .non H', rt := Q } (L2.start N__law_bad_place vs) H) :
    FnOk P w K mg base (L2.CX P w) 3 a.f__law_bad_place a.d__law_bad_place ps__law_bad_place (sp__law_bad_place K a) := T.F__law_bad_place.ok sc__law_bad_place len fun cdv A outer s H vs Q E hr h => ⟨t__law_bad_place K a E, tm__law_bad_place T  hr, hd vs H Q E h⟩
/-- _law_good_rule: level 5 -/
def t__law_good_rule (K : PySem.W.Frag) (a : Ad) (E : XK) : TS := tSeq (tAsg (tOp (rIx K) (tLst (tCons (tC (.str "leaf")) (tCons (tC (.str "wrap")) (tCons (tC (.str "left")) (tCons (tC (.str "right")) (tNil)))))) (tOp (rI (fun _ j => 0 < j) fun i j => .int (i % j)) (tCB rInt1 (tCons (tOp (rIx K) (tVar 0) (tC (.int 0))) (tNil))) (tC (.int 4)))) (gName 2)) (tSeq (tAsg (tOp (rIx K) (tLst (tCons (tOp (rI (fun _ j => 0 < j) fun i j => .int (i % j)) (tCB rInt1 (tCons (tOp (rIx K) (tVar 0) (tC (.int 1))) (tNil))) (tVar 1)) (tCons (tOp (rI0 fun i j => .int (i - j)) (tVar 1) (tC (.int 1))) (tNil)))) (tOp (rI (fun _ j => 0 < j) fun i j => .int (i % j)) (tCB rInt1 (tCons (tOp (rIx K) (tVar 0) (tC (.int 4))) (tNil))) (tC (.int 2)))) (gName 3)) (tSeq (tIfS (tTest (tOp (rEqAny K) (tVar 2) (tC (.str "leaf")))) (tRet (tTup (tCons (tVar 2) (tCons (tVar 3) (tCons (tCallSD (sp__law_text K a) [] (WE (fun cls d _ H => E cls d H)) (tCons (tOp (rIx K) (tVar 0) (tC (.int 2))) (tNil))) (tCons (tCallSD (sp__law_text K a) [] (WE (fun cls d _ H => E cls d H)) (tCons (tOp (rIx K) (tVar 0) (tC (.int 3))) (tNil))) (tNil))))))) (tNext)) (tRet (tTup (tCons (tVar 2) (tCons (tVar 3) (tCons (tOp (rI (fun _ j => 0 < j) fun i j => .int (i % j)) (tCB rInt1 (tCons (tOp (rIx K) (tVar 0) (tC (.int 2))) (tNil))) (tVar 1)) (tCons (tOp (rIx K) (tLst (tCons (tOp (rI0 fun i j => .int (i - j)) (tVar 1) (tC (.int 1))) (tCons (tOp (rI (fun _ j => 0 < j) fun i j => .int (i % j)) (tCB rInt1 (tCons (tOp (rIx K) (tVar 0) (tC (.int 3))) (tNil))) (tVar 1)) (tNil)))) (tOp (rI (fun _ j => 0 < j) fun i j => .int (i % j)) (tCB rInt1 (tCons (tOp (rIx K) (tVar 0) (tC (.int 5))) (tNil))) (tC (.int 2)))) (tNil)))))))))
theorem tm__law_good_rule (T : Txt P K mg a) (G__law_text : FnOk P w K mg base (L2.CX P w) 3 a.f__law_text a.d__law_text ps__law_text (sp__law_text K a)) {cdv : Value} {A : Around} {outer : List Env} {s : Shared} {H : Hp} {E : XK} (hr : Room 4 (cxOf (L2.CX P w) P w K mg base N__law_good_rule "_law_good_rule" (defScope st__law_good_rule) a.f__law_good_rule cdv A outer s H E).A) : PSs (cxOf (L2.CX P w) P w K mg base N__law_good_rule "_law_good_rule" (defScope st__law_good_rule) a.f__law_good_rule cdv A outer s H E) (defBody st__law_good_rule) (t__law_good_rule K a E) :=
  pss_cons (ps_set (i := 2) sc__law_good_rule.nd rfl (Or.inl rfl) (pe_ix ix_seq (pe_lst (pa_cons (pe_str) (pa_cons (pe_str) (pa_cons (pe_str) (pa_cons (pe_str) (pa_nil)))))) (pe_op op_mod (pe_callTy call_int' (by rfl) T.z_int (by decide +kernel) (pa_cons (pe_ix ix_seq (pv 0) (pe_int) (fun _ _ => rfl)) (pa_nil))) (pe_int)) (fun _ _ => rfl))) (pss_cons (ps_set (i := 3) sc__law_good_rule.nd rfl (Or.inl rfl) (pe_ix ix_seq (pe_lst (pa_cons (pe_op op_mod (pe_callTy call_int' (by rfl) T.z_int (by decide +kernel) (pa_cons (pe_ix ix_seq (pv 0) (pe_int) (fun _ _ => rfl)) (pa_nil))) (pv 1)) (pa_cons (pe_op op_sub (pv 1) (pe_int)) (pa_nil)))) (pe_op op_mod (pe_callTy call_int' (by rfl) T.z_int (by decide +kernel) (pa_cons (pe_ix ix_seq (pv 0) (pe_int) (fun _ _ => rfl)) (pa_nil))) (pe_int)) (fun _ _ => rfl))) (pss_cons (ps_if (pt_cmpR (op_eqAny hr.units) (pv 2) (pe_str) (nomark _)) (pss_one (ps_ret (pe_tup (pa_cons (pv 2) (pa_cons (pv 3) (pa_cons (pe_callSD (G__law_text) (hr.mono (by decide)) (by rfl) T.g__law_text T.F__law_text.kp T.b__law_text .nil (fun σ => passAt (takes_of rfl rfl rfl rfl) σ) (pa_cons (pe_ix ix_seq (pv 0) (pe_int) (fun _ _ => rfl)) (pa_nil))) (pa_cons (pe_callSD (G__law_text) (hr.mono (by decide)) (by rfl) T.g__law_text T.F__law_text.kp T.b__law_text .nil (fun σ => passAt (takes_of rfl rfl rfl rfl) σ) (pa_cons (pe_ix ix_seq (pv 0) (pe_int) (fun _ _ => rfl)) (pa_nil))) (pa_nil)))))))) (pss_nil)) (pss_one (ps_ret (pe_tup (pa_cons (pv 2) (pa_cons (pv 3) (pa_cons (pe_op op_mod (pe_callTy call_int' (by rfl) T.z_int (by decide +kernel) (pa_cons (pe_ix ix_seq (pv 0) (pe_int) (fun _ _ => rfl)) (pa_nil))) (pv 1)) (pa_cons (pe_ix ix_seq (pe_lst (pa_cons (pe_op op_sub (pv 1) (pe_int)) (pa_cons (pe_op op_mod (pe_callTy call_int' (by rfl) T.z_int (by decide +kernel) (pa_cons (pe_ix ix_seq (pv 0) (pe_int) (fun _ _ => rfl)) (pa_nil))) (pv 1)) (pa_nil)))) (pe_op op_mod (pe_callTy call_int' (by rfl) T.z_int (by decide +kernel) (pa_cons (pe_ix ix_seq (pv 0) (pe_int) (fun _ _ => rfl)) (pa_nil))) (pe_int)) (fun _ _ => rfl)) (pa_nil))))))))))
theorem ok__law_good_rule (T : Txt P K mg a) (G__law_text : FnOk P w K mg base (L2.CX P w) 3 a.f__law_text a.d__law_text ps__law_text (sp__law_text K a)) (len : ∀ vs H Q E, sp__law_good_rule K a vs H Q E → vs.length = ps__law_good_rule.length) (hd : ∀ vs H Q E, sp__law_good_rule K a vs H Q E → t__law_good_rule K a E { nx := fun _ H' => Q .non H', rt := Q } (L2.start N__law_good_rule vs) H) :
    FnOk P w K mg base (L2.CX P w) 5 a.f__law_good_rule a.d__law_good_rule ps__law_good_rule (sp__law_good_rule K a) := T.F__law_good_rule.ok sc__law_good_rule len fun cdv A outer s H vs Q E hr h => ⟨t__law_good_rule K a E, tm__law_good_rule T G__law_text hr, hd vs H Q E h⟩
/-- _law_bad_rule: level 5 -/
def t__law_bad_rule (K : PySem.W.Frag) (a : Ad) (E : XK) : TS := tSeq (tAsg (tOp (rI (fun _ j => 0 < j) fun i j => .int (i % j)) (tCB rInt1 (tCons (tOp (rIx K) (tVar 0) (tC (.int 0))) (tNil))) (tVar 1)) (gName 3)) (tSeq (tAsg (tOp (rIx K) (tLst (tCons (tUn (rU fun i => .int (-i)) (tC (.int 1))) (tCons (tVar 1) (tCons (tOp (rI0 fun i j => .int (i - j)) (tUn (rU fun i => .int (-i)) (tC (.int 1))) (tOp (rI (fun _ j => 0 < j) fun i j => .int (i % j)) (tCB rInt1 (tCons (tOp (rIx K) (tVar 0) (tC (.int 1))) (tNil))) (tC (.int 9)))) (tCons (tOp (rPlus K) (tVar 1) (tOp (rI (fun _ j => 0 < j) fun i j => .int (i % j)) (tCB rInt1 (tCons (tOp (rIx K) (tVar 0) (tC (.int 1))) (tNil))) (tC (.int 9)))) (tCons (tOp (rI CPow fun i j => .int (i ^ j.toNat)) (tC (.int 10)) (tC (.int 20))) (tNil))))))) (tOp (rI (fun _ j => 0 < j) fun i j => .int (i % j)) (tCB rInt1 (tCons (tOp (rIx K) (tVar 0) (tC (.int 2))) (tNil))) (tC (.int 5)))) (gName 4)) (tSeq (tAsg (tCallSD (sp__law_letters K a) [] (WE (fun cls d _ H => E cls d H)) (tCons (tOp (rIx K) (tVar 0) (tC (.int 3))) (tCons (tOp (rI (fun _ j => 0 < j) fun i j => .int (i % j)) (tCB rInt1 (tCons (tOp (rIx K) (tVar 0) (tC (.int 3))) (tNil))) (tC (.int 12))) (tCons (tVar 2) (tNil))))) (gName 5)) (tSeq (tAsg (tOp (rI (fun _ j => 0 < j) fun i j => .int (i % j)) (tCB rInt1 (tCons (tOp (rIx K) (tVar 0) (tC (.int 1))) (tNil))) (tOp (rPlus K) (tCB (LD.rLen K) (tCons (tVar 5) (tNil))) (tC (.int 1)))) (gName 6)) (tSeq (tAsg (tOp (rPlus K) (tOp (rPlus K) (tSl (rSl K) (tVar 5) (tNoPart) (tPart (tVar 6))) (tOp (rIx K) (tC (.str " A{~09Z")) (tOp (rI (fun _ j => 0 < j) fun i j => .int (i % j)) (tCB rInt1 (tCons (tOp (rIx K) (tVar 0) (tC (.int 2))) (tNil))) (tC (.int 7))))) (tSl (rSl K) (tVar 5) (tPart (tVar 6)) (tNoPart))) (gName 7)) (tSeq (tAsg (tCallSD (sp__law_letters K a) [] (WE (fun cls d _ H => E cls d H)) (tCons (tOp (rIx K) (tVar 0) (tC (.int 1))) (tCons (tOp (rIx K) (tLst (tCons (tC (.int 13)) (tCons (tC (.int 13)) (tCons (tC (.int 14)) (tCons (tC (.int 20)) (tNil)))))) (tOp (rI (fun _ j => 0 < j) fun i j => .int (i % j)) (tCB rInt1 (tCons (tOp (rIx K) (tVar 0) (tC (.int 3))) (tNil))) (tC (.int 4)))) (tCons (tVar 2) (tNil))))) (gName 8)) (tSeq (tAsg (tOp (rIx K) (tLst (tCons (tC (.str "wrap")) (tCons (tC (.str "left")) (tCons (tC (.str "right")) (tNil))))) (tOp (rI (fun _ j => 0 < j) fun i j => .int (i % j)) (tCB rInt1 (tCons (tOp (rIx K) (tVar 0) (tC (.int 4))) (tNil))) (tC (.int 3)))) (gName 9)) (tSeq (tAsg (tLst (tCons (tTup (tCons (tVar 9) (tCons (tVar 4) (tCons (tVar 3) (tCons (tVar 3) (tNil)))))) (tCons (tTup (tCons (tVar 9) (tCons (tVar 3) (tCons (tVar 4) (tCons (tVar 3) (tNil)))))) (tCons (tTup (tCons (tVar 9) (tCons (tVar 3) (tCons (tVar 3) (tCons (tVar 4) (tNil)))))) (tCons (tTup (tCons (tC (.str "leaf")) (tCons (tVar 4) (tCons (tVar 5) (tCons (tC (.str "")) (tNil)))))) (tNil)))))) (gName 10)) (tSeq (tAsg (tOp (rPlus K) (tVar 10) (tLst (tCons (tTup (tCons (tC (.str "leaf")) (tCons (tVar 3) (tCons (tVar 8) (tCons (tC (.str "")) (tNil)))))) (tCons (tTup (tCons (tC (.str "leaf")) (tCons (tVar 3) (tCons (tVar 5) (tCons (tVar 8) (tNil)))))) (tCons (tTup (tCons (tC (.str "leaf")) (tCons (tVar 3) (tCons (tVar 7) (tCons (tVar 5) (tNil)))))) (tCons (tTup (tCons (tC (.str "leaf")) (tCons (tVar 3) (tCons (tC (.str "")) (tCons (tVar 7) (tNil)))))) (tNil))))))) (gName 10)) (tSeq (tAsg (tOp (rPlus K) (tVar 10) (tLst (tCons (tTup (tCons (tC (.str "leaf")) (tCons (tVar 3) (tCons (tVar 3) (tCons (tVar 3) (tNil)))))) (tCons (tTup (tCons (tVar 9) (tCons (tVar 3) (tCons (tVar 5) (tCons (tC (.str "")) (tNil)))))) (tCons (tTup (tCons (tC (.str "Leaf")) (tCons (tVar 3) (tCons (tVar 5) (tCons (tC (.str "")) (tNil)))))) (tCons (tTup (tCons (tC (.str "emit")) (tCons (tVar 3) (tCons (tVar 3) (tCons (tVar 3) (tNil)))))) (tNil))))))) (gName 10)) (tSeq (tAsg (tOp (rPlus K) (tVar 10) (tLst (tCons (tTup (tCons (tC (.str "")) (tCons (tVar 3) (tCons (tVar 3) (tCons (tVar 3) (tNil)))))) (tCons (tTup (tCons (tOp (rPlus K) (tVar 9) (tC (.str " "))) (tCons (tVar 3) (tCons (tVar 3) (tCons (tVar 3) (tNil)))))) (tNil))))) (gName 10)) (tRet (tOp (rIx K) (tVar 10) (tOp (rI (fun _ j => 0 < j) fun i j => .int (i % j)) (tCB rInt1 (tCons (tOp (rIx K) (tVar 0) (tC (.int 5))) (tNil))) (tC (.int 14)))))))))))))))
theorem tm__law_bad_rule (T : Txt P K mg a) (G__law_letters : FnOk P w K mg base (L2.CX P w) 3 a.f__law_letters a.d__law_letters ps__law_letters (sp__law_letters K a)) {cdv : Value} {A : Around} {outer : List Env} {s : Shared} {H : Hp} {E : XK} (hr : Room 4 (cxOf (L2.CX P w) P w K mg base N__law_bad_rule "_law_bad_rule" (defScope st__law_bad_rule) a.f__law_bad_rule cdv A outer s H E).A) : PSs (cxOf (L2.CX P w) P w K mg base N__law_bad_rule "_law_bad_rule" (defScope st__law_bad_rule) a.f__law_bad_rule cdv A outer s H E) (defBody st__law_bad_rule) (t__law_bad_rule K a E) :=
  pss_cons (ps_set (i := 3) sc__law_bad_rule.nd rfl (Or.inl rfl) (pe_op op_mod (pe_callTy call_int' (by rfl) T.z_int (by decide +kernel) (pa_cons (pe_ix ix_seq (pv 0) (pe_int) (fun _ _ => rfl)) (pa_nil))) (pv 1))) (pss_cons (ps_set (i := 4) sc__law_bad_rule.nd rfl (Or.inl rfl) (pe_ix ix_seq (pe_lst (pa_cons (pe_un un_neg (pe_int)) (pa_cons (pv 1) (pa_cons (pe_op op_sub (pe_un un_neg (pe_int)) (pe_op op_mod (pe_callTy call_int' (by rfl) T.z_int (by decide +kernel) (pa_cons (pe_ix ix_seq (pv 0) (pe_int) (fun _ _ => rfl)) (pa_nil))) (pe_int))) (pa_cons (pe_op op_plus (pv 1) (pe_op op_mod (pe_callTy call_int' (by rfl) T.z_int (by decide +kernel) (pa_cons (pe_ix ix_seq (pv 0) (pe_int) (fun _ _ => rfl)) (pa_nil))) (pe_int))) (pa_cons (pe_op op_pow (pe_int) (pe_int)) (pa_nil))))))) (pe_op op_mod (pe_callTy call_int' (by rfl) T.z_int (by decide +kernel) (pa_cons (pe_ix ix_seq (pv 0) (pe_int) (fun _ _ => rfl)) (pa_nil))) (pe_int)) (fun _ _ => rfl))) (pss_cons (ps_set (i := 5) sc__law_bad_rule.nd rfl (Or.inl rfl) (pe_callSD (G__law_letters) (hr.mono (by decide)) (by rfl) T.g__law_letters T.F__law_letters.kp T.b__law_letters .nil (fun σ => passAt (takes_of rfl rfl rfl rfl) σ) (pa_cons (pe_ix ix_seq (pv 0) (pe_int) (fun _ _ => rfl)) (pa_cons (pe_op op_mod (pe_callTy call_int' (by rfl) T.z_int (by decide +kernel) (pa_cons (pe_ix ix_seq (pv 0) (pe_int) (fun _ _ => rfl)) (pa_nil))) (pe_int)) (pa_cons (pv 2) (pa_nil)))))) (pss_cons (ps_set (i := 6) sc__law_bad_rule.nd rfl (Or.inl rfl) (pe_op op_mod (pe_callTy call_int' (by rfl) T.z_int (by decide +kernel) (pa_cons (pe_ix ix_seq (pv 0) (pe_int) (fun _ _ => rfl)) (pa_nil))) (pe_op op_plus (pe_callB LD.call_len' (by rfl) T.z_len (by decide +kernel) (pa_cons (pv 5) (pa_nil))) (pe_int)))) (pss_cons (ps_set (i := 7) sc__law_bad_rule.nd rfl (Or.inl rfl) (pe_op op_plus (pe_op op_plus (pe_slice sl_any (pv 5) (po_none) (po_some (pv 6))) (pe_ix ix_seq (pe_str) (pe_op op_mod (pe_callTy call_int' (by rfl) T.z_int (by decide +kernel) (pa_cons (pe_ix ix_seq (pv 0) (pe_int) (fun _ _ => rfl)) (pa_nil))) (pe_int)) (fun _ _ => rfl))) (pe_slice sl_any (pv 5) (po_some (pv 6)) (po_none)))) (pss_cons (ps_set (i := 8) sc__law_bad_rule.nd rfl (Or.inl rfl) (pe_callSD (G__law_letters) (hr.mono (by decide)) (by rfl) T.g__law_letters T.F__law_letters.kp T.b__law_letters .nil (fun σ => passAt (takes_of rfl rfl rfl rfl) σ) (pa_cons (pe_ix ix_seq (pv 0) (pe_int) (fun _ _ => rfl)) (pa_cons (pe_ix ix_seq (pe_lst (pa_cons (pe_int) (pa_cons (pe_int) (pa_cons (pe_int) (pa_cons (pe_int) (pa_nil)))))) (pe_op op_mod (pe_callTy call_int' (by rfl) T.z_int (by decide +kernel) (pa_cons (pe_ix ix_seq (pv 0) (pe_int) (fun _ _ => rfl)) (pa_nil))) (pe_int)) (fun _ _ => rfl)) (pa_cons (pv 2) (pa_nil)))))) (pss_cons (ps_set (i := 9) sc__law_bad_rule.nd rfl (Or.inl rfl) (pe_ix ix_seq (pe_lst (pa_cons (pe_str) (pa_cons (pe_str) (pa_cons (pe_str) (pa_nil))))) (pe_op op_mod (pe_callTy call_int' (by rfl) T.z_int (by decide +kernel) (pa_cons (pe_ix ix_seq (pv 0) (pe_int) (fun _ _ => rfl)) (pa_nil))) (pe_int)) (fun _ _ => rfl))) (pss_cons (ps_set (i := 10) sc__law_bad_rule.nd rfl (Or.inl rfl) (pe_lst (pa_cons (pe_tup (pa_cons (pv 9) (pa_cons (pv 4) (pa_cons (pv 3) (pa_cons (pv 3) (pa_nil)))))) (pa_cons (pe_tup (pa_cons (pv 9) (pa_cons (pv 3) (pa_cons (pv 4) (pa_cons (pv 3) (pa_nil)))))) (pa_cons (pe_tup (pa_cons (pv 9) (pa_cons (pv 3) (pa_cons (pv 3) (pa_cons (pv 4) (pa_nil)))))) (pa_cons (pe_tup (pa_cons (pe_str) (pa_cons (pv 4) (pa_cons (pv 5) (pa_cons (pe_str) (pa_nil)))))) (pa_nil))))))) (pss_cons (ps_set (i := 10) sc__law_bad_rule.nd rfl (Or.inl rfl) (pe_op op_plus (pv 10) (pe_lst (pa_cons (pe_tup (pa_cons (pe_str) (pa_cons (pv 3) (pa_cons (pv 8) (pa_cons (pe_str) (pa_nil)))))) (pa_cons (pe_tup (pa_cons (pe_str) (pa_cons (pv 3) (pa_cons (pv 5) (pa_cons (pv 8) (pa_nil)))))) (pa_cons (pe_tup (pa_cons (pe_str) (pa_cons (pv 3) (pa_cons (pv 7) (pa_cons (pv 5) (pa_nil)))))) (pa_cons (pe_tup (pa_cons (pe_str) (pa_cons (pv 3) (pa_cons (pe_str) (pa_cons (pv 7) (pa_nil)))))) (pa_nil)))))))) (pss_cons (ps_set (i := 10) sc__law_bad_rule.nd rfl (Or.inl rfl) (pe_op op_plus (pv 10) (pe_lst (pa_cons (pe_tup (pa_cons (pe_str) (pa_cons (pv 3) (pa_cons (pv 3) (pa_cons (pv 3) (pa_nil)))))) (pa_cons (pe_tup (pa_cons (pv 9) (pa_cons (pv 3) (pa_cons (pv 5) (pa_cons (pe_str) (pa_nil)))))) (pa_cons (pe_tup (pa_cons (pe_str) (pa_cons (pv 3) (pa_cons (pv 5) (pa_cons (pe_str) (pa_nil)))))) (pa_cons (pe_tup (pa_cons (pe_str) (pa_cons (pv 3) (pa_cons (pv 3) (pa_cons (pv 3) (pa_nil)))))) (pa_nil)))))))) (pss_cons (ps_set (i := 10) sc__law_bad_rule.nd rfl (Or.inl rfl) (pe_op op_plus (pv 10) (pe_lst (pa_cons (pe_tup (pa_cons (pe_str) (pa_cons (pv 3) (pa_cons (pv 3) (pa_cons (pv 3) (pa_nil)))))) (pa_cons (pe_tup (pa_cons (pe_op op_plus (pv 9) (pe_str)) (pa_cons (pv 3) (pa_cons (pv 3) (pa_cons (pv 3) (pa_nil)))))) (pa_nil)))))) (pss_one (ps_ret (pe_ix ix_seq (pv 10) (pe_op op_mod (pe_callTy call_int' (by rfl) T.z_int (by decide +kernel) (pa_cons (pe_ix ix_seq (pv 0) (pe_int) (fun _ _ => rfl)) (pa_nil))) (pe_int)) (fun _ _ => rfl))))))))))))))
theorem ok__law_bad_rule (T : Txt P K mg a) (G__law_letters : FnOk P w K mg base (L2.CX P w) 3 a.f__law_letters a.d__law_letters ps__law_letters (sp__law_letters K a)) (len : ∀ vs H Q E, sp__law_bad_rule K a vs H Q E → vs.length = ps__law_bad_rule.length) (hd : ∀ vs H Q E, sp__law_bad_rule K a vs H Q E → t__law_bad_rule K a E { nx := fun _ H' => Q .non H', rt := Q } (L2.start N__law_bad_rule vs) H) :
    FnOk P w K mg base (L2.CX P w) 5 a.f__law_bad_rule a.d__law_bad_rule ps__law_bad_rule (sp__law_bad_rule K a) := T.F__law_bad_rule.ok sc__law_bad_rule len fun cdv A outer s H vs Q E hr h => ⟨t__law_bad_rule K a E, tm__law_bad_rule T G__law_letters hr, hd vs H Q E h⟩
/-- _law_is_valid: level 5 -/
def t__law_is_valid (K : PySem.W.Frag) (a : Ad) (E : XK) : TS := tSeq (tIfS (tOr (tTest (tOp (LX.rNotInL K) (tOp (rIx K) (tVar 0) (tC (.int 0))) (tLst (tCons (tC (.str "leaf")) (tCons (tC (.str "wrap")) (tCons (tC (.str "left")) (tCons (tC (.str "right")) (tNil)))))))) (tNot (tTest (tChain (rI0 fun i j => .bl (decide (i ≤ j))) (rI0 fun i j => .bl (decide (i < j))) (tC (.int 0)) (tOp (rIx K) (tVar 0) (tC (.int 1))) (tVar 1))))) (tRet (tC (.bl false))) (tNext)) (tSeq (tFor (LX.iSeq K (tSl (rSlT K) (tVar 0) (tPart (tC (.int 2))) (tNoPart))) (gName 2) (tIfS (tTest (tOp (rEqAny K) (tOp (rIx K) (tVar 0) (tC (.int 0))) (tC (.str "leaf")))) (tIfS (tOr (tNot (tB (tCB (rIsi K) (tCons (tVar 2) (tCons (tC (.ty "str")) (tNil)))))) (tTest (tOp (rI0 fun i j => .bl (decide (j ≤ i))) (tCallSD (sp__law_bad_place K a) [] (WE (fun cls d _ H => E cls d H)) (tCons (tVar 2) (tCons (tC (.int 12)) (tNil)))) (tC (.int 0))))) (tRet (tC (.bl false))) (tNext)) (tIfS (tOr (tNot (tB (tCB (rIsi K) (tCons (tVar 2) (tCons (tC (.ty "int")) (tNil)))))) (tNot (tTest (tChain (rI0 fun i j => .bl (decide (i ≤ j))) (rI0 fun i j => .bl (decide (i < j))) (tC (.int 0)) (tVar 2) (tVar 1))))) (tRet (tC (.bl false))) (tNext)))) (tRet (tC (.bl true))))
theorem tm__law_is_valid (T : Txt P K mg a) (G__law_bad_place : FnOk P w K mg base (L2.CX P w) 3 a.f__law_bad_place a.d__law_bad_place ps__law_bad_place (sp__law_bad_place K a)) {cdv : Value} {A : Around} {outer : List Env} {s : Shared} {H : Hp} {E : XK} (hr : Room 4 (cxOf (L2.CX P w) P w K mg base N__law_is_valid "_law_is_valid" (defScope st__law_is_valid) a.f__law_is_valid cdv A outer s H E).A) : PSs (cxOf (L2.CX P w) P w K mg base N__law_is_valid "_law_is_valid" (defScope st__law_is_valid) a.f__law_is_valid cdv A outer s H E) (defBody st__law_is_valid) (t__law_is_valid K a E) :=
  pss_cons (ps_if ((pw_or (pt_cmpR (LX.op_notInL (LX.units65 hr)) (pe_ix ix_seq (pv 0) (pe_int) (fun _ _ => rfl)) (pe_lst (pa_cons (pe_str) (pa_cons (pe_str) (pa_cons (pe_str) (pa_cons (pe_str) (pa_nil)))))) rfl) (pw_or1 (pt_not (pt_chain op_le op_lt (pe_int) (pe_ix ix_seq (pv 0) (pe_int) (fun _ _ => rfl)) (pv 1))))).pt) (pss_one (ps_ret (pe_bl))) (pss_nil)) (pss_cons (ps_for (passes_of rfl) rfl (LX.pi_seq (pe_slice sl_tup (pv 0) (po_some (pe_int)) (po_none))) (pg_name (i := 2) sc__law_is_valid.nd rfl (Or.inl rfl)) (pss_one (ps_if (pt_cmpR (op_eqAny hr.units) (pe_ix ix_seq (pv 0) (pe_int) (fun _ _ => rfl)) (pe_str) (nomark _)) (pss_one (ps_if ((pw_or (pt_not (pt_val (pe_callB call_isi (by rfl) T.z_isinstance (by decide +kernel) (pa_cons (pv 2) (pa_cons (pe_bltn (v := .ty "str") (by rfl) T.z_str (by decide +kernel) rfl) (pa_nil)))))) (pw_or1 (pt_cmpR op_ge (pe_callSD (G__law_bad_place) (hr.mono (by decide)) (by rfl) T.g__law_bad_place T.F__law_bad_place.kp T.b__law_bad_place .nil (fun σ => passAt (takes_of rfl rfl rfl rfl) σ) (pa_cons (pv 2) (pa_cons (pe_int) (pa_nil)))) (pe_int) (nomark _)))).pt) (pss_one (ps_ret (pe_bl))) (pss_nil))) (pss_one (ps_if ((pw_or (pt_not (pt_val (pe_callB call_isi (by rfl) T.z_isinstance (by decide +kernel) (pa_cons (pv 2) (pa_cons (pe_bltn (v := .ty "int") (by rfl) T.z_int (by decide +kernel) rfl) (pa_nil)))))) (pw_or1 (pt_not (pt_chain op_le op_lt (pe_int) (pv 2) (pv 1))))).pt) (pss_one (ps_ret (pe_bl))) (pss_nil)))))) (pss_one (ps_ret (pe_bl))))
theorem ok__law_is_valid (T : Txt P K mg a) (G__law_bad_place : FnOk P w K mg base (L2.CX P w) 3 a.f__law_bad_place a.d__law_bad_place ps__law_bad_place (sp__law_bad_place K a)) (len : ∀ vs H Q E, sp__law_is_valid K a vs H Q E → vs.length = ps__law_is_valid.length) (hd : ∀ vs H Q E, sp__law_is_valid K a vs H Q E → t__law_is_valid K a E { nx := fun _ H' => Q .non H', rt := Q } (L2.start N__law_is_valid vs) H) :
    FnOk P w K mg base (L2.CX P w) 5 a.f__law_is_valid a.d__law_is_valid ps__law_is_valid (sp__law_is_valid K a) := T.F__law_is_valid.ok sc__law_is_valid len fun cdv A outer s H vs Q E hr h => ⟨t__law_is_valid K a E, tm__law_is_valid T G__law_bad_place hr, hd vs H Q E h⟩
/-- _law_due: level 7 -/
def t__law_due (K : PySem.W.Frag) (a : Ad) (E : XK) : TS := tSeq (tIfS (tTest (tOp (rI0 fun i j => .bl (decide (j < i))) (tVar 0) (tC (.int 300)))) (tRet (tLst (tCons (tC (.str "many")) (tCons (tC (.int 300)) (tNil))))) (tNext)) (tSeq (tIfS (tTest (tOp (rI0 fun i j => .bl (decide (j < i))) (tCB (LD.rLen K) (tCons (tVar 1) (tNil))) (tC (.int 900)))) (tRet (tLst (tCons (tC (.str "many")) (tCons (tC (.int 900)) (tNil))))) (tNext)) (tSeq (tFor (iRng1 (tCons (tCB (LD.rLen K) (tCons (tVar 1) (tNil))) (tNil))) (gName 2) (tIfS (tNot (tB (tCallSD (sp__law_is_valid K a) [] (WE (fun cls d _ H => E cls d H)) (tCons (tOp (rIx K) (tVar 1) (tVar 2)) (tCons (tVar 0) (tNil)))))) (tRet (tLst (tCons (tC (.str "bad")) (tCons (tVar 2) (tNil))))) (tNext))) (tRet (tLst (tCons (tC (.str "made")) (tCons (tVar 0) (tCons (tCB (rTupOf K) (tCons (tVar 1) (tNil))) (tNil))))))))
theorem tm__law_due (T : Txt P K mg a) (G__law_is_valid : FnOk P w K mg base (L2.CX P w) 5 a.f__law_is_valid a.d__law_is_valid ps__law_is_valid (sp__law_is_valid K a)) {cdv : Value} {A : Around} {outer : List Env} {s : Shared} {H : Hp} {E : XK} (hr : Room 6 (cxOf (L2.CX P w) P w K mg base N__law_due "_law_due" (defScope st__law_due) a.f__law_due cdv A outer s H E).A) : PSs (cxOf (L2.CX P w) P w K mg base N__law_due "_law_due" (defScope st__law_due) a.f__law_due cdv A outer s H E) (defBody st__law_due) (t__law_due K a E) :=
  pss_cons (ps_if (pt_cmpR op_gt (pv 0) (pe_int) (nomark _)) (pss_one (ps_ret (pe_lst (pa_cons (pe_str) (pa_cons (pe_int) (pa_nil)))))) (pss_nil)) (pss_cons (ps_if (pt_cmpR op_gt (pe_callB LD.call_len' (by rfl) T.z_len (by decide +kernel) (pa_cons (pv 1) (pa_nil))) (pe_int) (nomark _)) (pss_one (ps_ret (pe_lst (pa_cons (pe_str) (pa_cons (pe_int) (pa_nil)))))) (pss_nil)) (pss_cons (ps_for (passes_of rfl) rfl (pi_range1 rfl T.z_range (pa_cons (pe_callB LD.call_len' (by rfl) T.z_len (by decide +kernel) (pa_cons (pv 1) (pa_nil))) (pa_nil))) (pg_name (i := 2) sc__law_due.nd rfl (Or.inl rfl)) (pss_one (ps_if (pt_not (pt_val (pe_callSD (G__law_is_valid) (hr.mono (by decide)) (by rfl) T.g__law_is_valid T.F__law_is_valid.kp T.b__law_is_valid .nil (fun σ => passAt (takes_of rfl rfl rfl rfl) σ) (pa_cons (pe_ix ix_seq (pv 1) (pv 2) (fun _ _ => rfl)) (pa_cons (pv 0) (pa_nil)))))) (pss_one (ps_ret (pe_lst (pa_cons (pe_str) (pa_cons (pv 2) (pa_nil)))))) (pss_nil)))) (pss_one (ps_ret (pe_lst (pa_cons (pe_str) (pa_cons (pv 0) (pa_cons (pe_callTy call_tuple' (by rfl) T.z_tuple (by decide +kernel) (pa_cons (pv 1) (pa_nil))) (pa_nil)))))))))
theorem ok__law_due (T : Txt P K mg a) (G__law_is_valid : FnOk P w K mg base (L2.CX P w) 5 a.f__law_is_valid a.d__law_is_valid ps__law_is_valid (sp__law_is_valid K a)) (len : ∀ vs H Q E, sp__law_due K a vs H Q E → vs.length = ps__law_due.length) (hd : ∀ vs H Q E, sp__law_due K a vs H Q E → t__law_due K a E { nx := fun _ H' => Q .non H', rt := Q } (L2.start N__law_due vs) H) :
    FnOk P w K mg base (L2.CX P w) 7 a.f__law_due a.d__law_due ps__law_due (sp__law_due K a) := T.F__law_due.ok sc__law_due len fun cdv A outer s H vs Q E hr h => ⟨t__law_due K a E, tm__law_due T G__law_is_valid hr, hd vs H Q E h⟩
def tb__law_made_1 (K : PySem.W.Frag) (a : Ad) (E : XK) (W : WX) : TS := tAsg (tMakeSD a.c_PairGrammar (sp_PairGrammar___init__ K a) [] (WE W) (tCons (tVar 0) (tCons (tVar 2) (tNil)))) (gName 3)
def ts__law_made_1 (K : PySem.W.Frag) (a : Ad) (E : XK) (ea : Addr) (ec : Value) (ed : Option Addr) : TS := tSeq (tIfS (tAnd (tB (tCB (LX.rIsX K ea ec ed) (tCons (tVar 4) (tCons (tC (.ref a.c_TooMany)) (tNil))))) (tAnd (tB (tCB (LX.rIsX K ea ec ed) (tCons (tVar 4) (tCons (tC (.ty "ValueError")) (tNil))))) (tNot (tB (tCB (LX.rIsX K ea ec ed) (tCons (tVar 4) (tCons (tC (.ref a.c_BadRule)) (tNil)))))))) (tRet (tLst (tCons (tC (.str "many")) (tCons (tXf ea ec ed a.c_TooMany "limit" (tVar 4)) (tNil))))) (tNext)) (tSeq (tIfS (tAnd (tB (tCB (LX.rIsX K ea ec ed) (tCons (tVar 4) (tCons (tC (.ref a.c_BadRule)) (tNil))))) (tAnd (tB (tCB (LX.rIsX K ea ec ed) (tCons (tVar 4) (tCons (tC (.ty "ValueError")) (tNil))))) (tNot (tB (tCB (LX.rIsX K ea ec ed) (tCons (tVar 4) (tCons (tC (.ref a.c_TooMany)) (tNil)))))))) (tRet (tLst (tCons (tC (.str "bad")) (tCons (tXf ea ec ed a.c_BadRule "place" (tVar 4)) (tNil))))) (tNext)) (tRet (tLst (tCons (tC (.str "other")) (tCons (tC (.int 0)) (tNil))))))
/-- _law_made: level 12 -/
def t__law_made (K : PySem.W.Frag) (a : Ad) (E : XK) : TS := tSeq (tAsg (tCB (rListOf K) (tCons (tVar 1) (tNil))) (gName 2)) (tSeq ((fun D σ H => tb__law_made_1 K a E (wAs K (.ref a.c_Fault) 4 (ts__law_made_1 K a E) (fun cls d _ H => E cls d H) D) D σ H)) (tSeq (tIfS (tTest (tOp (rNeAny K) (tVar 2) (tVar 1))) (tRet (tLst (tCons (tC (.str "other")) (tCons (tC (.int 1)) (tNil))))) (tNext)) (tSeq (tDrop (tBM K "list" rAppend (tVar 2) (tCons (tTup (tCons (tC (.str "leaf")) (tCons (tC (.int 0)) (tCons (tC (.str "q")) (tCons (tC (.str "")) (tNil)))))) (tNil)))) (tSeq (tAsg (tTup (tCons (tC (.str "leaf")) (tCons (tC (.int 0)) (tCons (tC (.str "qq")) (tCons (tC (.str "q")) (tNil)))))) (gSub (tVar 2) (tC (.int 0)) rSetL)) (tSeq (tIfS (tOr (tNot (tB (tCB (rIsi K) (tCons (tVar 3) (tCons (tC (.ref a.c_Grammar)) (tNil)))))) (tNot (tB (tCallSD (sp__law_same K a) [] (WE (fun cls d _ H => E cls d H)) (tCons (tLst (tCons (tCon K (tVar 3) "KIND") (tCons (ClX.tCVal K (tC (.ref a.c_PairGrammar)) "KIND") (tNil)))) (tCons (tLst (tCons (tC (.str "pairs")) (tCons (tC (.str "pairs")) (tNil)))) (tNil))))))) (tRet (tLst (tCons (tC (.str "other")) (tCons (tC (.int 2)) (tNil))))) (tNext)) (tRet (tLst (tCons (tC (.str "made")) (tCons (tFld K (tVar 3) "names") (tCons (tFld K (tVar 3) "rules") (tNil)))))))))))
theorem tm__law_made (T : Txt P K mg a) (G_PairGrammar___init__ : FnOk P w K mg base (L2.CX P w) 9 a.f_PairGrammar___init__ a.d_PairGrammar___init__ ps_PairGrammar___init__ (sp_PairGrammar___init__ K a)) (G__law_same : FnOk P w K mg base (L2.CX P w) 3 a.f__law_same a.d__law_same ps__law_same (sp__law_same K a)) {cdv : Value} {A : Around} {outer : List Env} {s : Shared} {H : Hp} {E : XK} (hr : Room 11 (cxOf (L2.CX P w) P w K mg base N__law_made "_law_made" (defScope st__law_made) a.f__law_made cdv A outer s H E).A) : PSs (cxOf (L2.CX P w) P w K mg base N__law_made "_law_made" (defScope st__law_made) a.f__law_made cdv A outer s H E) (defBody st__law_made) (t__law_made K a E) :=
  pss_cons (ps_set (i := 2) sc__law_made.nd rfl (Or.inl rfl) (pe_callTy call_list' (by rfl) T.z_list (by decide +kernel) (pa_cons (pv 1) (pa_nil)))) (pss_cons (ps_try_as (i := 4) (tb := tb__law_made_1 K a E) (ts := ts__law_made_1 K a E) (Wout := (fun cls d _ H => E cls d H)) rfl rfl sc__law_made.nd rfl rfl ⟨rfl, by decide, Or.inl T.gc_Fault⟩ (takes_of rfl rfl rfl rfl) (fun W pn xe tk hp => by unfold tb__law_made_1; exact (pss_one (ps_set (i := 3) sc__law_made.nd rfl (Or.inl rfl) (LX.pe_makeSD T.mk_PairGrammar (G_PairGrammar___init__) (hr.mono (by decide)) (by rfl) T.gc_PairGrammar T.b_PairGrammar___init__ .nil (fun σ => passAt tk σ) (pa_cons (pv 0) (pa_cons (pv 2) (pa_nil))))))) (fun ea oe ec ed pn hz hf => by unfold ts__law_made_1; exact (pss_cons (ps_if ((pw_and (pt_val (pe_callB (LX.call_isX hz hf) (by rfl) T.z_isinstance (by decide +kernel) (pa_cons (pv 4) (pa_cons (pe_glob (v := .ref a.c_TooMany) (by rfl) T.e_TooMany.gC rfl) (pa_nil))))) (pw_and (pt_val (pe_callB (LX.call_isX hz hf) (by rfl) T.z_isinstance (by decide +kernel) (pa_cons (pv 4) (pa_cons (pe_bltn (v := .ty "ValueError") (by rfl) T.z_ValueError (by decide +kernel) rfl) (pa_nil))))) (pw_and1 (pt_not (pt_val (pe_callB (LX.call_isX hz hf) (by rfl) T.z_isinstance (by decide +kernel) (pa_cons (pv 4) (pa_cons (pe_glob (v := .ref a.c_BadRule) (by rfl) T.e_BadRule.gC rfl) (pa_nil))))))))).pt) (pss_one (ps_ret (pe_lst (pa_cons (pe_str) (pa_cons (pe_xf T.xf_TooMany T.xn_TooMany_limit hz hf (pv 4)) (pa_nil)))))) (pss_nil)) (pss_cons (ps_if ((pw_and (pt_val (pe_callB (LX.call_isX hz hf) (by rfl) T.z_isinstance (by decide +kernel) (pa_cons (pv 4) (pa_cons (pe_glob (v := .ref a.c_BadRule) (by rfl) T.e_BadRule.gC rfl) (pa_nil))))) (pw_and (pt_val (pe_callB (LX.call_isX hz hf) (by rfl) T.z_isinstance (by decide +kernel) (pa_cons (pv 4) (pa_cons (pe_bltn (v := .ty "ValueError") (by rfl) T.z_ValueError (by decide +kernel) rfl) (pa_nil))))) (pw_and1 (pt_not (pt_val (pe_callB (LX.call_isX hz hf) (by rfl) T.z_isinstance (by decide +kernel) (pa_cons (pv 4) (pa_cons (pe_glob (v := .ref a.c_TooMany) (by rfl) T.e_TooMany.gC rfl) (pa_nil))))))))).pt) (pss_one (ps_ret (pe_lst (pa_cons (pe_str) (pa_cons (pe_xf T.xf_BadRule T.xn_BadRule_place hz hf (pv 4)) (pa_nil)))))) (pss_nil)) (pss_one (ps_ret (pe_lst (pa_cons (pe_str) (pa_cons (pe_int) (pa_nil)))))))))) (pss_cons (ps_if (pt_cmpR (op_neAny hr.units) (pv 2) (pv 1) (nomark _)) (pss_one (ps_ret (pe_lst (pa_cons (pe_str) (pa_cons (pe_int) (pa_nil)))))) (pss_nil)) (pss_cons (ps_expr (pe_bm PySem.F.plainAttrs_list PySem.F.slot_list_append PySem.F.type_list_append mt_append (pv 2) (pa_cons (pe_tup (pa_cons (pe_str) (pa_cons (pe_int) (pa_cons (pe_str) (pa_cons (pe_str) (pa_nil)))))) (pa_nil)))) (pss_cons (ps_asg (pe_tup (pa_cons (pe_str) (pa_cons (pe_int) (pa_cons (pe_str) (pa_cons (pe_str) (pa_nil)))))) (pg_sub (pv 2) (pe_int) set_list)) (pss_cons (ps_if ((pw_or (pt_not (pt_val (pe_callB call_isi (by rfl) T.z_isinstance (by decide +kernel) (pa_cons (pv 3) (pa_cons (pe_glob (v := .ref a.c_Grammar) (by rfl) T.gc_Grammar rfl) (pa_nil)))))) (pw_or1 (pt_not (pt_val (pe_callSD (G__law_same) (hr.mono (by decide)) (by rfl) T.g__law_same T.F__law_same.kp T.b__law_same .nil (fun σ => passAt (takes_of rfl rfl rfl rfl) σ) (pa_cons (pe_lst (pa_cons (pe_con (pv 3) rfl) (pa_cons (ClX.pe_cval (pe_glob (v := .ref a.c_PairGrammar) (by rfl) T.gc_PairGrammar rfl)) (pa_nil)))) (pa_cons (pe_lst (pa_cons (pe_str) (pa_cons (pe_str) (pa_nil)))) (pa_nil)))))))).pt) (pss_one (ps_ret (pe_lst (pa_cons (pe_str) (pa_cons (pe_int) (pa_nil)))))) (pss_nil)) (pss_one (ps_ret (pe_lst (pa_cons (pe_str) (pa_cons (pe_fld (pv 3) rfl) (pa_cons (pe_fld (pv 3) rfl) (pa_nil))))))))))))
theorem ok__law_made (T : Txt P K mg a) (G_PairGrammar___init__ : FnOk P w K mg base (L2.CX P w) 9 a.f_PairGrammar___init__ a.d_PairGrammar___init__ ps_PairGrammar___init__ (sp_PairGrammar___init__ K a)) (G__law_same : FnOk P w K mg base (L2.CX P w) 3 a.f__law_same a.d__law_same ps__law_same (sp__law_same K a)) (len : ∀ vs H Q E, sp__law_made K a vs H Q E → vs.length = ps__law_made.length) (hd : ∀ vs H Q E, sp__law_made K a vs H Q E → t__law_made K a E { nx := fun _ H' => Q .non H', rt := Q } (L2.start N__law_made vs) H) :
    FnOk P w K mg base (L2.CX P w) 12 a.f__law_made a.d__law_made ps__law_made (sp__law_made K a) := T.F__law_made.ok sc__law_made len fun cdv A outer s H vs Q E hr h => ⟨t__law_made K a E, tm__law_made T G_PairGrammar___init__ G__law_same hr, hd vs H Q E h⟩
/-- _law_drawn_holds: level 14 -/
def t__law_drawn_holds (K : PySem.W.Frag) (a : Ad) (E : XK) : TS := tSeq (tAsg (tOp (rIx K) (tLst (tCons (tOp (rPlus K) (tC (.int 1)) (tOp (rI (fun _ j => 0 < j) fun i j => .int (i % j)) (tCB rInt1 (tCons (tOp (rIx K) (tVar 0) (tC (.int 4))) (tNil))) (tC (.int 6)))) (tCons (tC (.int 299)) (tCons (tC (.int 300)) (tCons (tOp (rPlus K) (tC (.int 1)) (tOp (rI (fun _ j => 0 < j) fun i j => .int (i % j)) (tCB rInt1 (tCons (tOp (rIx K) (tVar 0) (tC (.int 4))) (tNil))) (tC (.int 6)))) (tNil)))))) (tOp (rI (fun _ j => 0 < j) fun i j => .int (i % j)) (tCB rInt1 (tCons (tOp (rIx K) (tVar 0) (tC (.int 5))) (tNil))) (tC (.int 4)))) (gName 2)) (tSeq (tAsg (tLc (iRng1 (tCons (tOp (rI (fun _ j => 0 < j) fun i j => .int (i % j)) (tCB rInt1 (tCons (tOp (rIx K) (tVar 0) (tC (.int 6))) (tNil))) (tC (.int 13))) (tNil))) (gName 4) (tYes) (tCall (sp__law_good_rule K a) [] E0 (tCons (tSl (rSl K) (tVar 0) (tPart (tOp (rPlus K) (tC (.int 20)) (tOp (rTimes K) (tC (.int 6)) (tVar 4)))) (tPart (tOp (rPlus K) (tC (.int 26)) (tOp (rTimes K) (tC (.int 6)) (tVar 4))))) (tCons (tVar 2) (tNil)))) [4]) (gName 3)) (tSeq (tAsg (tCB (rListOf K) (tCons (tVar 3) (tNil))) (gName 5)) (tSeq (tFor (iRng1 (tCons (tOp (rI (fun _ j => 0 < j) fun i j => .int (i % j)) (tCB rInt1 (tCons (tOp (rIx K) (tVar 0) (tC (.int 7))) (tNil))) (tC (.int 3))) (tNil))) (gName 4) (tSeq (tAsg (tOp (rI (fun _ j => 0 < j) fun i j => .int (i % j)) (tCB rInt1 (tCons (tOp (rIx K) (tVar 0) (tOp (rPlus K) (tC (.int 8)) (tVar 4))) (tNil))) (tOp (rPlus K) (tCB (LD.rLen K) (tCons (tVar 5) (tNil))) (tC (.int 1)))) (gName 6)) (tAsg (tOp (rPlus K) (tOp (rPlus K) (tSl (rSl K) (tVar 5) (tNoPart) (tPart (tVar 6))) (tLst (tCons (tCallSD (sp__law_bad_rule K a) [] (WE (fun cls d _ H => E cls d H)) (tCons (tSl (rSl K) (tVar 0) (tPart (tOp (rPlus K) (tC (.int 100)) (tOp (rTimes K) (tC (.int 6)) (tVar 4)))) (tPart (tOp (rPlus K) (tC (.int 106)) (tOp (rTimes K) (tC (.int 6)) (tVar 4))))) (tCons (tVar 2) (tCons (tVar 1) (tNil))))) (tNil)))) (tSl (rSl K) (tVar 5) (tPart (tVar 6)) (tNoPart))) (gName 5)))) (tSeq (tIfS (tOr (tNot (tB (tCallSD (sp__law_same K a) [] (WE (fun cls d _ H => E cls d H)) (tCons (tCallSD (sp__law_made K a) [] (WE (fun cls d _ H => E cls d H)) (tCons (tVar 2) (tCons (tVar 5) (tNil)))) (tCons (tCallSD (sp__law_due K a) [] (WE (fun cls d _ H => E cls d H)) (tCons (tVar 2) (tCons (tVar 5) (tNil)))) (tNil)))))) (tNot (tB (tCallSD (sp__law_same K a) [] (WE (fun cls d _ H => E cls d H)) (tCons (tCallSD (sp__law_made K a) [] (WE (fun cls d _ H => E cls d H)) (tCons (tVar 2) (tCons (tVar 3) (tNil)))) (tCons (tCallSD (sp__law_due K a) [] (WE (fun cls d _ H => E cls d H)) (tCons (tVar 2) (tCons (tVar 3) (tNil)))) (tNil))))))) (tRet (tC (.bl false))) (tNext)) (tSeq (tAsg (tMakeSD a.c_Grammar (sp_Grammar___init__ K a) [] (WE (fun cls d _ H => E cls d H)) (tCons (tVar 2) (tCons (tCB (rListOf K) (tCons (tVar 3) (tNil))) (tNil)))) (gName 7)) (tRet (tAndV (tCallSD (sp__law_same K a) [] (WE (fun cls d _ H => E cls d H)) (tCons (tFld K (tVar 7) "names") (tCons (tVar 2) (tNil)))) (tCallSD (sp__law_same K a) [] (WE (fun cls d _ H => E cls d H)) (tCons (tFld K (tVar 7) "rules") (tCons (tCB (rTupOf K) (tCons (tVar 3) (tNil))) (tNil)))))))))))
theorem tm__law_drawn_holds (T : Txt P K mg a) (G__law_good_rule : FnOk P w K mg base (L2.CX P w) 5 a.f__law_good_rule a.d__law_good_rule ps__law_good_rule (sp__law_good_rule K a)) (G__law_bad_rule : FnOk P w K mg base (L2.CX P w) 5 a.f__law_bad_rule a.d__law_bad_rule ps__law_bad_rule (sp__law_bad_rule K a)) (G__law_same : FnOk P w K mg base (L2.CX P w) 3 a.f__law_same a.d__law_same ps__law_same (sp__law_same K a)) (G__law_due : FnOk P w K mg base (L2.CX P w) 7 a.f__law_due a.d__law_due ps__law_due (sp__law_due K a)) (G__law_made : FnOk P w K mg base (L2.CX P w) 12 a.f__law_made a.d__law_made ps__law_made (sp__law_made K a)) (G_Grammar___init__ : FnOk P w K mg base (L2.CX P w) 5 a.f_Grammar___init__ a.d_Grammar___init__ ps_Grammar___init__ (sp_Grammar___init__ K a)) {cdv : Value} {A : Around} {outer : List Env} {s : Shared} {H : Hp} {E : XK} (hr : Room 13 (cxOf (L2.CX P w) P w K mg base N__law_drawn_holds "_law_drawn_holds" (defScope st__law_drawn_holds) a.f__law_drawn_holds cdv A outer s H E).A) : PSs (cxOf (L2.CX P w) P w K mg base N__law_drawn_holds "_law_drawn_holds" (defScope st__law_drawn_holds) a.f__law_drawn_holds cdv A outer s H E) (defBody st__law_drawn_holds) (t__law_drawn_holds K a E) :=
  pss_cons (ps_set (i := 2) sc__law_drawn_holds.nd rfl (Or.inr rfl) (pe_ix ix_seq (pe_lst (pa_cons (pe_op op_plus (pe_int) (pe_op op_mod (pe_callTy call_int' (by rfl) T.z_int (by decide +kernel) (pa_cons (pe_ix ix_seq (pv 0) (pe_int) (fun _ _ => rfl)) (pa_nil))) (pe_int))) (pa_cons (pe_int) (pa_cons (pe_int) (pa_cons (pe_op op_plus (pe_int) (pe_op op_mod (pe_callTy call_int' (by rfl) T.z_int (by decide +kernel) (pa_cons (pe_ix ix_seq (pv 0) (pe_int) (fun _ _ => rfl)) (pa_nil))) (pe_int))) (pa_nil)))))) (pe_op op_mod (pe_callTy call_int' (by rfl) T.z_int (by decide +kernel) (pa_cons (pe_ix ix_seq (pv 0) (pe_int) (fun _ _ => rfl)) (pa_nil))) (pe_int)) (fun _ _ => rfl))) (pss_cons (ps_setLc (i := 3) (own := [("k", 4)]) (g := gName 4) (tt := tYes) rfl sc__law_drawn_holds.nd rfl rfl (sw_true rfl rfl rfl (by decide +kernel)) (pi_range1 rfl T.z_range (pa_cons (pe_op op_mod (pe_callTy call_int' (by rfl) T.z_int (by decide +kernel) (pa_cons (pe_ix ix_seq (pv 0) (pe_int) (fun _ _ => rfl)) (pa_nil))) (pe_int)) (pa_nil))) (blkOk_by (N := N__law_drawn_holds) (sc := defScope st__law_drawn_holds) (by decide +kernel)) (fun _ _ _ _ _ => pg_name (i := 4) sc__law_drawn_holds.nd rfl (Or.inl rfl)) (fun _ _ _ _ _ => pts_nil) (fun _ _ _ _ _ => pe_call (G__law_good_rule) (hr.mono (by decide)) (by rfl) T.g__law_good_rule T.F__law_good_rule.kp T.b__law_good_rule .nil passL (pa_cons (pe_slice sl_any (pv 0) (po_some (pe_op op_plus (pe_int) (pe_op op_times (pe_int) (pv 4)))) (po_some (pe_op op_plus (pe_int) (pe_op op_times (pe_int) (pv 4))))) (pa_cons (pv 2) (pa_nil))))) (pss_cons (ps_set (i := 5) sc__law_drawn_holds.nd rfl (Or.inl rfl) (pe_callTy call_list' (by rfl) T.z_list (by decide +kernel) (pa_cons (pv 3) (pa_nil)))) (pss_cons (ps_for (passes_of rfl) rfl (pi_range1 rfl T.z_range (pa_cons (pe_op op_mod (pe_callTy call_int' (by rfl) T.z_int (by decide +kernel) (pa_cons (pe_ix ix_seq (pv 0) (pe_int) (fun _ _ => rfl)) (pa_nil))) (pe_int)) (pa_nil))) (pg_name (i := 4) sc__law_drawn_holds.nd rfl (Or.inl rfl)) (pss_cons (ps_set (i := 6) sc__law_drawn_holds.nd rfl (Or.inl rfl) (pe_op op_mod (pe_callTy call_int' (by rfl) T.z_int (by decide +kernel) (pa_cons (pe_ix ix_seq (pv 0) (pe_op op_plus (pe_int) (pv 4)) (fun _ _ => rfl)) (pa_nil))) (pe_op op_plus (pe_callB LD.call_len' (by rfl) T.z_len (by decide +kernel) (pa_cons (pv 5) (pa_nil))) (pe_int)))) (pss_one (ps_set (i := 5) sc__law_drawn_holds.nd rfl (Or.inl rfl) (pe_op op_plus (pe_op op_plus (pe_slice sl_any (pv 5) (po_none) (po_some (pv 6))) (pe_lst (pa_cons (pe_callSD (G__law_bad_rule) (hr.mono (by decide)) (by rfl) T.g__law_bad_rule T.F__law_bad_rule.kp T.b__law_bad_rule .nil (fun σ => passAt (takes_of rfl rfl rfl rfl) σ) (pa_cons (pe_slice sl_any (pv 0) (po_some (pe_op op_plus (pe_int) (pe_op op_times (pe_int) (pv 4)))) (po_some (pe_op op_plus (pe_int) (pe_op op_times (pe_int) (pv 4))))) (pa_cons (pv 2) (pa_cons (pv 1) (pa_nil))))) (pa_nil)))) (pe_slice sl_any (pv 5) (po_some (pv 6)) (po_none))))))) (pss_cons (ps_if ((pw_or (pt_not (pt_val (pe_callSD (G__law_same) (hr.mono (by decide)) (by rfl) T.g__law_same T.F__law_same.kp T.b__law_same .nil (fun σ => passAt (takes_of rfl rfl rfl rfl) σ) (pa_cons (pe_callSD (G__law_made) (hr.mono (by decide)) (by rfl) T.g__law_made T.F__law_made.kp T.b__law_made .nil (fun σ => passAt (takes_of rfl rfl rfl rfl) σ) (pa_cons (pv 2) (pa_cons (pv 5) (pa_nil)))) (pa_cons (pe_callSD (G__law_due) (hr.mono (by decide)) (by rfl) T.g__law_due T.F__law_due.kp T.b__law_due .nil (fun σ => passAt (takes_of rfl rfl rfl rfl) σ) (pa_cons (pv 2) (pa_cons (pv 5) (pa_nil)))) (pa_nil)))))) (pw_or1 (pt_not (pt_val (pe_callSD (G__law_same) (hr.mono (by decide)) (by rfl) T.g__law_same T.F__law_same.kp T.b__law_same .nil (fun σ => passAt (takes_of rfl rfl rfl rfl) σ) (pa_cons (pe_callSD (G__law_made) (hr.mono (by decide)) (by rfl) T.g__law_made T.F__law_made.kp T.b__law_made .nil (fun σ => passAt (takes_of rfl rfl rfl rfl) σ) (pa_cons (pv 2) (pa_cons (pv 3) (pa_nil)))) (pa_cons (pe_callSD (G__law_due) (hr.mono (by decide)) (by rfl) T.g__law_due T.F__law_due.kp T.b__law_due .nil (fun σ => passAt (takes_of rfl rfl rfl rfl) σ) (pa_cons (pv 2) (pa_cons (pv 3) (pa_nil)))) (pa_nil)))))))).pt) (pss_one (ps_ret (pe_bl))) (pss_nil)) (pss_cons (ps_set (i := 7) sc__law_drawn_holds.nd rfl (Or.inl rfl) (LX.pe_makeSD T.mk_Grammar (G_Grammar___init__) (hr.mono (by decide)) (by rfl) T.gc_Grammar T.b_Grammar___init__ .nil (fun σ => passAt (takes_of rfl rfl rfl rfl) σ) (pa_cons (pv 2) (pa_cons (pe_callTy call_list' (by rfl) T.z_list (by decide +kernel) (pa_cons (pv 3) (pa_nil))) (pa_nil))))) (pss_one (ps_ret (pe_and (pe_callSD (G__law_same) (hr.mono (by decide)) (by rfl) T.g__law_same T.F__law_same.kp T.b__law_same .nil (fun σ => passAt (takes_of rfl rfl rfl rfl) σ) (pa_cons (pe_fld (pv 7) rfl) (pa_cons (pv 2) (pa_nil)))) (pe_one (pe_callSD (G__law_same) (hr.mono (by decide)) (by rfl) T.g__law_same T.F__law_same.kp T.b__law_same .nil (fun σ => passAt (takes_of rfl rfl rfl rfl) σ) (pa_cons (pe_fld (pv 7) rfl) (pa_cons (pe_callTy call_tuple' (by rfl) T.z_tuple (by decide +kernel) (pa_cons (pv 3) (pa_nil))) (pa_nil)))))))))))))
theorem ok__law_drawn_holds (T : Txt P K mg a) (G__law_good_rule : FnOk P w K mg base (L2.CX P w) 5 a.f__law_good_rule a.d__law_good_rule ps__law_good_rule (sp__law_good_rule K a)) (G__law_bad_rule : FnOk P w K mg base (L2.CX P w) 5 a.f__law_bad_rule a.d__law_bad_rule ps__law_bad_rule (sp__law_bad_rule K a)) (G__law_same : FnOk P w K mg base (L2.CX P w) 3 a.f__law_same a.d__law_same ps__law_same (sp__law_same K a)) (G__law_due : FnOk P w K mg base (L2.CX P w) 7 a.f__law_due a.d__law_due ps__law_due (sp__law_due K a)) (G__law_made : FnOk P w K mg base (L2.CX P w) 12 a.f__law_made a.d__law_made ps__law_made (sp__law_made K a)) (G_Grammar___init__ : FnOk P w K mg base (L2.CX P w) 5 a.f_Grammar___init__ a.d_Grammar___init__ ps_Grammar___init__ (sp_Grammar___init__ K a)) (len : ∀ vs H Q E, sp__law_drawn_holds K a vs H Q E → vs.length = ps__law_drawn_holds.length) (hd : ∀ vs H Q E, sp__law_drawn_holds K a vs H Q E → t__law_drawn_holds K a E { nx := fun _ H' => Q .non H', rt := Q } (L2.start N__law_drawn_holds vs) H) :
    FnOk P w K mg base (L2.CX P w) 14 a.f__law_drawn_holds a.d__law_drawn_holds ps__law_drawn_holds (sp__law_drawn_holds K a) := T.F__law_drawn_holds.ok sc__law_drawn_holds len fun cdv A outer s H vs Q E hr h => ⟨t__law_drawn_holds K a E, tm__law_drawn_holds T G__law_good_rule G__law_bad_rule G__law_same G__law_due G__law_made G_Grammar___init__ hr, hd vs H Q E h⟩
/-- _law_limits_hold: level 14 -/
def t__law_limits_hold (K : PySem.W.Frag) (a : Ad) (E : XK) : TS := tSeq (tAsg (tLst (tCons (tTup (tCons (tC (.int 300)) (tCons (tC (.int 5)) (tNil)))) (tCons (tTup (tCons (tC (.int 301)) (tCons (tC (.int 5)) (tNil)))) (tCons (tTup (tCons (tC (.int 1)) (tCons (tC (.int 900)) (tNil)))) (tCons (tTup (tCons (tC (.int 2)) (tCons (tC (.int 901)) (tNil)))) (tCons (tTup (tCons (tC (.int 300)) (tCons (tC (.int 900)) (tNil)))) (tCons (tTup (tCons (tC (.int 301)) (tCons (tC (.int 901)) (tNil)))) (tCons (tTup (tCons (tC (.int 302)) (tCons (tC (.int 0)) (tNil)))) (tCons (tTup (tCons (tC (.int 299)) (tCons (tC (.int 899)) (tNil)))) (tCons (tTup (tCons (tC (.int 5)) (tCons (tC (.int 902)) (tNil)))) (tCons (tTup (tCons (tC (.int 301)) (tCons (tC (.int 900)) (tNil)))) (tNil)))))))))))) (gName 2)) (tSeq (tAsg (tOp (rIx K) (tVar 2) (tOp (rI (fun _ j => 0 < j) fun i j => .int (i % j)) (tCB rInt1 (tCons (tOp (rIx K) (tVar 0) (tC (.int 10))) (tNil))) (tC (.int 10)))) (gTup K 2 (gCons (gName 3) (gCons (gName 4) (gNil))))) (tSeq (tAsg (tLc (iRng1 (tCons (tVar 4) (tNil))) (gName 6) (tYes) (tTup (tCons (tC (.str "leaf")) (tCons (tOp (rI (fun _ j => 0 < j) fun i j => .int (i % j)) (tCB rInt1 (tCons (tVar 6) (tNil))) (tVar 3)) (tCons (tSl (rSl K) (tC (.str "ab")) (tNoPart) (tPart (tOp (rI (fun _ j => 0 < j) fun i j => .int (i % j)) (tCB rInt1 (tCons (tVar 6) (tNil))) (tC (.int 3))))) (tCons (tC (.str "")) (tNil)))))) [6]) (gName 5)) (tSeq (tIfS (tAnd (tTest (tOp (rEqAny K) (tOp (rI (fun _ j => 0 < j) fun i j => .int (i % j)) (tCB rInt1 (tCons (tOp (rIx K) (tVar 0) (tC (.int 11))) (tNil))) (tC (.int 2))) (tC (.int 1)))) (tTest (tOp (rI0 fun i j => .bl (decide (j < i))) (tVar 4) (tC (.int 0))))) (tSeq (tAsg (tOp (rI (fun _ j => 0 < j) fun i j => .int (i % j)) (tCB rInt1 (tCons (tOp (rIx K) (tVar 0) (tC (.int 12))) (tNil))) (tVar 4)) (gName 7)) (tAsg (tOp (rPlus K) (tOp (rPlus K) (tSl (rSl K) (tVar 5) (tNoPart) (tPart (tVar 7))) (tLst (tCons (tCallSD (sp__law_bad_rule K a) [] (WE (fun cls d _ H => E cls d H)) (tCons (tSl (rSl K) (tVar 0) (tPart (tC (.int 112))) (tPart (tC (.int 118)))) (tCons (tVar 3) (tCons (tVar 1) (tNil))))) (tNil)))) (tSl (rSl K) (tVar 5) (tPart (tOp (rPlus K) (tVar 7) (tC (.int 1)))) (tNoPart))) (gName 5))) (tNext)) (tRet (tCallSD (sp__law_same K a) [] (WE (fun cls d _ H => E cls d H)) (tCons (tCallSD (sp__law_made K a) [] (WE (fun cls d _ H => E cls d H)) (tCons (tVar 3) (tCons (tVar 5) (tNil)))) (tCons (tCallSD (sp__law_due K a) [] (WE (fun cls d _ H => E cls d H)) (tCons (tVar 3) (tCons (tVar 5) (tNil)))) (tNil))))))))
theorem tm__law_limits_hold (T : Txt P K mg a) (G__law_bad_rule : FnOk P w K mg base (L2.CX P w) 5 a.f__law_bad_rule a.d__law_bad_rule ps__law_bad_rule (sp__law_bad_rule K a)) (G__law_same : FnOk P w K mg base (L2.CX P w) 3 a.f__law_same a.d__law_same ps__law_same (sp__law_same K a)) (G__law_due : FnOk P w K mg base (L2.CX P w) 7 a.f__law_due a.d__law_due ps__law_due (sp__law_due K a)) (G__law_made : FnOk P w K mg base (L2.CX P w) 12 a.f__law_made a.d__law_made ps__law_made (sp__law_made K a)) {cdv : Value} {A : Around} {outer : List Env} {s : Shared} {H : Hp} {E : XK} (hr : Room 13 (cxOf (L2.CX P w) P w K mg base N__law_limits_hold "_law_limits_hold" (defScope st__law_limits_hold) a.f__law_limits_hold cdv A outer s H E).A) : PSs (cxOf (L2.CX P w) P w K mg base N__law_limits_hold "_law_limits_hold" (defScope st__law_limits_hold) a.f__law_limits_hold cdv A outer s H E) (defBody st__law_limits_hold) (t__law_limits_hold K a E) :=
  pss_cons (ps_set (i := 2) sc__law_limits_hold.nd rfl (Or.inl rfl) (pe_lst (pa_cons (pe_tup (pa_cons (pe_int) (pa_cons (pe_int) (pa_nil)))) (pa_cons (pe_tup (pa_cons (pe_int) (pa_cons (pe_int) (pa_nil)))) (pa_cons (pe_tup (pa_cons (pe_int) (pa_cons (pe_int) (pa_nil)))) (pa_cons (pe_tup (pa_cons (pe_int) (pa_cons (pe_int) (pa_nil)))) (pa_cons (pe_tup (pa_cons (pe_int) (pa_cons (pe_int) (pa_nil)))) (pa_cons (pe_tup (pa_cons (pe_int) (pa_cons (pe_int) (pa_nil)))) (pa_cons (pe_tup (pa_cons (pe_int) (pa_cons (pe_int) (pa_nil)))) (pa_cons (pe_tup (pa_cons (pe_int) (pa_cons (pe_int) (pa_nil)))) (pa_cons (pe_tup (pa_cons (pe_int) (pa_cons (pe_int) (pa_nil)))) (pa_cons (pe_tup (pa_cons (pe_int) (pa_cons (pe_int) (pa_nil)))) (pa_nil))))))))))))) (pss_cons (ps_asg (pe_ix ix_seq (pv 2) (pe_op op_mod (pe_callTy call_int' (by rfl) T.z_int (by decide +kernel) (pa_cons (pe_ix ix_seq (pv 0) (pe_int) (fun _ _ => rfl)) (pa_nil))) (pe_int)) (fun _ _ => rfl)) (pg_tup rfl (pgs_cons (pg_name (i := 3) sc__law_limits_hold.nd rfl (Or.inr rfl)) (pgs_cons (pg_name (i := 4) sc__law_limits_hold.nd rfl (Or.inl rfl)) (pgs_nil))))) (pss_cons (ps_setLc (i := 5) (own := [("k", 6)]) (g := gName 6) (tt := tYes) rfl sc__law_limits_hold.nd rfl rfl (sw_true rfl rfl rfl (by decide +kernel)) (pi_range1 rfl T.z_range (pa_cons (pv 4) (pa_nil))) (blkOk_by (N := N__law_limits_hold) (sc := defScope st__law_limits_hold) (by decide +kernel)) (fun _ _ _ _ _ => pg_name (i := 6) sc__law_limits_hold.nd rfl (Or.inl rfl)) (fun _ _ _ _ _ => pts_nil) (fun _ _ _ _ _ => pe_tup (pa_cons (pe_str) (pa_cons (pe_op op_mod (pe_callTy call_int' (by rfl) T.z_int (by decide +kernel) (pa_cons (pv 6) (pa_nil))) (pv 3)) (pa_cons (pe_slice sl_any (pe_str) (po_none) (po_some (pe_op op_mod (pe_callTy call_int' (by rfl) T.z_int (by decide +kernel) (pa_cons (pv 6) (pa_nil))) (pe_int)))) (pa_cons (pe_str) (pa_nil))))))) (pss_cons (ps_if ((pw_and (pt_cmpR (op_eqAny hr.units) (pe_op op_mod (pe_callTy call_int' (by rfl) T.z_int (by decide +kernel) (pa_cons (pe_ix ix_seq (pv 0) (pe_int) (fun _ _ => rfl)) (pa_nil))) (pe_int)) (pe_int) (nomark _)) (pw_and1 (pt_cmpR op_gt (pv 4) (pe_int) (nomark _)))).pt) (pss_cons (ps_set (i := 7) sc__law_limits_hold.nd rfl (Or.inl rfl) (pe_op op_mod (pe_callTy call_int' (by rfl) T.z_int (by decide +kernel) (pa_cons (pe_ix ix_seq (pv 0) (pe_int) (fun _ _ => rfl)) (pa_nil))) (pv 4))) (pss_one (ps_set (i := 5) sc__law_limits_hold.nd rfl (Or.inl rfl) (pe_op op_plus (pe_op op_plus (pe_slice sl_any (pv 5) (po_none) (po_some (pv 7))) (pe_lst (pa_cons (pe_callSD (G__law_bad_rule) (hr.mono (by decide)) (by rfl) T.g__law_bad_rule T.F__law_bad_rule.kp T.b__law_bad_rule .nil (fun σ => passAt (takes_of rfl rfl rfl rfl) σ) (pa_cons (pe_slice sl_any (pv 0) (po_some (pe_int)) (po_some (pe_int))) (pa_cons (pv 3) (pa_cons (pv 1) (pa_nil))))) (pa_nil)))) (pe_slice sl_any (pv 5) (po_some (pe_op op_plus (pv 7) (pe_int))) (po_none)))))) (pss_nil)) (pss_one (ps_ret (pe_callSD (G__law_same) (hr.mono (by decide)) (by rfl) T.g__law_same T.F__law_same.kp T.b__law_same .nil (fun σ => passAt (takes_of rfl rfl rfl rfl) σ) (pa_cons (pe_callSD (G__law_made) (hr.mono (by decide)) (by rfl) T.g__law_made T.F__law_made.kp T.b__law_made .nil (fun σ => passAt (takes_of rfl rfl rfl rfl) σ) (pa_cons (pv 3) (pa_cons (pv 5) (pa_nil)))) (pa_cons (pe_callSD (G__law_due) (hr.mono (by decide)) (by rfl) T.g__law_due T.F__law_due.kp T.b__law_due .nil (fun σ => passAt (takes_of rfl rfl rfl rfl) σ) (pa_cons (pv 3) (pa_cons (pv 5) (pa_nil)))) (pa_nil)))))))))
theorem ok__law_limits_hold (T : Txt P K mg a) (G__law_bad_rule : FnOk P w K mg base (L2.CX P w) 5 a.f__law_bad_rule a.d__law_bad_rule ps__law_bad_rule (sp__law_bad_rule K a)) (G__law_same : FnOk P w K mg base (L2.CX P w) 3 a.f__law_same a.d__law_same ps__law_same (sp__law_same K a)) (G__law_due : FnOk P w K mg base (L2.CX P w) 7 a.f__law_due a.d__law_due ps__law_due (sp__law_due K a)) (G__law_made : FnOk P w K mg base (L2.CX P w) 12 a.f__law_made a.d__law_made ps__law_made (sp__law_made K a)) (len : ∀ vs H Q E, sp__law_limits_hold K a vs H Q E → vs.length = ps__law_limits_hold.length) (hd : ∀ vs H Q E, sp__law_limits_hold K a vs H Q E → t__law_limits_hold K a E { nx := fun _ H' => Q .non H', rt := Q } (L2.start N__law_limits_hold vs) H) :
    FnOk P w K mg base (L2.CX P w) 14 a.f__law_limits_hold a.d__law_limits_hold ps__law_limits_hold (sp__law_limits_hold K a) := T.F__law_limits_hold.ok sc__law_limits_hold len fun cdv A outer s H vs Q E hr h => ⟨t__law_limits_hold K a E, tm__law_limits_hold T G__law_bad_rule G__law_same G__law_due G__law_made hr, hd vs H Q E h⟩
def tb__law_checked_1 (K : PySem.W.Frag) (a : Ad) (E : XK) (W : WX) : TS := tRet (tLst (tCons (tC (.str "told")) (tCons (tCallSD (sp_check_text K a) [.int 60] (WE W) (tCons (tVar 0) (tNil))) (tNil))))
def ts__law_checked_1 (K : PySem.W.Frag) (a : Ad) (E : XK) (ea : Addr) (ec : Value) (ed : Option Addr) : TS := tIfS (tAnd (tB (tCB (LX.rIsX K ea ec ed) (tCons (tVar 1) (tCons (tC (.ref a.c_BadText)) (tNil))))) (tAnd (tB (tCB (LX.rIsX K ea ec ed) (tCons (tVar 1) (tCons (tC (.ty "ValueError")) (tNil))))) (tNot (tB (tCB (LX.rIsX K ea ec ed) (tCons (tVar 1) (tCons (tC (.ref a.c_TooMany)) (tNil)))))))) (tRet (tLst (tCons (tC (.str "bad")) (tCons (tXf ea ec ed a.c_BadText "place" (tVar 1)) (tNil))))) (tNext)
/-- _law_checked: level 7 -/
def t__law_checked (K : PySem.W.Frag) (a : Ad) (E : XK) : TS := tSeq ((fun D σ H => tb__law_checked_1 K a E (wAs K (.ref a.c_Fault) 1 (ts__law_checked_1 K a E) (fun cls d _ H => E cls d H) D) D σ H)) (tRet (tLst (tCons (tC (.str "other")) (tCons (tC (.int 0)) (tNil)))))
theorem tm__law_checked (T : Txt P K mg a) (G_check_text : FnOk P w K mg base (L2.CX P w) 5 a.f_check_text a.d_check_text ps_check_text (sp_check_text K a)) {cdv : Value} {A : Around} {outer : List Env} {s : Shared} {H : Hp} {E : XK} (hr : Room 6 (cxOf (L2.CX P w) P w K mg base N__law_checked "_law_checked" (defScope st__law_checked) a.f__law_checked cdv A outer s H E).A) : PSs (cxOf (L2.CX P w) P w K mg base N__law_checked "_law_checked" (defScope st__law_checked) a.f__law_checked cdv A outer s H E) (defBody st__law_checked) (t__law_checked K a E) :=
  pss_cons (ps_try_as (i := 1) (tb := tb__law_checked_1 K a E) (ts := ts__law_checked_1 K a E) (Wout := (fun cls d _ H => E cls d H)) rfl rfl sc__law_checked.nd rfl rfl ⟨rfl, by decide, Or.inl T.gc_Fault⟩ (takes_of rfl rfl rfl rfl) (fun W pn xe tk hp => by unfold tb__law_checked_1; exact (pss_one (ps_ret (pe_lst (pa_cons (pe_str) (pa_cons (pe_callSD (G_check_text) (hr.mono (by decide)) (by rfl) T.g_check_text T.F_check_text.kp (T.dv1_check_text).choose_spec.2 (T.dv1_check_text).choose_spec.1 (fun σ => passAt tk σ) (pa_cons (pv 0) (pa_nil))) (pa_nil))))))) (fun ea oe ec ed pn hz hf => by unfold ts__law_checked_1; exact (pss_one (ps_if ((pw_and (pt_val (pe_callB (LX.call_isX hz hf) (by rfl) T.z_isinstance (by decide +kernel) (pa_cons (pv 1) (pa_cons (pe_glob (v := .ref a.c_BadText) (by rfl) T.e_BadText.gC rfl) (pa_nil))))) (pw_and (pt_val (pe_callB (LX.call_isX hz hf) (by rfl) T.z_isinstance (by decide +kernel) (pa_cons (pv 1) (pa_cons (pe_bltn (v := .ty "ValueError") (by rfl) T.z_ValueError (by decide +kernel) rfl) (pa_nil))))) (pw_and1 (pt_not (pt_val (pe_callB (LX.call_isX hz hf) (by rfl) T.z_isinstance (by decide +kernel) (pa_cons (pv 1) (pa_cons (pe_glob (v := .ref a.c_TooMany) (by rfl) T.e_TooMany.gC rfl) (pa_nil))))))))).pt) (pss_one (ps_ret (pe_lst (pa_cons (pe_str) (pa_cons (pe_xf T.xf_BadText T.xn_BadText_place hz hf (pv 1)) (pa_nil)))))) (pss_nil))))) (pss_one (ps_ret (pe_lst (pa_cons (pe_str) (pa_cons (pe_int) (pa_nil))))))
theorem ok__law_checked (T : Txt P K mg a) (G_check_text : FnOk P w K mg base (L2.CX P w) 5 a.f_check_text a.d_check_text ps_check_text (sp_check_text K a)) (len : ∀ vs H Q E, sp__law_checked K a vs H Q E → vs.length = ps__law_checked.length) (hd : ∀ vs H Q E, sp__law_checked K a vs H Q E → t__law_checked K a E { nx := fun _ H' => Q .non H', rt := Q } (L2.start N__law_checked vs) H) :
    FnOk P w K mg base (L2.CX P w) 7 a.f__law_checked a.d__law_checked ps__law_checked (sp__law_checked K a) := T.F__law_checked.ok sc__law_checked len fun cdv A outer s H vs Q E hr h => ⟨t__law_checked K a E, tm__law_checked T G_check_text hr, hd vs H Q E h⟩
/-- _law_texts_hold: level 9 -/
def t__law_texts_hold (K : PySem.W.Frag) (a : Ad) (E : XK) : TS := tSeq (tAsg (tC (.str " !#$&'()*+,-./0123456789:;<=>?@ABCDEFGHIJKLMNOPQRSTUVWXYZ[]^_{|}~")) (gName 1)) (tSeq (tAsg (tC (.str "abcdefghijklmnopqrstuvwxyz")) (gName 2)) (tSeq (tAsg (tOp (rIx K) (tLst (tCons (tOp (rI (fun _ j => 0 < j) fun i j => .int (i % j)) (tCB rInt1 (tCons (tOp (rIx K) (tVar 0) (tC (.int 120))) (tNil))) (tC (.int 63))) (tCons (tC (.int 60)) (tCons (tC (.int 61)) (tCons (tOp (rI (fun _ j => 0 < j) fun i j => .int (i % j)) (tCB rInt1 (tCons (tOp (rIx K) (tVar 0) (tC (.int 120))) (tNil))) (tC (.int 9))) (tNil)))))) (tOp (rI (fun _ j => 0 < j) fun i j => .int (i % j)) (tCB rInt1 (tCons (tOp (rIx K) (tVar 0) (tC (.int 121))) (tNil))) (tC (.int 4)))) (gName 3)) (tSeq (tAsg (tM1 (LX.rJoin K) (tC (.str "")) (tLc (iRng1 (tCons (tVar 3) (tNil))) (gName 5) (tYes) (tOp (rIx K) (tVar 2) (tOp (rI (fun _ j => 0 < j) fun i j => .int (i % j)) (tCB rInt1 (tCons (tOp (rPlus K) (tOp (rIx K) (tVar 0) (tC (.int 122))) (tOp (rTimes K) (tVar 5) (tOp (rIx K) (tVar 0) (tC (.int 123))))) (tNil))) (tC (.int 26)))) [5])) (gName 4)) (tSeq (tAsg (tOp (rI (fun _ j => 0 < j) fun i j => .int (i % j)) (tCB rInt1 (tCons (tOp (rIx K) (tVar 0) (tC (.int 124))) (tNil))) (tOp (rPlus K) (tVar 3) (tC (.int 1)))) (gName 6)) (tSeq (tFor (LX.iSeq K (tLst (tCons (tVar 4) (tCons (tOp (rPlus K) (tOp (rPlus K) (tSl (rSl K) (tVar 4) (tNoPart) (tPart (tVar 6))) (tOp (rIx K) (tVar 1) (tOp (rI (fun _ j => 0 < j) fun i j => .int (i % j)) (tCB rInt1 (tCons (tOp (rIx K) (tVar 0) (tC (.int 125))) (tNil))) (tCB (LD.rLen K) (tCons (tVar 1) (tNil)))))) (tSl (rSl K) (tVar 4) (tPart (tOp (rPlus K) (tVar 6) (tC (.int 1)))) (tNoPart))) (tNil))))) (gName 7) (tSeq (tAsg (tLst (tCons (tC (.str "told")) (tCons (tC .non) (tNil)))) (gName 8)) (tSeq (tIfS (tTest (tOp (rI0 fun i j => .bl (decide (j ≤ i))) (tCallSD (sp__law_bad_place K a) [] (WE (fun cls d _ H => E cls d H)) (tCons (tVar 7) (tCons (tC (.int 60)) (tNil)))) (tC (.int 0)))) (tAsg (tLst (tCons (tC (.str "bad")) (tCons (tCallSD (sp__law_bad_place K a) [] (WE (fun cls d _ H => E cls d H)) (tCons (tVar 7) (tCons (tC (.int 60)) (tNil)))) (tNil)))) (gName 8)) (tNext)) (tIfS (tNot (tB (tCallSD (sp__law_same K a) [] (WE (fun cls d _ H => E cls d H)) (tCons (tCallSD (sp__law_checked K a) [] (WE (fun cls d _ H => E cls d H)) (tCons (tVar 7) (tNil))) (tCons (tVar 8) (tNil)))))) (tRet (tC (.bl false))) (tNext))))) (tRet (tC (.bl true))))))))
theorem tm__law_texts_hold (T : Txt P K mg a) (G__law_bad_place : FnOk P w K mg base (L2.CX P w) 3 a.f__law_bad_place a.d__law_bad_place ps__law_bad_place (sp__law_bad_place K a)) (G__law_same : FnOk P w K mg base (L2.CX P w) 3 a.f__law_same a.d__law_same ps__law_same (sp__law_same K a)) (G__law_checked : FnOk P w K mg base (L2.CX P w) 7 a.f__law_checked a.d__law_checked ps__law_checked (sp__law_checked K a)) {cdv : Value} {A : Around} {outer : List Env} {s : Shared} {H : Hp} {E : XK} (hr : Room 8 (cxOf (L2.CX P w) P w K mg base N__law_texts_hold "_law_texts_hold" (defScope st__law_texts_hold) a.f__law_texts_hold cdv A outer s H E).A) : PSs (cxOf (L2.CX P w) P w K mg base N__law_texts_hold "_law_texts_hold" (defScope st__law_texts_hold) a.f__law_texts_hold cdv A outer s H E) (defBody st__law_texts_hold) (t__law_texts_hold K a E) :=
  pss_cons (ps_set (i := 1) sc__law_texts_hold.nd rfl (Or.inl rfl) (pe_str)) (pss_cons (ps_set (i := 2) sc__law_texts_hold.nd rfl (Or.inr rfl) (pe_str)) (pss_cons (ps_set (i := 3) sc__law_texts_hold.nd rfl (Or.inl rfl) (pe_ix ix_seq (pe_lst (pa_cons (pe_op op_mod (pe_callTy call_int' (by rfl) T.z_int (by decide +kernel) (pa_cons (pe_ix ix_seq (pv 0) (pe_int) (fun _ _ => rfl)) (pa_nil))) (pe_int)) (pa_cons (pe_int) (pa_cons (pe_int) (pa_cons (pe_op op_mod (pe_callTy call_int' (by rfl) T.z_int (by decide +kernel) (pa_cons (pe_ix ix_seq (pv 0) (pe_int) (fun _ _ => rfl)) (pa_nil))) (pe_int)) (pa_nil)))))) (pe_op op_mod (pe_callTy call_int' (by rfl) T.z_int (by decide +kernel) (pa_cons (pe_ix ix_seq (pv 0) (pe_int) (fun _ _ => rfl)) (pa_nil))) (pe_int)) (fun _ _ => rfl))) (pss_cons (ps_set (i := 4) sc__law_texts_hold.nd rfl (Or.inl rfl) (pe_join (pe_str) (pe_lc (own := [("k", 5)]) (g := gName 5) (tt := tYes) rfl sc__law_texts_hold.nd (pi_range1 rfl T.z_range (pa_cons (pv 3) (pa_nil))) (blkOk_by (N := N__law_texts_hold) (sc := defScope st__law_texts_hold) (by decide +kernel)) (fun _ _ _ _ _ => pg_name (i := 5) sc__law_texts_hold.nd rfl (Or.inl rfl)) (fun _ _ _ _ _ => pts_nil) (fun _ _ _ _ _ => pe_ix ix_seq (pv 2) (pe_op op_mod (pe_callTy call_int' (by rfl) T.z_int (by decide +kernel) (pa_cons (pe_op op_plus (pe_ix ix_seq (pv 0) (pe_int) (fun _ _ => rfl)) (pe_op op_times (pv 5) (pe_ix ix_seq (pv 0) (pe_int) (fun _ _ => rfl)))) (pa_nil))) (pe_int)) (fun _ _ => rfl))))) (pss_cons (ps_set (i := 6) sc__law_texts_hold.nd rfl (Or.inl rfl) (pe_op op_mod (pe_callTy call_int' (by rfl) T.z_int (by decide +kernel) (pa_cons (pe_ix ix_seq (pv 0) (pe_int) (fun _ _ => rfl)) (pa_nil))) (pe_op op_plus (pv 3) (pe_int)))) (pss_cons (ps_for (passes_of rfl) rfl (LX.pi_seq (pe_lst (pa_cons (pv 4) (pa_cons (pe_op op_plus (pe_op op_plus (pe_slice sl_any (pv 4) (po_none) (po_some (pv 6))) (pe_ix ix_seq (pv 1) (pe_op op_mod (pe_callTy call_int' (by rfl) T.z_int (by decide +kernel) (pa_cons (pe_ix ix_seq (pv 0) (pe_int) (fun _ _ => rfl)) (pa_nil))) (pe_callB LD.call_len' (by rfl) T.z_len (by decide +kernel) (pa_cons (pv 1) (pa_nil)))) (fun _ _ => rfl))) (pe_slice sl_any (pv 4) (po_some (pe_op op_plus (pv 6) (pe_int))) (po_none))) (pa_nil))))) (pg_name (i := 7) sc__law_texts_hold.nd rfl (Or.inl rfl)) (pss_cons (ps_set (i := 8) sc__law_texts_hold.nd rfl (Or.inl rfl) (pe_lst (pa_cons (pe_str) (pa_cons (pe_non) (pa_nil))))) (pss_cons (ps_if (pt_cmpR op_ge (pe_callSD (G__law_bad_place) (hr.mono (by decide)) (by rfl) T.g__law_bad_place T.F__law_bad_place.kp T.b__law_bad_place .nil (fun σ => passAt (takes_of rfl rfl rfl rfl) σ) (pa_cons (pv 7) (pa_cons (pe_int) (pa_nil)))) (pe_int) (nomark _)) (pss_one (ps_set (i := 8) sc__law_texts_hold.nd rfl (Or.inl rfl) (pe_lst (pa_cons (pe_str) (pa_cons (pe_callSD (G__law_bad_place) (hr.mono (by decide)) (by rfl) T.g__law_bad_place T.F__law_bad_place.kp T.b__law_bad_place .nil (fun σ => passAt (takes_of rfl rfl rfl rfl) σ) (pa_cons (pv 7) (pa_cons (pe_int) (pa_nil)))) (pa_nil)))))) (pss_nil)) (pss_one (ps_if (pt_not (pt_val (pe_callSD (G__law_same) (hr.mono (by decide)) (by rfl) T.g__law_same T.F__law_same.kp T.b__law_same .nil (fun σ => passAt (takes_of rfl rfl rfl rfl) σ) (pa_cons (pe_callSD (G__law_checked) (hr.mono (by decide)) (by rfl) T.g__law_checked T.F__law_checked.kp T.b__law_checked .nil (fun σ => passAt (takes_of rfl rfl rfl rfl) σ) (pa_cons (pv 7) (pa_nil))) (pa_cons (pv 8) (pa_nil)))))) (pss_one (ps_ret (pe_bl))) (pss_nil)))))) (pss_one (ps_ret (pe_bl))))))))
theorem ok__law_texts_hold (T : Txt P K mg a) (G__law_bad_place : FnOk P w K mg base (L2.CX P w) 3 a.f__law_bad_place a.d__law_bad_place ps__law_bad_place (sp__law_bad_place K a)) (G__law_same : FnOk P w K mg base (L2.CX P w) 3 a.f__law_same a.d__law_same ps__law_same (sp__law_same K a)) (G__law_checked : FnOk P w K mg base (L2.CX P w) 7 a.f__law_checked a.d__law_checked ps__law_checked (sp__law_checked K a)) (len : ∀ vs H Q E, sp__law_texts_hold K a vs H Q E → vs.length = ps__law_texts_hold.length) (hd : ∀ vs H Q E, sp__law_texts_hold K a vs H Q E → t__law_texts_hold K a E { nx := fun _ H' => Q .non H', rt := Q } (L2.start N__law_texts_hold vs) H) :
    FnOk P w K mg base (L2.CX P w) 9 a.f__law_texts_hold a.d__law_texts_hold ps__law_texts_hold (sp__law_texts_hold K a) := T.F__law_texts_hold.ok sc__law_texts_hold len fun cdv A outer s H vs Q E hr h => ⟨t__law_texts_hold K a E, tm__law_texts_hold T G__law_bad_place G__law_same G__law_checked hr, hd vs H Q E h⟩
/-- _law_pairs_hold: level 5 -/
def t__law_pairs_hold (K : PySem.W.Frag) (a : Ad) (E : XK) : TS := tSeq (tAsg (tOp (rIx K) (tLst (tCons (tOp (rI (fun _ j => 0 < j) fun i j => .int (i % j)) (tCB rInt1 (tCons (tOp (rIx K) (tVar 0) (tC (.int 130))) (tNil))) (tC (.int 9))) (tCons (tOp (rI (fun _ j => 0 < j) fun i j => .int (i % j)) (tCB rInt1 (tCons (tOp (rIx K) (tVar 0) (tC (.int 130))) (tNil))) (tC (.int 9))) (tCons (tOp (rI (fun _ j => 0 < j) fun i j => .int (i % j)) (tCB rInt1 (tCons (tOp (rIx K) (tVar 0) (tC (.int 130))) (tNil))) (tC (.int 9))) (tCons (tC (.int 60)) (tNil)))))) (tOp (rI (fun _ j => 0 < j) fun i j => .int (i % j)) (tCB rInt1 (tCons (tOp (rIx K) (tVar 0) (tC (.int 131))) (tNil))) (tC (.int 4)))) (gName 2)) (tSeq (tAsg (tM1 (LX.rJoin K) (tC (.str "")) (tLc (iRng1 (tCons (tVar 2) (tNil))) (gName 4) (tYes) (tOp (rIx K) (tVar 1) (tOp (rI (fun _ j => 0 < j) fun i j => .int (i % j)) (tCB rInt1 (tCons (tOp (rIx K) (tVar 0) (tOp (rPlus K) (tC (.int 132)) (tVar 4))) (tNil))) (tC (.int 2)))) [4])) (gName 3)) (tSeq (tFor (iRng1 (tCons (tC (.int 6)) (tNil))) (gName 4) (tSeq (tAsg (tLc (iRng1 (tCons (tC (.int 4)) (tNil))) (gName 6) (tYes) (tOp (rI (fun _ j => 0 < j) fun i j => .int (i % j)) (tCB rInt1 (tCons (tOp (rIx K) (tVar 0) (tOp (rPlus K) (tOp (rPlus K) (tC (.int 194)) (tOp (rTimes K) (tC (.int 4)) (tVar 4))) (tVar 6))) (tNil))) (tOp (rPlus K) (tVar 2) (tC (.int 1)))) [6]) (gName 5)) (tSeq (tAsg (tCB (rSorted K) (tCons (tVar 5) (tNil))) (gName 7)) (tFor (LX.iSeq K (tLst (tCons (tTup (tCons (tSl (rSl K) (tVar 3) (tPart (tOp (rIx K) (tVar 5) (tC (.int 0)))) (tPart (tOp (rIx K) (tVar 5) (tC (.int 1))))) (tCons (tSl (rSl K) (tVar 3) (tPart (tOp (rIx K) (tVar 5) (tC (.int 2)))) (tPart (tOp (rIx K) (tVar 5) (tC (.int 3))))) (tNil)))) (tCons (tTup (tCons (tSl (rSl K) (tVar 3) (tPart (tOp (rIx K) (tVar 7) (tC (.int 0)))) (tPart (tOp (rIx K) (tVar 7) (tC (.int 1))))) (tCons (tSl (rSl K) (tVar 3) (tPart (tOp (rIx K) (tVar 7) (tC (.int 2)))) (tPart (tOp (rIx K) (tVar 7) (tC (.int 3))))) (tNil)))) (tCons (tTup (tCons (tSl (rSl K) (tVar 3) (tPart (tOp (rIx K) (tVar 7) (tC (.int 0)))) (tPart (tOp (rIx K) (tVar 7) (tC (.int 2))))) (tCons (tSl (rSl K) (tVar 3) (tPart (tOp (rIx K) (tVar 7) (tC (.int 1)))) (tPart (tOp (rIx K) (tVar 7) (tC (.int 3))))) (tNil)))) (tNil)))))) (gName 8) (tSeq (tIfS (tNot (tB (tCallSD (sp__law_same K a) [] (WE (fun cls d _ H => E cls d H)) (tCons (tCallSD (sp_pair_fits K a) [] (WE (fun cls d _ H => E cls d H)) (tCons (tVar 3) (tCons (tVar 8) (tNil)))) (tCons (tCallSD (sp__law_fits K a) [] (WE (fun cls d _ H => E cls d H)) (tCons (tVar 3) (tCons (tOp (rIx K) (tVar 8) (tC (.int 0))) (tCons (tOp (rIx K) (tVar 8) (tC (.int 1))) (tNil))))) (tNil)))))) (tRet (tC (.bl false))) (tNext)) (tSeq (tAsg (tTup (tCons (tSl (rSl K) (tVar 3) (tPart (tOp (rIx K) (tVar 5) (tC (.int 2)))) (tPart (tOp (rIx K) (tVar 5) (tC (.int 3))))) (tCons (tSl (rSl K) (tVar 1) (tNoPart) (tPart (tOp (rI (fun _ j => 0 < j) fun i j => .int (i % j)) (tCB rInt1 (tCons (tOp (rIx K) (tVar 0) (tOp (rPlus K) (tC (.int 218)) (tVar 4))) (tNil))) (tC (.int 3))))) (tNil)))) (gName 9)) (tFor (LX.iSeq K (tLst (tCons (tC (.str "wrap")) (tCons (tC (.str "left")) (tCons (tC (.str "right")) (tNil)))))) (gName 10) (tIfS (tNot (tB (tCallSD (sp__law_same K a) [] (WE (fun cls d _ H => E cls d H)) (tCons (tCallSD (sp_join_pairs K a) [] (WE (fun cls d _ H => E cls d H)) (tCons (tVar 10) (tCons (tVar 8) (tCons (tVar 9) (tNil))))) (tCons (tCallSD (sp__law_join K a) [] (WE (fun cls d _ H => E cls d H)) (tCons (tVar 10) (tCons (tVar 8) (tCons (tVar 9) (tNil))))) (tNil)))))) (tRet (tC (.bl false))) (tNext))))))))) (tRet (tC (.bl true)))))
theorem tm__law_pairs_hold (T : Txt P K mg a) (G__law_same : FnOk P w K mg base (L2.CX P w) 3 a.f__law_same a.d__law_same ps__law_same (sp__law_same K a)) (G__law_fits : FnOk P w K mg base (L2.CX P w) 3 a.f__law_fits a.d__law_fits ps__law_fits (sp__law_fits K a)) (G_pair_fits : FnOk P w K mg base (L2.CX P w) 3 a.f_pair_fits a.d_pair_fits ps_pair_fits (sp_pair_fits K a)) (G__law_join : FnOk P w K mg base (L2.CX P w) 3 a.f__law_join a.d__law_join ps__law_join (sp__law_join K a)) (G_join_pairs : FnOk P w K mg base (L2.CX P w) 3 a.f_join_pairs a.d_join_pairs ps_join_pairs (sp_join_pairs K a)) {cdv : Value} {A : Around} {outer : List Env} {s : Shared} {H : Hp} {E : XK} (hr : Room 4 (cxOf (L2.CX P w) P w K mg base N__law_pairs_hold "_law_pairs_hold" (defScope st__law_pairs_hold) a.f__law_pairs_hold cdv A outer s H E).A) : PSs (cxOf (L2.CX P w) P w K mg base N__law_pairs_hold "_law_pairs_hold" (defScope st__law_pairs_hold) a.f__law_pairs_hold cdv A outer s H E) (defBody st__law_pairs_hold) (t__law_pairs_hold K a E) :=
  pss_cons (ps_set (i := 2) sc__law_pairs_hold.nd rfl (Or.inr rfl) (pe_ix ix_seq (pe_lst (pa_cons (pe_op op_mod (pe_callTy call_int' (by rfl) T.z_int (by decide +kernel) (pa_cons (pe_ix ix_seq (pv 0) (pe_int) (fun _ _ => rfl)) (pa_nil))) (pe_int)) (pa_cons (pe_op op_mod (pe_callTy call_int' (by rfl) T.z_int (by decide +kernel) (pa_cons (pe_ix ix_seq (pv 0) (pe_int) (fun _ _ => rfl)) (pa_nil))) (pe_int)) (pa_cons (pe_op op_mod (pe_callTy call_int' (by rfl) T.z_int (by decide +kernel) (pa_cons (pe_ix ix_seq (pv 0) (pe_int) (fun _ _ => rfl)) (pa_nil))) (pe_int)) (pa_cons (pe_int) (pa_nil)))))) (pe_op op_mod (pe_callTy call_int' (by rfl) T.z_int (by decide +kernel) (pa_cons (pe_ix ix_seq (pv 0) (pe_int) (fun _ _ => rfl)) (pa_nil))) (pe_int)) (fun _ _ => rfl))) (pss_cons (ps_set (i := 3) sc__law_pairs_hold.nd rfl (Or.inl rfl) (pe_join (pe_str) (pe_lc (own := [("k", 4)]) (g := gName 4) (tt := tYes) rfl sc__law_pairs_hold.nd (pi_range1 rfl T.z_range (pa_cons (pv 2) (pa_nil))) (blkOk_by (N := N__law_pairs_hold) (sc := defScope st__law_pairs_hold) (by decide +kernel)) (fun _ _ _ _ _ => pg_name (i := 4) sc__law_pairs_hold.nd rfl (Or.inl rfl)) (fun _ _ _ _ _ => pts_nil) (fun _ _ _ _ _ => pe_ix ix_seq (pv 1) (pe_op op_mod (pe_callTy call_int' (by rfl) T.z_int (by decide +kernel) (pa_cons (pe_ix ix_seq (pv 0) (pe_op op_plus (pe_int) (pv 4)) (fun _ _ => rfl)) (pa_nil))) (pe_int)) (fun _ _ => rfl))))) (pss_cons (ps_for (passes_of rfl) rfl (pi_range1 rfl T.z_range (pa_cons (pe_int) (pa_nil))) (pg_name (i := 4) sc__law_pairs_hold.nd rfl (Or.inr rfl)) (pss_cons (ps_setLc (i := 5) (own := [("i", 6)]) (g := gName 6) (tt := tYes) rfl sc__law_pairs_hold.nd rfl rfl (sw_true rfl rfl rfl (by decide +kernel)) (pi_range1 rfl T.z_range (pa_cons (pe_int) (pa_nil))) (blkOk_by (N := N__law_pairs_hold) (sc := defScope st__law_pairs_hold) (by decide +kernel)) (fun _ _ _ _ _ => pg_name (i := 6) sc__law_pairs_hold.nd rfl (Or.inl rfl)) (fun _ _ _ _ _ => pts_nil) (fun _ _ _ _ _ => pe_op op_mod (pe_callTy call_int' (by rfl) T.z_int (by decide +kernel) (pa_cons (pe_ix ix_seq (pv 0) (pe_op op_plus (pe_op op_plus (pe_int) (pe_op op_times (pe_int) (pv 4))) (pv 6)) (fun _ _ => rfl)) (pa_nil))) (pe_op op_plus (pv 2) (pe_int)))) (pss_cons (ps_set (i := 7) sc__law_pairs_hold.nd rfl (Or.inl rfl) (pe_callB cr_sorted (by rfl) T.z_sorted (by decide +kernel) (pa_cons (pv 5) (pa_nil)))) (pss_one (ps_for (passes_of rfl) rfl (LX.pi_seq (pe_lst (pa_cons (pe_tup (pa_cons (pe_slice sl_any (pv 3) (po_some (pe_ix ix_seq (pv 5) (pe_int) (fun _ _ => rfl))) (po_some (pe_ix ix_seq (pv 5) (pe_int) (fun _ _ => rfl)))) (pa_cons (pe_slice sl_any (pv 3) (po_some (pe_ix ix_seq (pv 5) (pe_int) (fun _ _ => rfl))) (po_some (pe_ix ix_seq (pv 5) (pe_int) (fun _ _ => rfl)))) (pa_nil)))) (pa_cons (pe_tup (pa_cons (pe_slice sl_any (pv 3) (po_some (pe_ix ix_seq (pv 7) (pe_int) (fun _ _ => rfl))) (po_some (pe_ix ix_seq (pv 7) (pe_int) (fun _ _ => rfl)))) (pa_cons (pe_slice sl_any (pv 3) (po_some (pe_ix ix_seq (pv 7) (pe_int) (fun _ _ => rfl))) (po_some (pe_ix ix_seq (pv 7) (pe_int) (fun _ _ => rfl)))) (pa_nil)))) (pa_cons (pe_tup (pa_cons (pe_slice sl_any (pv 3) (po_some (pe_ix ix_seq (pv 7) (pe_int) (fun _ _ => rfl))) (po_some (pe_ix ix_seq (pv 7) (pe_int) (fun _ _ => rfl)))) (pa_cons (pe_slice sl_any (pv 3) (po_some (pe_ix ix_seq (pv 7) (pe_int) (fun _ _ => rfl))) (po_some (pe_ix ix_seq (pv 7) (pe_int) (fun _ _ => rfl)))) (pa_nil)))) (pa_nil)))))) (pg_name (i := 8) sc__law_pairs_hold.nd rfl (Or.inl rfl)) (pss_cons (ps_if (pt_not (pt_val (pe_callSD (G__law_same) (hr.mono (by decide)) (by rfl) T.g__law_same T.F__law_same.kp T.b__law_same .nil (fun σ => passAt (takes_of rfl rfl rfl rfl) σ) (pa_cons (pe_callSD (G_pair_fits) (hr.mono (by decide)) (by rfl) T.g_pair_fits T.F_pair_fits.kp T.b_pair_fits .nil (fun σ => passAt (takes_of rfl rfl rfl rfl) σ) (pa_cons (pv 3) (pa_cons (pv 8) (pa_nil)))) (pa_cons (pe_callSD (G__law_fits) (hr.mono (by decide)) (by rfl) T.g__law_fits T.F__law_fits.kp T.b__law_fits .nil (fun σ => passAt (takes_of rfl rfl rfl rfl) σ) (pa_cons (pv 3) (pa_cons (pe_ix ix_seq (pv 8) (pe_int) (fun _ _ => rfl)) (pa_cons (pe_ix ix_seq (pv 8) (pe_int) (fun _ _ => rfl)) (pa_nil))))) (pa_nil)))))) (pss_one (ps_ret (pe_bl))) (pss_nil)) (pss_cons (ps_set (i := 9) sc__law_pairs_hold.nd rfl (Or.inl rfl) (pe_tup (pa_cons (pe_slice sl_any (pv 3) (po_some (pe_ix ix_seq (pv 5) (pe_int) (fun _ _ => rfl))) (po_some (pe_ix ix_seq (pv 5) (pe_int) (fun _ _ => rfl)))) (pa_cons (pe_slice sl_any (pv 1) (po_none) (po_some (pe_op op_mod (pe_callTy call_int' (by rfl) T.z_int (by decide +kernel) (pa_cons (pe_ix ix_seq (pv 0) (pe_op op_plus (pe_int) (pv 4)) (fun _ _ => rfl)) (pa_nil))) (pe_int)))) (pa_nil))))) (pss_one (ps_for (passes_of rfl) rfl (LX.pi_seq (pe_lst (pa_cons (pe_str) (pa_cons (pe_str) (pa_cons (pe_str) (pa_nil)))))) (pg_name (i := 10) sc__law_pairs_hold.nd rfl (Or.inl rfl)) (pss_one (ps_if (pt_not (pt_val (pe_callSD (G__law_same) (hr.mono (by decide)) (by rfl) T.g__law_same T.F__law_same.kp T.b__law_same .nil (fun σ => passAt (takes_of rfl rfl rfl rfl) σ) (pa_cons (pe_callSD (G_join_pairs) (hr.mono (by decide)) (by rfl) T.g_join_pairs T.F_join_pairs.kp T.b_join_pairs .nil (fun σ => passAt (takes_of rfl rfl rfl rfl) σ) (pa_cons (pv 10) (pa_cons (pv 8) (pa_cons (pv 9) (pa_nil))))) (pa_cons (pe_callSD (G__law_join) (hr.mono (by decide)) (by rfl) T.g__law_join T.F__law_join.kp T.b__law_join .nil (fun σ => passAt (takes_of rfl rfl rfl rfl) σ) (pa_cons (pv 10) (pa_cons (pv 8) (pa_cons (pv 9) (pa_nil))))) (pa_nil)))))) (pss_one (ps_ret (pe_bl))) (pss_nil)))))))))))) (pss_one (ps_ret (pe_bl)))))
theorem ok__law_pairs_hold (T : Txt P K mg a) (G__law_same : FnOk P w K mg base (L2.CX P w) 3 a.f__law_same a.d__law_same ps__law_same (sp__law_same K a)) (G__law_fits : FnOk P w K mg base (L2.CX P w) 3 a.f__law_fits a.d__law_fits ps__law_fits (sp__law_fits K a)) (G_pair_fits : FnOk P w K mg base (L2.CX P w) 3 a.f_pair_fits a.d_pair_fits ps_pair_fits (sp_pair_fits K a)) (G__law_join : FnOk P w K mg base (L2.CX P w) 3 a.f__law_join a.d__law_join ps__law_join (sp__law_join K a)) (G_join_pairs : FnOk P w K mg base (L2.CX P w) 3 a.f_join_pairs a.d_join_pairs ps_join_pairs (sp_join_pairs K a)) (len : ∀ vs H Q E, sp__law_pairs_hold K a vs H Q E → vs.length = ps__law_pairs_hold.length) (hd : ∀ vs H Q E, sp__law_pairs_hold K a vs H Q E → t__law_pairs_hold K a E { nx := fun _ H' => Q .non H', rt := Q } (L2.start N__law_pairs_hold vs) H) :
    FnOk P w K mg base (L2.CX P w) 5 a.f__law_pairs_hold a.d__law_pairs_hold ps__law_pairs_hold (sp__law_pairs_hold K a) := T.F__law_pairs_hold.ok sc__law_pairs_hold len fun cdv A outer s H vs Q E hr h => ⟨t__law_pairs_hold K a E, tm__law_pairs_hold T G__law_same G__law_fits G_pair_fits G__law_join G_join_pairs hr, hd vs H Q E h⟩
/-- law: level 16 -/
def t_law (K : PySem.W.Frag) (a : Ad) (E : XK) : TS := tSeq (tAsg (tCallSD (sp__law_row K a) [] (WE (fun cls d _ H => E cls d H)) (tCons (tVar 0) (tCons (tC (.int 226)) (tNil)))) (gName 1)) (tSeq (tAsg (tC (.str "abcdefghijklmnopqrstuvwxyz")) (gName 2)) (tSeq (tAsg (tOp (rPlus K) (tOp (rIx K) (tVar 2) (tOp (rI (fun _ j => 0 < j) fun i j => .int (i % j)) (tCB rInt1 (tCons (tOp (rIx K) (tVar 1) (tC (.int 0))) (tNil))) (tC (.int 26)))) (tOp (rIx K) (tVar 2) (tOp (rI (fun _ j => 0 < j) fun i j => .int (i % j)) (tCB rInt1 (tCons (tOp (rIx K) (tVar 1) (tC (.int 1))) (tNil))) (tC (.int 26))))) (gName 3)) (tSeq (tIfS (tOr (tNot (tB (tCallSD (sp__law_drawn_holds K a) [] (WE (fun cls d _ H => E cls d H)) (tCons (tVar 1) (tCons (tVar 3) (tNil)))))) (tOr (tNot (tB (tCallSD (sp__law_texts_hold K a) [] (WE (fun cls d _ H => E cls d H)) (tCons (tVar 1) (tNil))))) (tNot (tB (tCallSD (sp__law_pairs_hold K a) [] (WE (fun cls d _ H => E cls d H)) (tCons (tVar 1) (tCons (tVar 3) (tNil)))))))) (tRet (tC (.bl false))) (tNext)) (tSeq (tIfS (tTest (tOp (rEqAny K) (tOp (rI (fun _ j => 0 < j) fun i j => .int (i % j)) (tCB rInt1 (tCons (tOp (rIx K) (tVar 1) (tC (.int 2))) (tNil))) (tC (.int 3))) (tC (.int 1)))) (tRet (tCallSD (sp__law_limits_hold K a) [] (WE (fun cls d _ H => E cls d H)) (tCons (tVar 1) (tCons (tVar 3) (tNil))))) (tNext)) (tRet (tC (.bl true)))))))
theorem tm_law (T : Txt P K mg a) (G__law_row : FnOk P w K mg base (L2.CX P w) 3 a.f__law_row a.d__law_row ps__law_row (sp__law_row K a)) (G__law_drawn_holds : FnOk P w K mg base (L2.CX P w) 14 a.f__law_drawn_holds a.d__law_drawn_holds ps__law_drawn_holds (sp__law_drawn_holds K a)) (G__law_texts_hold : FnOk P w K mg base (L2.CX P w) 9 a.f__law_texts_hold a.d__law_texts_hold ps__law_texts_hold (sp__law_texts_hold K a)) (G__law_pairs_hold : FnOk P w K mg base (L2.CX P w) 5 a.f__law_pairs_hold a.d__law_pairs_hold ps__law_pairs_hold (sp__law_pairs_hold K a)) (G__law_limits_hold : FnOk P w K mg base (L2.CX P w) 14 a.f__law_limits_hold a.d__law_limits_hold ps__law_limits_hold (sp__law_limits_hold K a)) {cdv : Value} {A : Around} {outer : List Env} {s : Shared} {H : Hp} {E : XK} (hr : Room 15 (cxOf (L2.CX P w) P w K mg base N_law "law" (defScope st_law) a.f_law cdv A outer s H E).A) : PSs (cxOf (L2.CX P w) P w K mg base N_law "law" (defScope st_law) a.f_law cdv A outer s H E) (defBody st_law) (t_law K a E) :=
  pss_cons (ps_set (i := 1) sc_law.nd rfl (Or.inl rfl) (pe_callSD (G__law_row) (hr.mono (by decide)) (by rfl) T.g__law_row T.F__law_row.kp T.b__law_row .nil (fun σ => passAt (takes_of rfl rfl rfl rfl) σ) (pa_cons (pv 0) (pa_cons (pe_int) (pa_nil))))) (pss_cons (ps_set (i := 2) sc_law.nd rfl (Or.inl rfl) (pe_str)) (pss_cons (ps_set (i := 3) sc_law.nd rfl (Or.inl rfl) (pe_op op_plus (pe_ix ix_seq (pv 2) (pe_op op_mod (pe_callTy call_int' (by rfl) T.z_int (by decide +kernel) (pa_cons (pe_ix ix_seq (pv 1) (pe_int) (fun _ _ => rfl)) (pa_nil))) (pe_int)) (fun _ _ => rfl)) (pe_ix ix_seq (pv 2) (pe_op op_mod (pe_callTy call_int' (by rfl) T.z_int (by decide +kernel) (pa_cons (pe_ix ix_seq (pv 1) (pe_int) (fun _ _ => rfl)) (pa_nil))) (pe_int)) (fun _ _ => rfl)))) (pss_cons (ps_if ((pw_or (pt_not (pt_val (pe_callSD (G__law_drawn_holds) (hr.mono (by decide)) (by rfl) T.g__law_drawn_holds T.F__law_drawn_holds.kp T.b__law_drawn_holds .nil (fun σ => passAt (takes_of rfl rfl rfl rfl) σ) (pa_cons (pv 1) (pa_cons (pv 3) (pa_nil)))))) (pw_or (pt_not (pt_val (pe_callSD (G__law_texts_hold) (hr.mono (by decide)) (by rfl) T.g__law_texts_hold T.F__law_texts_hold.kp T.b__law_texts_hold .nil (fun σ => passAt (takes_of rfl rfl rfl rfl) σ) (pa_cons (pv 1) (pa_nil))))) (pw_or1 (pt_not (pt_val (pe_callSD (G__law_pairs_hold) (hr.mono (by decide)) (by rfl) T.g__law_pairs_hold T.F__law_pairs_hold.kp T.b__law_pairs_hold .nil (fun σ => passAt (takes_of rfl rfl rfl rfl) σ) (pa_cons (pv 1) (pa_cons (pv 3) (pa_nil))))))))).pt) (pss_one (ps_ret (pe_bl))) (pss_nil)) (pss_cons (ps_if (pt_cmpR (op_eqAny hr.units) (pe_op op_mod (pe_callTy call_int' (by rfl) T.z_int (by decide +kernel) (pa_cons (pe_ix ix_seq (pv 1) (pe_int) (fun _ _ => rfl)) (pa_nil))) (pe_int)) (pe_int) (nomark _)) (pss_one (ps_ret (pe_callSD (G__law_limits_hold) (hr.mono (by decide)) (by rfl) T.g__law_limits_hold T.F__law_limits_hold.kp T.b__law_limits_hold .nil (fun σ => passAt (takes_of rfl rfl rfl rfl) σ) (pa_cons (pv 1) (pa_cons (pv 3) (pa_nil)))))) (pss_nil)) (pss_one (ps_ret (pe_bl)))))))
theorem ok_law (T : Txt P K mg a) (G__law_row : FnOk P w K mg base (L2.CX P w) 3 a.f__law_row a.d__law_row ps__law_row (sp__law_row K a)) (G__law_drawn_holds : FnOk P w K mg base (L2.CX P w) 14 a.f__law_drawn_holds a.d__law_drawn_holds ps__law_drawn_holds (sp__law_drawn_holds K a)) (G__law_texts_hold : FnOk P w K mg base (L2.CX P w) 9 a.f__law_texts_hold a.d__law_texts_hold ps__law_texts_hold (sp__law_texts_hold K a)) (G__law_pairs_hold : FnOk P w K mg base (L2.CX P w) 5 a.f__law_pairs_hold a.d__law_pairs_hold ps__law_pairs_hold (sp__law_pairs_hold K a)) (G__law_limits_hold : FnOk P w K mg base (L2.CX P w) 14 a.f__law_limits_hold a.d__law_limits_hold ps__law_limits_hold (sp__law_limits_hold K a)) (len : ∀ vs H Q E, sp_law K a vs H Q E → vs.length = ps_law.length) (hd : ∀ vs H Q E, sp_law K a vs H Q E → t_law K a E { nx := fun _ H' => Q .non H', rt := Q } (L2.start N_law vs) H) :
    FnOk P w K mg base (L2.CX P w) 16 a.f_law a.d_law ps_law (sp_law K a) := T.F_law.ok sc_law len fun cdv A outer s H vs Q E hr h => ⟨t_law K a E, tm_law T G__law_row G__law_drawn_holds G__law_texts_hold G__law_pairs_hold G__law_limits_hold hr, hd vs H Q E h⟩
end
end KB
namespace KB
open PySem PySem.Spec PyProof.Rows L2 LD
section
variable {P : Program} {w : World} {K : PySem.W.Frag} {mg : Str → Option Value} {base : Heap} {a : Ad}
theorem str_len (a b : Str) : (a ++ b).length = a.length + b.length := PySem.Str.length_append a b
theorem drop_get {l : List Nat} {i : Nat} (h : i < l.length) : l.drop i = l.getD i 0 :: l.drop (i + 1) := by
  rw [List.drop_eq_getElem_cons h]
  simp [List.getD, h]
theorem d_bad_letter (vs : List V) (H : Hp) (Q : VK) (E : XK) (h : sp_bad_letter K a vs H Q E) : t_bad_letter K a E { nx := fun _ H' => Q .non H', rt := Q } (L2.start N_bad_letter vs) H := h.body (N := N_bad_letter) fun x b _ mu hw => by
  obtain ⟨s, m⟩ := x
  show StA b (t_bad_letter K a E) ⟨[some (.str s), some (.int m), none, none], []⟩ _
  unfold t_bad_letter
  refine s_seq (s_for (fun i A => badL (s.cps.toList.drop i) m i = badL s.cps.toList m 0 ∧ ∃ g2 g3, A = ⟨[some (.str s), some (.int m), g2, g3], []⟩) (LD.ei_enumS (ev_var rfl)) (Up.of ⟨rfl, _, _, rfl⟩) ?_ ?_)
  · rintro i A hi ⟨hb, g2, g3, rfl⟩
    refine ⟨_, ga_tup (gas_cons ga_name (gas_cons ga_name gas_nil)), ?_⟩
    have hi' : i < s.cps.toList.length := by simpa using hi
    rw [drop_get hi', badL] at hb
    refine s_if (et_or (et_val (ev_ge (ev_var rfl) (ev_var rfl))) fun _ => et_val (ev_notInC (ev_var rfl) ev_str)) (fun hc => ?_) fun hc => ?_
    · refine s_ret (ev_var rfl) ?_
      show Dt.int (i : Int) = _
      rw [if_pos (by simpa [Array.getD_eq_getD_getElem?, letters] using hc)] at hb
      rw [← hb]
    · refine s_next (Up.of ⟨?_, _, _, rfl⟩)
      rw [if_neg (by simpa [Array.getD_eq_getD_getElem?, letters] using hc)] at hb
      exact hb
  · rintro A ⟨hb, g2, g3, rfl⟩
    refine s_ret (ev_neg ev_int) ?_
    rw [← hb, List.drop_eq_nil_of_le (by simp), badL]
theorem d_join_pairs (vs : List V) (H : Hp) (Q : VK) (E : XK) (h : sp_join_pairs K a vs H Q E) : t_join_pairs K a E { nx := fun _ H' => Q .non H', rt := Q } (L2.start N_join_pairs vs) H := h.body (N := N_join_pairs) fun x b ok mu hw => by
  obtain ⟨k, ⟨p1, p2⟩, q1, q2⟩ := x
  show StA b (t_join_pairs K a E) ⟨[some (.str k), some (.tup [.str p1, .str p2]), some (.tup [.str q1, .str q2])], []⟩ _
  have ok : p1.length + p2.length + (q1.length + q2.length) ≤ sizeLine := ok
  unfold t_join_pairs
  have P0 : ∀ {A}, EvM b (tOp (rIx K) (tVar 1) (tC (.int 0))) ⟨[some (.str k), some (.tup [.str p1, .str p2]), some (.tup [.str q1, .str q2])], A⟩ (.str p1) _ := ev_ixT (ev_var rfl) ev_int rfl
  have P1 : ∀ {A}, EvM b (tOp (rIx K) (tVar 1) (tC (.int 1))) ⟨[some (.str k), some (.tup [.str p1, .str p2]), some (.tup [.str q1, .str q2])], A⟩ (.str p2) _ := ev_ixT (ev_var rfl) ev_int rfl
  have Q0 : ∀ {A}, EvM b (tOp (rIx K) (tVar 2) (tC (.int 0))) ⟨[some (.str k), some (.tup [.str p1, .str p2]), some (.tup [.str q1, .str q2])], A⟩ (.str q1) _ := ev_ixT (ev_var rfl) ev_int rfl
  have Q1 : ∀ {A}, EvM b (tOp (rIx K) (tVar 2) (tC (.int 1))) ⟨[some (.str k), some (.tup [.str p1, .str p2]), some (.tup [.str q1, .str q2])], A⟩ (.str q2) _ := ev_ixT (ev_var rfl) ev_int rfl
  refine s_seq (s_if (et_val (ev_eqS (ev_var rfl) ev_str)) (fun hc => ?_) fun hc => ?_)
  · refine s_ret (ev_tup (ea_cons (ev_addS P0 Q0 (by omega)) (ea_cons (ev_addS Q1 P1 (by omega)) ea_nil))) ?_
    have hk : k = "wrap" := by simpa using hc
    show _ = pairD (joinP k (p1, p2) (q1, q2))
    unfold joinP
    rw [if_pos hk]
    rfl
  · have hk : ¬ k = "wrap" := by simpa using hc
    refine s_next (s_seq (s_if (et_val (ev_eqS (ev_var rfl) ev_str)) (fun hc => ?_) fun hc => ?_))
    · have hl : k = "left" := by simpa using hc
      refine s_ret (ev_tup (ea_cons (ev_addS (ev_addS P0 P1 (by omega)) Q0 (by rw [str_len]; omega)) (ea_cons Q1 ea_nil))) ?_
      show _ = pairD (joinP k (p1, p2) (q1, q2))
      unfold joinP
      rw [if_neg hk, if_pos hl]
      rfl
    · have hl : ¬ k = "left" := by simpa using hc
      refine s_next (s_ret (ev_tup (ea_cons P0 (ea_cons (ev_addS (ev_addS P1 Q0 (by omega)) Q1 (by rw [str_len]; omega)) ea_nil))) ?_)
      show _ = pairD (joinP k (p1, p2) (q1, q2))
      unfold joinP
      rw [if_neg hk, if_neg hl]
      rfl
theorem d_is_leaf_text (vs : List V) (H : Hp) (Q : VK) (E : XK) (h : sp_is_leaf_text K a vs H Q E) : t_is_leaf_text K a E { nx := fun _ H' => Q .non H', rt := Q } (L2.start N_is_leaf_text vs) H := h.body (N := N_is_leaf_text) fun x b _ mu hw => by
  show StA b (t_is_leaf_text K a E) ⟨[some (keyD x)], []⟩ _
  unfold t_is_leaf_text
  cases x with
  | inl i =>
    refine s_ret (ev_andV (c := false) (c' := false) (ev_isi (d := .int i) (e := .ty "str") (t := .type "int") (u := .type "str") (ev_var rfl) ev_ty rfl rfl (by first | rfl | decide +kernel)) (fun h => by cases h)) rfl
  | inr s =>
    refine s_ret (ev_andV (ev_isi (d := .str s) (e := .ty "str") (t := .type "str") (u := .type "str") (r := true) (ev_var rfl) ev_ty rfl rfl (by first | rfl | decide +kernel)) fun _ => ev_lt (ev_callN (s, 12) (ea_cons (ev_var rfl) (ea_cons ev_int ea_nil)) trivial rfl (fun d' h => h) (fun C o h => h)) ev_int) ?_
    show Dt.bl (true && _) = Dt.bl _
    rw [Bool.true_and]
    rfl
theorem d_is_name (vs : List V) (H : Hp) (Q : VK) (E : XK) (h : sp_is_name K a vs H Q E) : t_is_name K a E { nx := fun _ H' => Q .non H', rt := Q } (L2.start N_is_name vs) H := h.body (N := N_is_name) fun x b _ mu hw => by
  obtain ⟨x, n⟩ := x
  show StA b (t_is_name K a E) ⟨[some (keyD x), some (.int n)], []⟩ _
  unfold t_is_name
  cases x with
  | inr s =>
    refine s_ret (ev_andV (c := false) (c' := false) (ev_isi (d := .str s) (e := .ty "int") (t := .type "str") (u := .type "int") (ev_var rfl) ev_ty rfl rfl (by first | rfl | decide +kernel)) (fun h => by cases h)) rfl
  | inl i =>
    refine s_ret (ev_andV (ev_isi (d := .int i) (e := .ty "int") (t := .type "int") (u := .type "int") (r := true) (ev_var rfl) ev_ty rfl rfl (by first | rfl | decide +kernel)) fun _ => ev_chain ev_int (ev_var rfl) (rv_I0 fun _ => .bl _) (fun _ => ev_var rfl) (rv_I0 fun _ => .bl _)) ?_
    show Dt.bl (true && _) = Dt.bl _
    rw [Bool.true_and]
    rfl
theorem kind_in (k : Str) : inV (.str k) [.str "leaf", .str "wrap", .str "left", .str "right"] = isKind k := by
  have e : ∀ s : Str, eqV (.str s) (.str k) = decide (k = s) := fun s => by
    by_cases h : k = s
    · subst h; simp [eqV]
    · have h' : ¬ s = k := fun z => h z.symm
      simp [eqV, h, h']
  unfold inV isKind
  simp only [List.any_cons, List.any_nil, e, Bool.or_false]
theorem d_is_pair_rule (T : Txt P K mg a) (vs : List V) (H : Hp) (Q : VK) (E : XK) (h : sp_is_pair_rule K a vs H Q E) : t_is_pair_rule K a E { nx := fun _ H' => Q .non H', rt := Q } (L2.start N_is_pair_rule vs) H := h.body (N := N_is_pair_rule) fun x b _ mu hw => by
  obtain ⟨⟨k, h, x, y⟩, n⟩ := x
  show StA b (t_is_pair_rule K a E) ⟨[some (.tup [.str k, keyD h, keyD x, keyD y]), some (.int n), none, none, none, none], []⟩ _
  unfold t_is_pair_rule
  have nm : ∀ {z : Key} {i : Nat} {γ}, γ[i]? = some (some (keyD z)) → γ[1]? = some (some (.int n)) → EvM b (tCallSD (sp_is_name K a) [] (WE fun cls d _ H => E cls d H) (tCons (tVar i) (tCons (tVar 1) tNil))) ⟨γ, []⟩ (.bl (isName n z)) ⟨γ, []⟩ := fun {z i γ} h1 h2 =>
    ev_callN (z, n) (ea_cons (ev_var h1) (ea_cons (ev_var h2) ea_nil)) trivial rfl (fun d' h => h) (fun C o h => h)
  have lf : ∀ {z : Key} {i : Nat} {γ}, γ[i]? = some (some (keyD z)) → EvM b (tCallSD (sp_is_leaf_text K a) [] (WE fun cls d _ H => E cls d H) (tCons (tVar i) tNil)) ⟨γ, []⟩ (.bl (isLeaf z)) ⟨γ, []⟩ := fun {z i γ} h1 =>
    ev_callN z (ea_cons (ev_var h1) ea_nil) trivial rfl (fun d' h => h) (fun C o h => h)
  refine s_seq (s_tgt (ev_var rfl) (ga_tup (gas_cons ga_name (gas_cons ga_name (gas_cons ga_name (gas_cons ga_name gas_nil))))) ?_)
  refine s_seq (s_if (et_or (et_val (ev_notInK (d := .str k) (x := .str k) (ev_var rfl) ev_ref rfl T.w_RULE_KINDS rfl)) fun _ => et_not (et_B (nm rfl rfl))) (fun hc => ?_) fun hc => ?_)
  · refine s_ret ev_bl ?_
    rw [kind_in] at hc
    show Dt.bl false = Dt.bl (okRule n (k, h, x, y))
    unfold okRule
    cases e1 : isKind k <;> cases e2 : isName n h <;> simp [e1, e2] at hc ⊢
  · rw [kind_in] at hc
    have e1 : isKind k = true := by cases e : isKind k <;> simp [e] at hc ⊢
    have e2 : isName n h = true := by cases e : isName n h <;> simp [e] at hc ⊢
    refine s_next (s_seq (s_if (et_val (ev_eqS (ev_var rfl) ev_str)) (fun hl => ?_) fun hl => ?_))
    · refine s_ret (ev_andV (lf rfl) fun _ => lf rfl) ?_
      show Dt.bl _ = Dt.bl (okRule n (k, h, x, y))
      unfold okRule
      simp only [e1, e2, Bool.true_and, if_pos (of_decide_eq_true hl)]
    · refine s_next (s_ret (ev_andV (nm rfl rfl) fun _ => nm rfl rfl) ?_)
      show Dt.bl _ = Dt.bl (okRule n (k, h, x, y))
      unfold okRule
      simp only [e1, e2, Bool.true_and, if_neg (of_decide_eq_false hl)]
theorem d_child_names (vs : List V) (H : Hp) (Q : VK) (E : XK) (h : sp_child_names K a vs H Q E) : t_child_names K a E { nx := fun _ H' => Q .non H', rt := Q } (L2.start N_child_names vs) H := h.body (N := N_child_names) fun x b _ mu hw => by
  obtain ⟨k, h, x, y⟩ := x
  show StA b (t_child_names K a E) ⟨[some (.tup [.str k, keyD h, keyD x, keyD y])], []⟩ _
  unfold t_child_names
  refine s_seq (s_if (et_val (ev_eqS (ev_ixT (ev_var rfl) ev_int rfl) ev_str)) (fun hl => ?_) fun hl => ?_)
  · refine s_ret (ev_tup ea_nil) ?_
    show Dt.tup [] = Dt.tup ((if k = "leaf" then [] else [x, y]).map keyD)
    rw [if_pos (of_decide_eq_true hl)]
    rfl
  · refine s_next (s_ret (ev_tup (ea_cons (ev_ixT (ev_var rfl) ev_int rfl) (ea_cons (ev_ixT (ev_var rfl) ev_int rfl) ea_nil))) ?_)
    show Dt.tup [keyD x, keyD y] = Dt.tup ((if k = "leaf" then [] else [x, y]).map keyD)
    rw [if_neg (of_decide_eq_false hl)]
    rfl
end
end KB
namespace KB
open PySem PySem.Spec PyProof.Rows L2 LD
/-! ### rows, dicts -/
section
variable {α κ : Type} [DecidableEq κ]
theorem put_len (es : List (κ × α)) (k : κ) (x : α) : (putD es k x).length ≤ es.length + 1 := by
  unfold putD
  split
  · rw [List.length_map]; omega
  · rw [List.length_append]; simp
theorem look_putD (es : List (κ × α)) (k : κ) (x : α) (k' : κ) : lookD (putD es k x) k' = if k = k' then some x else lookD es k' := by
  unfold putD
  by_cases q : (es.any fun kv => decide (kv.1 = k)) = true
  · rw [if_pos q]
    induction es with
    | nil => simp at q
    | cons p r ih =>
      obtain ⟨k1, x1⟩ := p
      rw [List.map_cons]
      by_cases e : k1 = k
      · subst e
        rw [if_pos rfl]
        by_cases e' : k1 = k'
        · rw [lookD_pos e', if_pos e']
        · rw [lookD_neg (p := (k1, x)) e', if_neg e', lookD_neg (p := (k1, x1)) e']
          clear ih q
          induction r with
          | nil => rfl
          | cons p r ih =>
            obtain ⟨k2, x2⟩ := p
            rw [List.map_cons]
            by_cases h : k2 = k1
            · subst h
              rw [if_pos rfl, lookD_neg (p := (k2, x)) e', lookD_neg (p := (k2, x2)) e', ih]
            · rw [if_neg h]
              by_cases h' : k2 = k'
              · rw [lookD_pos h', lookD_pos h']
              · rw [lookD_neg (p := (k2, x2)) h', lookD_neg (p := (k2, x2)) h', ih]
      · rw [if_neg e]
        have q' : (r.any fun kv => decide (kv.1 = k)) = true := by
          simpa [e] using q
        by_cases e' : k1 = k'
        · have : ¬ k = k' := fun z => e (e'.trans z.symm)
          rw [lookD_pos e', if_neg this, lookD_pos e']
        · rw [lookD_neg (p := (k1, x1)) e', lookD_neg (p := (k1, x1)) e', ih q']
  · rw [if_neg q]
    induction es with
    | nil =>
      by_cases e : k = k'
      · rw [if_pos e]; exact lookD_pos e
      · rw [if_neg e]; exact lookD_neg e
    | cons p r ih =>
      obtain ⟨k1, x1⟩ := p
      rw [List.cons_append]
      have hne : ¬ k1 = k ∧ ¬ (r.any fun kv => decide (kv.1 = k)) = true := by
        constructor
        · intro z; exact q (by simp [z])
        · intro z; exact q (by rw [List.any_cons, z, Bool.or_true])
      by_cases e' : k1 = k'
      · have : ¬ k = k' := fun z => hne.1 (e'.trans z.symm)
        rw [lookD_pos e', if_neg this, lookD_pos e']
      · rw [lookD_neg (p := (k1, x1)) e', lookD_neg (p := (k1, x1)) e', ih hne.2]
end
theorem chD_app (rs : List Row) (r : Row) : chD (rs ++ [r]) = putD (chD rs) [r.1, r.2.1] (.tup (r.2.2.map keyD)) := by unfold chD; rw [List.foldl_append]; rfl
theorem nuD_app (rs : List Row) (r : Row) : nuD (rs ++ [r]) = appP (nuD rs) r.1 (keyD r.2.1) := by unfold nuD; rw [List.foldl_append]; rfl
theorem arD_app (rs : List Row) (r : Row) : arD (rs ++ [r]) = putD (arD rs) r.2.1 (.int (r.2.2.length : Int)) := by unfold arD; rw [List.foldl_append]; rfl
theorem rev_ind {α : Type} {p : List α → Prop} (h0 : p []) (h1 : ∀ l x, p l → p (l ++ [x])) (l : List α) : p l := by
  have : ∀ l : List α, p l.reverse := by
    intro l
    induction l with
    | nil => exact h0
    | cons x l ih => rw [List.reverse_cons]; exact h1 _ _ ih
  have := this l.reverse
  rwa [List.reverse_reverse] at this
theorem chD_len (rs : List Row) : (chD rs).length ≤ rs.length := by
  induction rs using rev_ind with
  | h0 => exact Nat.le_refl _
  | h1 l x ih =>
    rw [chD_app, List.length_append]
    have := put_len (chD l) [x.1, x.2.1] (Dt.tup (x.2.2.map keyD))
    simp; omega
theorem arD_len (rs : List Row) : (arD rs).length ≤ rs.length := by
  induction rs using rev_ind with
  | h0 => exact Nat.le_refl _
  | h1 l x ih =>
    rw [arD_app, List.length_append]
    have := put_len (arD l) x.2.1 (Dt.int (x.2.2.length : Int))
    simp; omega
theorem look_chD (rs : List Row) (s n : Key) : lookD (chD rs) [s, n] = (chOf rs s n).map fun cs => Dt.tup (cs.map keyD) := by
  induction rs using rev_ind with
  | h0 => rfl
  | h1 l x ih =>
    rw [chD_app, look_putD]
    unfold chOf
    rw [List.reverse_append, List.reverse_singleton, List.singleton_append, List.find?_cons]
    by_cases e : x.1 = s ∧ x.2.1 = n
    · obtain ⟨e1, e2⟩ := e
      rw [if_pos (by rw [e1, e2])]
      simp [e1, e2]
    · rw [if_neg (by intro z; simp only [List.cons.injEq, and_true] at z; exact e z)]
      simp only [decide_eq_false e]
      exact ih
theorem take_one {α : Type} {l : List α} {i : Nat} {x : α} (h : l[i]? = some x) : l.take (i + 1) = l.take i ++ [x] := by
  rw [List.take_add_one, h]; rfl
theorem appP_len {α : Type} : ∀ (es : List (Key × List α)) (k : Key) (d : α) (n : Nat), es.length ≤ n → (∀ e ∈ es, e.2.length ≤ n) → (appP es k d).length ≤ n + 1 ∧ ∀ e ∈ appP es k d, e.2.length ≤ n + 1
  | [], k, d, n, _, _ => ⟨by simp [appP], fun e he => by simp [appP] at he; rw [he]; simp⟩
  | (k1, ds) :: r, k, d, n, h1, h2 => by
    unfold appP
    by_cases h : k1 = k
    · rw [if_pos h]
      refine ⟨by simp at h1 ⊢; omega, fun e he => ?_⟩
      rcases List.mem_cons.mp he with e1 | he
      · rw [e1]
        have := h2 (k1, ds) List.mem_cons_self
        simp at this ⊢; omega
      · exact Nat.le_succ_of_le (h2 e (List.mem_cons_of_mem _ he))
    · rw [if_neg h]
      obtain ⟨h3, h4⟩ := appP_len r k d n (by simp at h1; omega) fun e he => h2 e (List.mem_cons_of_mem _ he)
      have h5 : ∀ (es : List (Key × List α)), (appP es k d).length ≤ es.length + 1 := by
        intro es
        induction es with
        | nil => simp [appP]
        | cons p r ih =>
          obtain ⟨k2, d2⟩ := p
          unfold appP
          split
          · simp
          · simp; omega
      refine ⟨?_, fun e he => ?_⟩
      · have := h5 r
        simp at h1 ⊢; omega
      · rcases List.mem_cons.mp he with e1 | he
        · rw [e1]; exact Nat.le_succ_of_le (h2 _ List.mem_cons_self)
        · exact h4 e he
theorem nuD_len (rs : List Row) : (nuD rs).length ≤ rs.length ∧ ∀ e ∈ nuD rs, e.2.length ≤ rs.length := by
  induction rs using rev_ind with
  | h0 => exact ⟨Nat.le_refl _, fun e he => by cases he⟩
  | h1 l x ih =>
    rw [nuD_app, List.length_append]
    exact appP_len _ _ _ _ ih.1 ih.2
section
variable {P : Program} {w : World} {K : PySem.W.Frag} {mg : Str → Option Value} {base : Heap} {a : Ad}
theorem fF (p1 p2 p3 : Addr) : putFD "arity" (.obj p3) (putFD "numbers" (.obj p2) (putFD "children" (.obj p1) [])) = [(("children" : Str), Dt.obj p1), ("numbers", .obj p2), ("arity", .obj p3)] := by
  have h1 : ¬ ("children" : Str) = "numbers" := by decide +kernel
  have h2 : ¬ ("children" : Str) = "arity" := by decide +kernel
  have h3 : ¬ ("numbers" : Str) = "arity" := by decide +kernel
  simp [putFD, h1, h2, h3]
theorem fG (d1 d2 d3 : Dt) : putFD "children" d1 (putFD "numbers" d2 (putFD "arity" d3 [(("children" : Str), Dt.obj 0), ("numbers", .obj 0), ("arity", .obj 0)])) = [(("children" : Str), d1), ("numbers", d2), ("arity", d3)] := by
  have h1 : ¬ ("children" : Str) = "numbers" := by decide +kernel
  have h2 : ¬ ("children" : Str) = "arity" := by decide +kernel
  have h3 : ¬ ("numbers" : Str) = "arity" := by decide +kernel
  simp [putFD, h1, h2, h3]
theorem fA (x1 x2 x3 d : Dt) : putFD "arity" d [(("children" : Str), x1), ("numbers", x2), ("arity", x3)] = [(("children" : Str), x1), ("numbers", x2), ("arity", d)] := by
  have h2 : ¬ ("children" : Str) = "arity" := by decide +kernel
  have h3 : ¬ ("numbers" : Str) = "arity" := by decide +kernel
  simp [putFD, h2, h3]
theorem fN (x1 x2 x3 d : Dt) : putFD "numbers" d [(("children" : Str), x1), ("numbers", x2), ("arity", x3)] = [(("children" : Str), x1), ("numbers", d), ("arity", x3)] := by
  have h1 : ¬ ("children" : Str) = "numbers" := by decide +kernel
  simp [putFD, h1]
theorem fC (x1 x2 x3 d : Dt) : putFD "children" d [(("children" : Str), x1), ("numbers", x2), ("arity", x3)] = [(("children" : Str), d), ("numbers", x2), ("arity", x3)] := by
  simp [putFD]
theorem lA (x1 x2 x3 : Dt) : List.lookup ("arity" : Str) [(("children" : Str), x1), ("numbers", x2), ("arity", x3)] = some x3 := by
  have h2 : (("arity" : Str) == ("children" : Str)) = false := by decide +kernel
  have h3 : (("arity" : Str) == ("numbers" : Str)) = false := by decide +kernel
  simp [List.lookup, h2, h3]
theorem lN (x1 x2 x3 : Dt) : List.lookup ("numbers" : Str) [(("children" : Str), x1), ("numbers", x2), ("arity", x3)] = some x2 := by
  have h2 : (("numbers" : Str) == ("children" : Str)) = false := by decide +kernel
  simp [List.lookup, h2]
theorem lC (x1 x2 x3 : Dt) : List.lookup ("children" : Str) [(("children" : Str), x1), ("numbers", x2), ("arity", x3)] = some x1 := by
  simp [List.lookup]
theorem d_Forms___init__ (T : Txt P K mg a) (vs : List V) (H : Hp) (Q : VK) (E : XK) (h : sp_Forms___init__ K a vs H Q E) : t_Forms___init__ K a E { nx := fun _ H' => Q .non H', rt := Q } (L2.start N_Forms___init__ vs) H := h.body (N := N_Forms___init__) fun x ds M b ⟨hd, hM, hlen⟩ mu hw => by
  obtain ⟨o, rows⟩ := x
  have hd : ds = [.obj o, .lst (rows.map rowD)] := hd
  have hM : M = [(o, .d (.ins a.c_Forms []))] := hM
  have hlen : rows.length ≤ 900 := hlen
  subst hd hM
  have mu : b.mu = [o] := mu
  show StA b (t_Forms___init__ K a E) ⟨[some (.obj o), some (.lst (rows.map rowD)), none, none, none], [(o, .d (.ins a.c_Forms []))]⟩ _
  unfold t_Forms___init__
  refine s_seq (s_fldR (C := a.c_Forms) en_dT.r ?_ T.cl_Forms T.n_Forms_children)
  rintro d A1 ⟨p1, rfl, rfl⟩
  refine ⟨o, [], _, _, ev_var rfl, .there .here, by decide, ?_⟩
  refine s_seq (s_fldR (C := a.c_Forms) en_dL.r ?_ T.cl_Forms T.n_Forms_numbers)
  rintro d A1 ⟨p2, rfl, rfl⟩
  refine ⟨o, _, _, _, ev_var rfl, .there (.there .here), (by exact Nat.lt_of_lt_of_le (by decide : 1 < 2) (by decide)), ?_⟩
  refine s_seq (s_fldR (C := a.c_Forms) en_dK.r ?_ T.cl_Forms T.n_Forms_arity)
  rintro d A1 ⟨p3, rfl, rfl⟩
  refine ⟨o, _, _, _, ev_var rfl, .there (.there (.there .here)), ?_, ?_⟩
  · have h1 : ¬ ("children" : Str) = "numbers" := by decide +kernel
    simp [putFD, h1]
  rw [fF]
  have hs : sizeLine = 16777216 := sizeLine_eq
  refine s_for (fun i A => ∃ es g2 g3 g4, es.map (fun e => (e.1, e.2.2)) = nuD (rows.take i) ∧ A = ⟨[some (.obj o), some (.lst (rows.map rowD)), g2, g3, g4],
    [(p3, .d (.dK (arD (rows.take i)))), (p2, .dL es), (p1, .d (.dT (chD (rows.take i)))), (o, .d (.ins a.c_Forms [(("children" : Str), Dt.obj p1), ("numbers", .obj p2), ("arity", .obj p3)]))]⟩)
    (ei_seqL (ev_var rfl)) (Up.of ⟨[], none, none, none, rfl, rfl⟩) ?_ ?_
  · rintro i A hi ⟨es, g2, g3, g4, hes, rfl⟩
    have hi' : i < rows.length := by simpa using hi
    obtain ⟨⟨s, n, cs⟩, hget⟩ : ∃ r, rows[i]? = some r := ⟨rows[i], List.getElem?_eq_getElem hi'⟩
    have htk := take_one hget
    have hit : (rows.map rowD).getD i .non = .tup [keyD s, keyD n, .tup (cs.map keyD)] := by
      simp [List.getD, List.getElem?_map, hget, rowD]
    rw [hit]
    refine ⟨_, ga_tup (gas_cons ga_name (gas_cons ga_name (gas_cons ga_name gas_nil))), ?_⟩
    have hl1 : (chD (rows.take i)).length < sizeLine := by
      have := chD_len (rows.take i)
      have := List.length_take_le i rows
      omega
    have hl2 : (arD (rows.take i)).length < sizeLine := by
      have := arD_len (rows.take i)
      have := List.length_take_le i rows
      omega
    obtain ⟨hn1, hn2⟩ := nuD_len (rows.take i)
    have hti : (rows.take i).length ≤ 900 := by have := List.length_take_le i rows; rw [List.length_take]; omega
    have hl3 : es.length < sizeLine := by
      have : es.length = (nuD (rows.take i)).length := by rw [← hes, List.length_map]
      omega
    have hl4 : ∀ e ∈ es, e.2.2.length < sizeLine := fun e he => by
      have := hn2 (e.1, e.2.2) (by rw [← hes]; exact List.mem_map.mpr ⟨e, he, rfl⟩)
      simp at this
      omega
    -- self.children[(sort, number)] = tuple(children)
    refine s_seq (s_dputT (k := [s, n]) (ev_tupT (ev_var rfl)) (ev_fld (ev_var rfl) (.mov (by simp)) T.cl_Forms T.n_Forms_children (lC (.obj p1) (.obj p2) (.obj p3))) (ev_tup (ea_cons (ev_var rfl) (ea_cons (ev_var rfl) ea_nil))) (.there (.there .here)) hl1 ?_)
    -- self.numbers.setdefault(sort, []).append(number)
    refine s_seq (s_setdApp (k := s) (d := keyD n) (ev_fld (ev_var rfl) (.mov (by simp)) T.cl_Forms T.n_Forms_numbers (lN (.obj p1) (.obj p2) (.obj p3))) (ev_var rfl) (fun M => ev_var rfl) (fun p => .there .here) hl3 hl4 fun p => ?_)
    -- self.arity[number] = len(children)
    refine s_dputK (k := n) (ev_lenT (ev_var rfl)) (ev_fld (ev_var rfl) (.mov (by simp)) T.cl_Forms T.n_Forms_arity (lA (.obj p1) (.obj p2) (.obj p3))) (ev_var rfl) .here hl2 ?_
    refine Up.of ⟨appL es s (keyD n) p, some (keyD s), some (keyD n), some (.tup (cs.map keyD)), ?_, ?_⟩
    · rw [appL_app, hes, htk, nuD_app]
    · rw [htk, chD_app, arD_app, List.length_map]
      rfl
  · rintro A ⟨es, g2, g3, g4, hes, rfl⟩
    rw [List.length_map, List.take_length] at *
    refine ⟨_, _, ((tell_fldX (f := "arity") .here (lA _ _ _) (.there (.there .here)) (by rw [mu]; simp [own])).trans (tell_fldX (f := "numbers") .here (by rw [fA]; exact lN _ _ _) (.there .here) (by rw [mu]; simp [own]))).trans
      (tell_fldX (f := "children") .here (by rw [fA, fN]; exact lC _ _ _) .here (by rw [mu]; simp [own])), List.Sublist.refl _, rfl, ?_⟩
    rw [fA, fN, fC]
    show _ = [(o, MO.d (.ins a.c_Forms (formsF rows)))]
    unfold formsF
    rw [← hes]
    simp [datOf, List.map_map]
end
end KB
namespace KB
open PySem PySem.Spec PyProof.Rows L2 LD
section
variable {P : Program} {w : World} {K : PySem.W.Frag} {mg : Str → Option Value} {base : Heap} {a : Ad}
theorem getD_map {α β : Type} {l : List α} {i : Nat} {x : α} {d : β} (f : α → β) (h : l[i]? = some x) : (l.map f).getD i d = f x := by simp [List.getD, List.getElem?_map, h]
theorem get_some {α : Type} {l : List α} {i : Nat} (h : i < l.length) : ∃ x, l[i]? = some x := ⟨l[i], List.getElem?_eq_getElem h⟩
theorem drop_one {α : Type} {l : List α} {i : Nat} {x : α} (h : l[i]? = some x) : l.drop i = x :: l.drop (i + 1) := by
  obtain ⟨h1, h2⟩ := List.getElem?_eq_some_iff.mp h
  rw [List.drop_eq_getElem_cons h1, h2]
theorem last_map {α β : Type} {l : List α} {x : α} (f : α → β) (h : l.getLast? = some x) : (l.map f).getLast? = some (f x) := by rw [List.getLast?_map, h]; rfl
theorem dl_map {α β : Type} (f : α → β) (l : List α) : (l.map f).dropLast = l.dropLast.map f := (List.map_dropLast ..).symm
theorem last_ix {α : Type} {l : List α} {x : α} (h : l.getLast? = some x) : l[l.length - 1]? = some x := by rw [← List.getLast?_eq_getElem?]; exact h
theorem chk_nil (rows : List Row) (due : List Key) (k : Nat) : chk rows due [] k = if due = [] then none else some k := by unfold chk; rfl
theorem chk_cons (rows : List Row) {due : List Key} {s n : Key} {ns : List Key} {k : Nat} (h : due.getLast? = some s) : chk rows due (n :: ns) k = match chOf rows s n with | none => some k | some cs => chk rows (due.dropLast ++ cs.reverse) ns (k + 1) := by
  conv => lhs; unfold chk
  rw [h]
  try rfl
theorem fP1 (x d : Dt) : putFD "rules" d [(("names" : Str), x)] = [(("names" : Str), x), ("rules", d)] := by
  have h1 : ¬ ("names" : Str) = "rules" := by decide +kernel
  simp [putFD, h1]
theorem fP2 (x y d : Dt) : putFD "forms" d [(("names" : Str), x), ("rules", y)] = [(("names" : Str), x), ("rules", y), ("forms", d)] := by
  have h1 : ¬ ("names" : Str) = "forms" := by decide +kernel
  have h2 : ¬ ("rules" : Str) = "forms" := by decide +kernel
  simp [putFD, h1, h2]
theorem lR2 (x y : Dt) : List.lookup ("rules" : Str) [(("names" : Str), x), ("rules", y)] = some y := by
  have h2 : (("rules" : Str) == ("names" : Str)) = false := by decide +kernel
  simp [List.lookup, h2]
theorem lR3 (x y z : Dt) : List.lookup ("rules" : Str) [(("names" : Str), x), ("rules", y), ("forms", z)] = some y := by
  have h2 : (("rules" : Str) == ("names" : Str)) = false := by decide +kernel
  simp [List.lookup, h2]
theorem lF3 (x y z : Dt) : List.lookup ("forms" : Str) [(("names" : Str), x), ("rules", y), ("forms", z)] = some z := by
  have h2 : (("forms" : Str) == ("names" : Str)) = false := by decide +kernel
  have h3 : (("forms" : Str) == ("rules" : Str)) = false := by decide +kernel
  simp [List.lookup, h2, h3]
theorem raw_mem {rules : List RawRule} {i : Nat} {r : RawRule} (h : rules[i]? = some r) : rules.getD i ("", .inl 0, .inl 0, .inl 0) = r := by simp [List.getD, h]
theorem rows_len (rules : List RawRule) : (rowsOf rules).length = rules.length := by unfold rowsOf; simp
theorem rows_get {rules : List RawRule} {i : Nat} {r : RawRule} (h : rules[i]? = some r) : (rowsOf rules)[i]? = some (r.2.1, .inl (i : Int), childs r) := by
  unfold rowsOf
  have hi := (List.getElem?_eq_some_iff.mp h).1
  rw [List.getElem?_map, List.getElem?_range hi]
  simp [h]
theorem childs_len (r : RawRule) : (childs r).length ≤ 2 := by unfold childs; split <;> simp
theorem rows_ch {rules : List RawRule} : ∀ r ∈ rowsOf rules, r.2.2.length ≤ 100 := fun r hr => by
  unfold rowsOf at hr
  obtain ⟨i, _, rfl⟩ := List.mem_map.mp hr
  exact Nat.le_trans (childs_len _) (by decide)
theorem d_Grammar___init__ (T : Txt P K mg a) (vs : List V) (H : Hp) (Q : VK) (E : XK) (h : sp_Grammar___init__ K a vs H Q E) : t_Grammar___init__ K a E { nx := fun _ H' => Q .non H', rt := Q } (L2.start N_Grammar___init__ vs) H := h.body (N := N_Grammar___init__) fun x ds M b ⟨hd, hM, hda, hC⟩ mu hw => by
  obtain ⟨⟨o, C⟩, n, rd, rules, Mr⟩ := x
  have hd : ds = [.obj o, .int n, rd] := hd
  have hF : Cls K C ∧ NoAttr K C "names" ∧ NoAttr K C "rules" := by
    have hC : C = a.c_PairGrammar ∨ C = a.c_Grammar := hC
    rcases hC with e | e
    · rw [e]; exact ⟨T.cl_PairGrammar, T.n_PairGrammar_names, T.n_PairGrammar_rules⟩
    · rw [e]; exact ⟨T.cl_Grammar, T.n_Grammar_names, T.n_Grammar_rules⟩
  have hM : M = (o, .d (.ins C [])) :: Mr := hM
  have hda : DAt Mr rd (.lst rules) := hda
  subst hd hM
  show StA b (t_Grammar___init__ K a E) ⟨[some (.obj o), some (.int n), some rd], (o, .d (.ins C [])) :: Mr⟩ _
  have da : ∀ x, DAt (x :: Mr) rd (.lst rules) := fun x => by
    cases hda with
    | frz => exact .frz _
    | mov h => exact .mov (List.mem_cons_of_mem _ h)
  unfold t_Grammar___init__
  refine s_seq (s_if (et_val (ev_gt (ev_var rfl) ev_int)) (fun hc => ?_) fun hc => ?_)
  · exact s_raise (ea_cons ev_int ea_nil) rfl hw ⟨rfl, .inl ⟨of_decide_eq_true hc, rfl⟩⟩
  have h1 : n ≤ 300 := by have := of_decide_eq_false hc; omega
  refine s_next (s_seq (s_if (et_val (ev_gt (ev_lenX (ev_var rfl) (da _)) ev_int)) (fun hc => ?_) fun hc => ?_))
  · have := of_decide_eq_true hc
    exact s_raise (ea_cons ev_int ea_nil) rfl hw ⟨rfl, .inr ⟨h1, by show 900 < rules.length; omega, rfl⟩⟩
  have h2 : rules.length ≤ 900 := by have := of_decide_eq_false hc; omega
  refine s_next (s_seq (s_fld (C := C) (ev_var rfl) (ev_var rfl) .here (by decide) hF.1 hF.2.1 ?_))
  refine s_fld (C := C) (ev_tupX (ev_var rfl) (da _)) (ev_var rfl) .here (by exact Nat.lt_of_lt_of_le (by decide : 1 < 2) (by decide)) hF.1 hF.2.2 ?_
  refine ⟨_, _, Tell.refl, List.Sublist.refl _, rfl, h1, h2, ?_⟩
  show (o, MO.d (.ins C (putFD "rules" (.tup rules) (putFD "names" (.int n) [])))) :: Mr = _
  rw [show putFD "names" (.int n) [] = [(("names" : Str), Dt.int n)] from rfl, fP1]
theorem firstBad_at {n : Int} : ∀ {rules : List RawRule} {i k : Nat} {r : RawRule}, (∀ (j : Nat) (r : RawRule), j < i → rules[j]? = some r → okRule n r = true) → rules[i]? = some r → okRule n r = false → firstBad n rules k = some (k + i)
  | [], i, k, r, _, h, _ => by simp at h
  | x :: xs, 0, k, r, _, h, hr => by
    simp at h
    subst h
    unfold firstBad
    rw [if_neg (by rw [hr]; decide)]
    rfl
  | x :: xs, i + 1, k, r, h0, h, hr => by
    have hx := h0 0 x (by omega) rfl
    unfold firstBad
    rw [if_pos hx, firstBad_at (i := i) (fun j r' hj hr' => h0 (j + 1) r' (by omega) (by simpa using hr')) (by simpa using h) hr]
    congr 1
    omega
theorem firstBad_none {n : Int} : ∀ {rules : List RawRule} {k : Nat}, (∀ r ∈ rules, okRule n r = true) → firstBad n rules k = none
  | [], _, _ => rfl
  | x :: xs, k, h => by
    unfold firstBad
    rw [if_pos (h x List.mem_cons_self)]
    exact firstBad_none fun r hr => h r (List.mem_cons_of_mem _ hr)
theorem firstBad_ok {n : Int} : ∀ {rules : List RawRule} {k : Nat}, firstBad n rules k = none → ∀ r ∈ rules, okRule n r = true
  | [], _, _, r, hr => by cases hr
  | x :: xs, k, h, r, hr => by
    unfold firstBad at h
    by_cases hx : okRule n x = true
    · rw [if_pos hx] at h
      rcases List.mem_cons.mp hr with e | hr
      · rw [e]; exact hx
      · exact firstBad_ok h r hr
    · rw [if_neg hx] at h; cases h
theorem d_PairGrammar___init__ (T : Txt P K mg a) (vs : List V) (H : Hp) (Q : VK) (E : XK) (h : sp_PairGrammar___init__ K a vs H Q E) :
    tSeq (LX.tSup a.c_PairGrammar (sp_Grammar___init__ K a) (WE (fun cls d _ H => E cls d H)) (ta_PairGrammar___init__ K a E)) (t_PairGrammar___init__ K a E) { nx := fun _ H' => Q .non H', rt := Q } (L2.start N_PairGrammar___init__ vs) H := h.body (N := N_PairGrammar___init__) fun x ds M b ⟨hd, hM, hda⟩ mu hw => by
  obtain ⟨o, n, rd, rules, Mr⟩ := x
  have hd : ds = [.obj o, .int n, rd] := hd
  have hM : M = (o, .d (.ins a.c_PairGrammar [])) :: Mr := hM
  have hda : DAt Mr rd (.lst (rules.map rawD)) := hda
  subst hd hM
  have mu : b.mu = o :: Mr.flatMap own := mu
  show StA b _ ⟨[some (.obj o), some (.int n), some rd, none, none, none, none], (o, .d (.ins a.c_PairGrammar [])) :: Mr⟩ _
  unfold t_PairGrammar___init__ ta_PairGrammar___init__
  have hs : sizeLine = 16777216 := sizeLine_eq
  refine s_seq (s_supX (Ms := (o, .d (.ins a.c_PairGrammar [])) :: Mr) (Rm := []) ((o, a.c_PairGrammar), n, rd, rules.map rawD, Mr) rfl .here (ea_cons (ev_var rfl) (ea_cons (ev_var rfl) ea_nil)) (by simp) ⟨rfl, rfl, hda, .inl rfl⟩ hw (fun E' oo hx => ?_) fun d M' ⟨_, h1, h2, h3⟩ => ?_)
  · -- the base refuses: no such grammar
    show initX a n rules.length (firstBad n rules 0) E' oo
    obtain ⟨hC, ⟨h, ho⟩ | ⟨h1, h2, ho⟩⟩ := hx
    · exact .inl ⟨h, hC, ho⟩
    · have h2 : 900 < (rules.map rawD).length := h2
      rw [List.length_map] at h2
      exact .inr (.inl ⟨h1, h2, hC, ho⟩)
  subst h3
  have h1 : n ≤ 300 := h1
  have h2 : rules.length ≤ 900 := by simpa using h2
  show StA b _ ⟨[some (.obj o), some (.int n), some rd, none, none, none, none], (o, .d (.ins a.c_PairGrammar [(("names" : Str), .int n), ("rules", .tup (rules.map rawD))])) :: Mr ++ []⟩ _
  rw [List.append_nil]
  refine s_seq (s_asgF (ef_lst ea_nil) fun p => ?_)
  refine s_seq (s_for (fun i A => ∃ g5 g6, (∀ j r, j < i → rules[j]? = some r → okRule n r = true) ∧ A = ⟨[some (.obj o), some (.int n), some rd, none, some (.obj p), g5, g6],
      (p, .d (.lst (((rowsOf rules).take i).map rowD))) :: (o, .d (.ins a.c_PairGrammar [(("names" : Str), .int n), ("rules", .tup (rules.map rawD))])) :: Mr⟩)
    (LD.ei_enumT (ev_fld (ev_var rfl) (.mov (List.mem_cons_of_mem _ List.mem_cons_self)) T.cl_PairGrammar T.n_PairGrammar_rules (lR2 _ _))) (Up.of ⟨none, none, (fun j r h => absurd h (Nat.not_lt_zero _)), rfl⟩) ?_ ?_)
  · rintro i A hi ⟨g5, g6, hok, rfl⟩
    have hi' : i < rules.length := by simpa using hi
    obtain ⟨r, hr⟩ := get_some hi'
    rw [getD_map rawD hr]
    refine ⟨_, ga_tup (gas_cons ga_name (gas_cons ga_name gas_nil)), ?_⟩
    refine s_seq (s_if (et_not (et_B (ev_callN (r, n) (ea_cons (ev_var rfl) (ea_cons (ev_var rfl) ea_nil)) trivial rfl (fun d' h => h) (fun C o h => h)))) (fun hc => ?_) fun hc => ?_)
    · refine s_raise (ea_cons (ev_var rfl) ea_nil) rfl hw ?_
      have hbad : okRule n r = false := by
        cases e : okRule n r with
        | false => rfl
        | true => rw [show okRule (r, n).2 (r, n).1 = okRule n r from rfl, e] at hc; cases hc
      have hfb := firstBad_at (k := 0) hok hr hbad
      rw [Nat.zero_add] at hfb
      exact .inr (.inr ⟨h1, h2, i, hfb, rfl, rfl⟩)
    · have hokr : okRule n r = true := by
        cases e : okRule n r with
        | true => rfl
        | false => rw [show okRule (r, n).2 (r, n).1 = okRule n r from rfl, e] at hc; cases hc
      refine s_next (s_drop (ev_append (ev_var rfl) (ev_tup (ea_cons (ev_ixT (ev_var rfl) ev_int rfl) (ea_cons (ev_var rfl) (ea_cons (ev_callN r (ea_cons (ev_var rfl) ea_nil) trivial rfl (fun d' h => h) (fun C o h => h)) ea_nil)))) .here .here ?_) (Up.of ⟨some (.int (i : Int)), some (rawD r), ?_, ?_⟩))
      · rw [List.length_map, List.length_take]
        omega
      · intro j r' hj hr'
        rcases Nat.lt_succ_iff_lt_or_eq.mp hj with h | h
        · exact hok j r' h hr'
        · subst h
          rw [hr] at hr'
          cases hr'
          exact hokr
      · rw [take_one (rows_get hr), List.map_append]
        rfl
  · rintro A ⟨g5, g6, hok, rfl⟩
    have hall : ∀ r ∈ rules, okRule n r = true := fun r hr => by
      obtain ⟨j, hj⟩ := List.mem_iff_getElem?.mp hr
      exact hok j r (by rw [List.length_map]; exact (List.getElem?_eq_some_iff.mp hj).1) hj
    have e1 : (rowsOf rules).take (rules.map rawD).length = rowsOf rules := by rw [List.length_map, List.take_of_length_le (by rw [rows_len]; exact Nat.le_refl _)]
    rw [e1]
    refine s_fld (C := a.c_PairGrammar) (ev_makeX (fs := formsF (rowsOf rules)) (Ms := []) (Ms' := []) (Rm := (o, .d (.ins a.c_PairGrammar [(("names" : Str), .int n), ("rules", .tup (rules.map rawD))])) :: Mr) (fun q => (q, rowsOf rules))
      (ea_cons (ev_frzX (ev_var rfl) .here (by rw [mu]; intro y hy; simpa [own] using hy)) ea_nil) (by simp) (fun q => ⟨rfl, rfl, by rw [rows_len]; exact h2⟩) (fun q d M' ⟨h, h'⟩ => ⟨h, h'⟩) hw (fun q C oo h => h.elim)) (ev_var rfl) .here (by exact Nat.lt_of_lt_of_le (by decide : 2 < 3) (by decide)) T.cl_PairGrammar T.n_PairGrammar_forms ?_
    refine ⟨_, _, Tell.refl, List.Sublist.refl _, rfl, ⟨h1, h2, hall⟩, ?_⟩
    rw [fP2]
    rfl
end
end KB
namespace KB
open PySem PySem.Spec PyProof.Rows L2 LD
/-! ### the stack of pairs -/
theorem chOf_some {rules : List RawRule} {s : Key} {n : Int} {cs : List Key} (h : chOf (rowsOf rules) s (.inl n) = some cs) : ∃ r, 0 ≤ n ∧ rules[n.toNat]? = some r ∧ r.2.1 = s ∧ cs = childs r := by
  unfold chOf at h
  obtain ⟨r, h1, h2⟩ := Option.map_eq_some_iff.mp h
  have hm := List.mem_reverse.mp (List.mem_of_find?_eq_some h1)
  have hp : r.1 = s ∧ r.2.1 = Sum.inl n := by have := List.find?_some h1; exact of_decide_eq_true this
  unfold rowsOf at hm
  obtain ⟨i, hi, rfl⟩ := List.mem_map.mp hm
  have hi := List.mem_range.mp hi
  obtain ⟨hp1, hp2⟩ := hp
  have e : (i : Int) = n := Sum.inl.inj hp2
  refine ⟨rules[i], by omega, ?_, ?_, ?_⟩
  · rw [show n.toNat = i by omega, List.getElem?_eq_getElem hi]
  · rw [← hp1]; simp [List.getD, hi]
  · rw [← h2]; simp [List.getD, hi]
theorem chOf_of {rules : List RawRule} {i : Nat} {r : RawRule} (h : rules[i]? = some r) : chOf (rowsOf rules) r.2.1 (.inl (i : Int)) = some (childs r) := by
  have hm : (r.2.1, (Sum.inl (i : Int) : Key), childs r) ∈ (rowsOf rules).reverse := List.mem_reverse.mpr (List.mem_of_getElem? (rows_get h))
  cases e : chOf (rowsOf rules) r.2.1 (.inl (i : Int)) with
  | none =>
    unfold chOf at e
    rw [Option.map_eq_none_iff] at e
    have := List.find?_eq_none.mp e _ hm
    simp at this
  | some cs =>
    obtain ⟨r', h1, h2, h3, h4⟩ := chOf_some e
    have : ((i : Int)).toNat = i := by omega
    rw [this, h] at h2
    cases h2
    rw [h4]
theorem stackP_cons (rules : List RawRule) (n : Int) (ns : List Int) : stackP rules (n :: ns) = stepP (rules.getD n.toNat dR) (stackP rules ns) := rfl
theorem step_len (r : RawRule) (w : List Pair) (h : r.1 ≠ "leaf" → 2 ≤ w.length) : (stepP r w).length + (childs r).length = w.length + 1 := by
  unfold stepP childs
  by_cases e : r.1 = "leaf"
  · rw [if_pos e, if_pos e]; simp
  · rw [if_neg e, if_neg e]
    have := h e
    simp; omega
/-- behind valid numbers: as many pairs as were due -/
theorem stack_len (rules : List RawRule) : ∀ (ns : List Int) (due : List Key) (k : Nat), chk (rowsOf rules) due (ns.map Sum.inl) k = none → (stackP rules ns).length = due.length ∧ ∀ n ∈ ns, 0 ≤ n ∧ n.toNat < rules.length
  | [], due, k, h => by
    rw [List.map_nil, chk_nil] at h
    by_cases e : due = []
    · subst e; exact ⟨rfl, fun n hn => by cases hn⟩
    · rw [if_neg e] at h; cases h
  | n :: ns, due, k, h => by
    rw [List.map_cons] at h
    cases hd : due.getLast? with
    | none =>
      have e : due = [] := List.getLast?_eq_none_iff.mp hd
      subst e
      unfold chk at h
      cases h
    | some s =>
      rw [chk_cons _ hd] at h
      have hne : due ≠ [] := fun z => by subst z; simp at hd
      have hpos := List.length_pos_iff.mpr hne
      cases hc : chOf (rowsOf rules) s (.inl n) with
      | none => rw [hc] at h; cases h
      | some cs =>
        rw [hc] at h
        obtain ⟨r, h1, h2, h3, h4⟩ := chOf_some hc
        obtain ⟨ih1, ih2⟩ := stack_len rules ns _ _ h
        rw [List.length_append, List.length_dropLast, List.length_reverse, h4] at ih1
        have hr : rules.getD n.toNat dR = r := by simp [List.getD, h2]
        rw [stackP_cons, hr]
        have hcl : r.1 ≠ "leaf" → (childs r).length = 2 := fun e => by unfold childs; rw [if_neg e]; rfl
        have := step_len r (stackP rules ns) fun e => by have := hcl e; omega
        refine ⟨by omega, fun m hm => ?_⟩
        rcases List.mem_cons.mp hm with e | hm
        · rw [e]; exact ⟨h1, (List.getElem?_eq_some_iff.mp h2).1⟩
        · exact ih2 m hm
/-- for each suffix: the due stack that it answers -/
theorem stack_suffix (rules : List RawRule) : ∀ (ns : List Int) (due : List Key) (k : Nat), chk (rowsOf rules) due (ns.map Sum.inl) k = none → ∀ i, i < ns.length → ∃ r, (ns[i]?).bind (fun n => rules[n.toNat]?) = some r ∧ (∃ n, ns[i]? = some n ∧ 0 ≤ n) ∧ (r.1 ≠ "leaf" → 2 ≤ (stackP rules (ns.drop (i + 1))).length)
  | [], _, _, _, i, hi => by simp at hi
  | n :: ns, due, k, h, i, hi => by
    rw [List.map_cons] at h
    cases hd : due.getLast? with
    | none =>
      have e : due = [] := List.getLast?_eq_none_iff.mp hd
      subst e
      unfold chk at h
      cases h
    | some s =>
      rw [chk_cons _ hd] at h
      have hne : due ≠ [] := fun z => by subst z; simp at hd
      have hpos := List.length_pos_iff.mpr hne
      cases hc : chOf (rowsOf rules) s (.inl n) with
      | none => rw [hc] at h; cases h
      | some cs =>
        rw [hc] at h
        obtain ⟨r, h1, h2, h3, h4⟩ := chOf_some hc
        cases i with
        | zero =>
          refine ⟨r, h2, ⟨n, rfl, h1⟩, fun e => ?_⟩
          have hl := (stack_len rules ns _ _ h).1
          have hcl : (childs r).length = 2 := by unfold childs; rw [if_neg e]; rfl
          rw [List.length_append, List.length_reverse, h4] at hl
          show 2 ≤ (stackP rules ns).length
          omega
        | succ i => exact stack_suffix rules ns _ _ h i (by simpa using hi)
def okS (s : Str) : Prop := ∀ c ∈ s.cps.toList, c ∈ letters.cps.toList
def pl (p : Pair) : Nat := p.1.length + p.2.length
def okP (p : Pair) : Prop := okS p.1 ∧ okS p.2
theorem badL_neg : ∀ (l : List Nat) (m : Int) (k : Nat), badL l m k < 0 → (∀ c ∈ l, c ∈ letters.cps.toList) ∧ (l = [] ∨ (k + l.length : Int) ≤ m)
  | [], m, k, _ => ⟨fun c hc => (by cases hc), .inl rfl⟩
  | c :: l, m, k, h => by
    unfold badL at h
    by_cases e : m ≤ (k : Int) ∨ ¬ c ∈ letters.cps.toList
    · rw [if_pos e] at h; omega
    · rw [if_neg e] at h
      obtain ⟨h1, h2⟩ := badL_neg l m (k + 1) h
      have e1 : ¬ m ≤ (k : Int) := fun z => e (.inl z)
      have e2 : c ∈ letters.cps.toList := Classical.not_not.mp fun z => e (.inr z)
      refine ⟨fun x hx => ?_, .inr ?_⟩
      · rcases List.mem_cons.mp hx with q | q
        · rw [q]; exact e2
        · exact h1 x q
      · rcases h2 with q | q
        · subst q; simp; omega
        · simp at q ⊢; omega
theorem leaf_ok {x : Key} (h : isLeaf x = true) : ∃ s, x = .inr s ∧ okS s ∧ s.length ≤ 12 := by
  cases x with
  | inl i => cases h
  | inr s =>
    have h := of_decide_eq_true (show decide (badL s.cps.toList 12 0 < 0) = true from h)
    obtain ⟨h1, h2⟩ := badL_neg _ _ _ h
    refine ⟨s, rfl, h1, ?_⟩
    show s.cps.size ≤ 12
    rw [← Array.length_toList]
    rcases h2 with q | q
    · rw [q]; exact Nat.zero_le _
    · omega
theorem rule_leaf {n : Int} {r : RawRule} (h : okRule n r = true) (e : r.1 = "leaf") : ∃ s t, r.2.2.1 = .inr s ∧ r.2.2.2 = .inr t ∧ okS s ∧ okS t ∧ s.length ≤ 12 ∧ t.length ≤ 12 := by
  unfold okRule at h
  rw [if_pos e] at h
  simp only [Bool.and_eq_true] at h
  obtain ⟨_, _, h1, h2⟩ := h
  obtain ⟨s, e1, e2, e3⟩ := leaf_ok h1
  obtain ⟨t, f1, f2, f3⟩ := leaf_ok h2
  exact ⟨s, t, e1, f1, e2, f2, e3, f3⟩
theorem okS_app {s t : Str} (h1 : okS s) (h2 : okS t) : okS (s ++ t) := fun c hc => by
  rw [PySem.Str.cps_append, Array.toList_append] at hc
  rcases List.mem_append.mp hc with h | h
  · exact h1 c h
  · exact h2 c h
theorem join_ok (k : Str) {p q : Pair} (hp : okP p) (hq : okP q) : okP (joinP k p q) ∧ pl (joinP k p q) = pl p + pl q := by
  unfold joinP okP pl
  split
  · exact ⟨⟨okS_app hp.1 hq.1, okS_app hq.2 hp.2⟩, by simp only [str_len]; omega⟩
  · split
    · exact ⟨⟨okS_app (okS_app hp.1 hp.2) hq.1, hq.2⟩, by simp only [str_len]; omega⟩
    · exact ⟨⟨hp.1, okS_app (okS_app hp.2 hq.1) hq.2⟩, by simp only [str_len]; omega⟩
theorem okS_nil : okS "" := fun c hc => by
  have : ("" : Str).cps.toList = [] := by decide +kernel
  rw [this] at hc
  cases hc
theorem okP_nil : okP ("", "") := ⟨okS_nil, okS_nil⟩
def tot (w : List Pair) : Nat := (w.map pl).foldr (· + ·) 0
theorem tot_app (v w : List Pair) : tot (v ++ w) = tot v + tot w := by
  unfold tot
  induction v with
  | nil => simp
  | cons p v ih => simp at ih ⊢; omega
theorem last_split {w : List Pair} (h : w ≠ []) : w = w.dropLast ++ [w.getLastD ("", "")] := by
  rw [List.getLastD_eq_getLast?, List.getLast?_eq_some_getLast h, Option.getD_some]
  exact (List.dropLast_concat_getLast h).symm
theorem step_ok {n : Int} {r : RawRule} {w : List Pair} (hr : okRule n r = true) (hw : ∀ p ∈ w, okP p) (hl : r.1 ≠ "leaf" → 2 ≤ w.length) : (∀ p ∈ stepP r w, okP p) ∧ tot (stepP r w) ≤ tot w + 24 := by
  unfold stepP
  by_cases e : r.1 = "leaf"
  · rw [if_pos e]
    obtain ⟨s, t, h1, h2, h3, h4, h5, h6⟩ := rule_leaf hr e
    rw [h1, h2]
    refine ⟨fun p hp => ?_, ?_⟩
    · rcases List.mem_append.mp hp with h | h
      · exact hw p h
      · have : p = (s, t) := by simpa [strK] using h
        rw [this]; exact ⟨h3, h4⟩
    · rw [tot_app]
      show tot w + (pl (s, t) + 0) ≤ _
      unfold pl
      show tot w + (s.length + t.length + 0) ≤ _
      omega
  · rw [if_neg e]
    have h2 := hl e
    have hne : w ≠ [] := fun z => by subst z; simp at h2
    have hne2 : w.dropLast ≠ [] := fun z => by have := congrArg List.length z; simp at this; omega
    have e1 := last_split hne
    have e2 := last_split hne2
    have m1 : w.getLastD ("", "") ∈ w := by rw [e1]; simp
    have m2 : w.dropLast.getLastD ("", "") ∈ w := by
      have : w.dropLast.getLastD ("", "") ∈ w.dropLast := by rw [e2]; simp
      exact List.dropLast_subset _ this
    obtain ⟨j1, j2⟩ := join_ok r.1 (hw _ m1) (hw _ m2)
    refine ⟨fun p hp => ?_, ?_⟩
    · rcases List.mem_append.mp hp with h | h
      · exact hw p (List.dropLast_subset _ (List.dropLast_subset _ h))
      · rw [List.mem_singleton.mp h]; exact j1
    · have t1 : tot w = tot w.dropLast + pl (w.getLastD ("", "")) := by
        conv => lhs; rw [e1, tot_app]
        rfl
      have t2 : tot w.dropLast = tot w.dropLast.dropLast + pl (w.dropLast.getLastD ("", "")) := by
        conv => lhs; rw [e2, tot_app]
        rfl
      rw [tot_app]
      show _ + (pl _ + 0) ≤ _
      rw [j2]
      omega
theorem stack_ok {n : Int} {rules : List RawRule} (hg : ∀ r ∈ rules, okRule n r = true) : ∀ (ns : List Int) (due : List Key) (k : Nat), chk (rowsOf rules) due (ns.map Sum.inl) k = none → (∀ p ∈ stackP rules ns, okP p) ∧ tot (stackP rules ns) ≤ 24 * ns.length
  | [], _, _, _ => ⟨fun p hp => (by cases hp), Nat.zero_le _⟩
  | m :: ns, due, k, h => by
    have h0 := h
    obtain ⟨r, h1, ⟨m', h2, h3⟩, h4⟩ := stack_suffix rules (m :: ns) due k h 0 (by simp)
    have h1 : rules[m.toNat]? = some r := h1
    rw [List.map_cons] at h
    cases hd : due.getLast? with
    | none =>
      have e : due = [] := List.getLast?_eq_none_iff.mp hd
      subst e
      unfold chk at h
      cases h
    | some s =>
      rw [chk_cons _ hd] at h
      cases hc : chOf (rowsOf rules) s (.inl m) with
      | none => rw [hc] at h; cases h
      | some cs =>
        rw [hc] at h
        obtain ⟨i1, i2⟩ := stack_ok hg ns _ _ h
        have hr : rules.getD m.toNat dR = r := by simp [List.getD, h1]
        rw [stackP_cons, hr]
        obtain ⟨s1, s2⟩ := step_ok (hg r (List.mem_of_getElem? h1)) i1 h4
        refine ⟨s1, ?_⟩
        rw [List.length_cons]
        omega
theorem chk_suffix (rows : List Row) : ∀ (ns : List Key) (due : List Key) (k i : Nat), chk rows due ns k = none → i ≤ ns.length → ∃ due' k', chk rows due' (ns.drop i) k' = none
  | ns, due, k, 0, h, _ => ⟨due, k, h⟩
  | [], due, k, i + 1, h, hi => by simp at hi
  | n :: ns, due, k, i + 1, h, hi => by
    cases hd : due.getLast? with
    | none =>
      have e : due = [] := List.getLast?_eq_none_iff.mp hd
      subst e
      unfold chk at h
      cases h
    | some s =>
      rw [chk_cons _ hd] at h
      cases hc : chOf rows s n with
      | none => rw [hc] at h; cases h
      | some cs =>
        rw [hc] at h
        exact chk_suffix rows ns _ _ i h (by simpa using hi)
theorem tot_mem {w : List Pair} {p : Pair} (h : p ∈ w) : pl p ≤ tot w := by
  unfold tot
  induction w with
  | nil => cases h
  | cons q w ih =>
    rcases List.mem_cons.mp h with e | h
    · subst e; simp
    · have := ih h
      simp at this ⊢; omega
end KB
namespace KB
open PySem PySem.Spec PyProof.Rows L2 LD
section
variable {P : Program} {w : World} {K : PySem.W.Frag} {mg : Str → Option Value} {base : Heap} {a : Ad}
theorem atI_in {α : Type} {xs : List α} {i : Int} (h0 : 0 ≤ i) (h1 : i < xs.length) : ∃ x, L2.atI xs i = some x ∧ x ∈ xs := by
  obtain ⟨j, rfl⟩ : ∃ j : Nat, i = j := ⟨i.toNat, by omega⟩
  have hj : j < xs.length := by omega
  exact ⟨xs[j], atI_nat (List.getElem?_eq_getElem hj), List.getElem_mem hj⟩
theorem mod_in (i : Int) {j : Int} (h : 0 < j) : 0 ≤ i % j ∧ i % j < j := ⟨Int.emod_nonneg _ (by omega), Int.emod_lt_of_pos _ h⟩
theorem d__law_row (vs : List V) (H : Hp) (Q : VK) (E : XK) (h : sp__law_row K a vs H Q E) : t__law_row K a E { nx := fun _ H' => Q .non H', rt := Q } (L2.start N__law_row vs) H := h.body (N := N__law_row) fun p ns ds b sc hn hd => by
  subst hd
  show StA b (t__law_row K a E) ⟨[some (.obj p), some (.int 226), none, none, none, none, none], []⟩ ⟨fun _ => ∃ row, Dt.non = intsD row ∧ okRow row, fun _ => False, fun _ => False, fun d _ => ∃ row, d = intsD row ∧ okRow row⟩
  have hs : sizeLine = 16777216 := sizeLine_eq
  have mu : b.mu = [] := sc.2
  unfold t__law_row
  refine s_seq (s_asg ev_int ?_)
  refine s_seqI (fun A => ∃ rest, 0 ≤ rest ∧ A = ⟨[some (.obj p), some (.int 226), some (.int rest), none, none, none, none], []⟩) ?_ ?_
  · cases ns with
    | nil => exact s_if (c := false) ((et_and (c' := true) (et_val (ev_gt (ev_lenSc sc (ev_var rfl)) ev_int)) (fun hc => by simp at hc)).is (by simp)) (fun hc => by cases hc) fun _ => s_next (Up.of ⟨0, by decide, rfl⟩)
    | cons z r =>
      have hz : L2.atI (z :: r) 0 = some z := atI_nat (j := 0) rfl
      refine s_if (et_and (et_val (ev_gt (ev_lenSc sc (ev_var rfl)) ev_int)) fun _ => et_val (ev_ge (ev_ixSc sc (ev_var rfl) ev_int hz) (ev_pow ev_int ev_int ⟨by decide, by decide, by decide⟩))) (fun hc => ?_) fun hc => ?_
      · refine s_asg (ev_ixSc sc (ev_var rfl) ev_int hz) (Up.of ⟨z, ?_, rfl⟩)
        have h2 := of_decide_eq_true ((Bool.and_eq_true _ _).mp hc).2
        have : (0 : Int) ≤ 10 ^ (18 : Int).toNat := by decide
        omega
      · exact s_next (Up.of ⟨0, by decide, rfl⟩)
  rintro A ⟨rest, hrest, rfl⟩
  refine s_seq (s_asgF (ef_lst ea_nil) fun q => ?_)
  refine s_seq (s_asg ev_int ?_)
  refine s_seq (s_for (fun i A => ∃ rest mixed row g5 g6, 0 ≤ rest ∧ 0 ≤ mixed ∧ mixed < 2147483647 ∧ row.length = i ∧ (∀ z ∈ row, 0 ≤ z ∧ z < 997) ∧ A = ⟨[some (.obj p), some (.int 226), some (.int rest), some (.obj q), some (.int mixed), g5, g6], [(q, .d (.lst (row.map Dt.int)))]⟩)
    (ei_rng1 (ea_cons (ev_var rfl) ea_nil) (by decide) (by decide)) (Up.of ⟨rest, 12345, [], none, none, hrest, by decide, by decide, rfl, (fun z hz => by cases hz), rfl⟩) ?_ ?_)
  · rintro i A hi ⟨rest, mixed, row, g5, g6, h0, h1, h2, h3, h4, rfl⟩
    have hi' : i < 226 := by simpa using hi
    refine ⟨_, ga_name, ?_⟩
    refine s_seq (s_asg (ev_var rfl) ?_)
    refine s_seqI (fun A => ∃ cell, A = ⟨[some (.obj p), some (.int 226), some (.int rest), some (.obj q), some (.int mixed), some (.int (0 + (i : Nat))), some (.int cell)], [(q, .d (.lst (row.map Dt.int)))]⟩) ?_ ?_
    · refine s_if (et_val (ev_gt (ev_lenSc sc (ev_var rfl)) ev_int)) (fun hc => ?_) fun hc => ?_
      · have hpos : (0 : Int) < ns.length := of_decide_eq_true hc
        have hmin : (0 : Int) < (if (63 : Int) < (ns.length : Int) then (63 : Int) else (ns.length : Int)) ∧ (if (63 : Int) < (ns.length : Int) then (63 : Int) else (ns.length : Int)) ≤ (ns.length : Int) := by split <;> omega
        have hm := mod_in (0 + (i : Nat)) hmin.1
        obtain ⟨z, hz, _⟩ := atI_in (xs := ns) hm.1 (by omega)
        exact s_asg (ev_ixSc sc (ev_var rfl) (ev_mod (ev_intI (ev_var rfl)) (ev_min2 (ev_lenSc sc (ev_var rfl)) ev_int) hmin.1) hz) (Up.of ⟨z, rfl⟩)
      · exact s_next (Up.of ⟨_, rfl⟩)
    rintro A ⟨cell, rfl⟩
    have hc := mod_in cell (j := 1000003) (by decide)
    refine s_seq (s_asg (ev_mod (ev_intI (ev_add (ev_add (ev_mul (ev_var rfl) ev_int (.inr (by decide))) (ev_mul (ev_mod (ev_intI (ev_var rfl)) ev_int (by decide)) ev_int (.inr (by decide)))) (ev_mul (ev_var rfl) ev_int (.inr (by decide))))) ev_int (by decide)) ?_)
    have hm := mod_in (mixed * 48271 + cell % 1000003 * 69621 + (0 + (i : Nat)) * 7907) (j := 2147483647) (by decide)
    refine s_if (et_val (ev_gt (ev_var rfl) ev_int)) (fun _ => ?_) fun _ => ?_
    · refine s_seq (s_drop (ev_append (ev_var rfl) (ev_mod (ev_intI (ev_var rfl)) ev_int (by decide)) .here .here (by rw [List.length_map]; omega)) ?_)
      refine s_asg (ev_div (ev_var rfl) ev_int ⟨by decide, by decide⟩) (Up.of ⟨rest / 997, _, row ++ [rest % 997], some (.int (0 + (i : Nat))), some (.int cell), Int.ediv_nonneg h0 (by decide), hm.1, hm.2, by simp [h3], fun z hz => ?_, by rw [List.map_append]; rfl⟩)
      rcases List.mem_append.mp hz with h | h
      · exact h4 z h
      · rw [List.mem_singleton.mp h]; exact mod_in _ (by decide)
    · refine s_drop (ev_append (ev_var rfl) (ev_mod (ev_intI (ev_div (ev_var rfl) ev_int ⟨by decide, by decide⟩)) ev_int (by decide)) .here .here (by rw [List.length_map]; omega)) (Up.of ⟨rest, _, row ++ [(mixed * 48271 + cell % 1000003 * 69621 + (0 + (i : Nat)) * 7907) % 2147483647 / 11 % 997], some (.int (0 + (i : Nat))), some (.int cell), h0, hm.1, hm.2, by simp [h3], fun z hz => ?_, by rw [List.map_append]; rfl⟩)
      rcases List.mem_append.mp hz with h | h
      · exact h4 z h
      · rw [List.mem_singleton.mp h]; exact mod_in _ (by decide)
  · rintro A ⟨rest, mixed, row, g5, g6, h0, h1, h2, h3, h4, rfl⟩
    exact s_ret (ev_frz (ev_var rfl) .here (by rw [mu]; simp)) ⟨row, rfl, h3, h4⟩
theorem letters_ok (i : Int) (h0 : 0 ≤ i) (h1 : i < 26) : ∃ n, L2.atI letters.cps.toList i = some n ∧ n ∈ letters.cps.toList := atI_in h0 (by
  have : letters.cps.toList.length = 26 := by decide +kernel
  omega)
end
end KB
/-! _law_same: plain data compared with itself -/
namespace LD
open PySem L2
theorem smOk_succ : ∀ (n : Nat) {d : Dt}, smOk n d = true → smOk (n + 1) d = true := by
  intro n
  induction n with
  | zero =>
    intro d h
    cases d <;> first | rfl | exact h | cases h
  | succ n ih =>
    intro d h
    cases d with
    | lst ds => exact List.all_eq_true.mpr fun x hx => ih (List.all_eq_true.mp h x hx)
    | tup ds => exact List.all_eq_true.mpr fun x hx => ih (List.all_eq_true.mp h x hx)
    | _ => first | rfl | exact h | cases h
def pr2 (d : Dt) : Dt := .tup [d, d]
theorem szD_pos (d : Dt) : 1 ≤ szD d := by
  cases d <;> simp [szD]
end LD
namespace KB
open PySem PySem.Spec PyProof.Rows L2 LD
section
variable {P : Program} {w : World} {K : PySem.W.Frag} {mg : Str → Option Value} {base : Heap} {a : Ad}
theorem d__law_same (vs : List V) (H : Hp) (Q : VK) (E : XK) (h : sp__law_same K a vs H Q E) : t__law_same K a E { nx := fun _ H' => Q .non H', rt := Q } (L2.start N__law_same vs) H := h.body (N := N__law_same) fun x b ok mu hw => by
  obtain ⟨hok, hsz⟩ : smOk 40 x = true ∧ szD x ≤ 100000 := ok
  have hs : sizeLine = 16777216 := sizeLine_eq
  show StA b (t__law_same K a E) ⟨[some x, some x, none, none, none, none, none], []⟩ _
  unfold t__law_same
  refine s_seq (s_asgF (ef_lst (ea_cons (ev_tup (ea_cons (ev_var rfl) (ea_cons (ev_var rfl) ea_nil))) ea_nil)) fun p => ?_)
  have hlen : ∀ l : List Dt, l.length ≤ szDs l := fun l => by
    induction l with
    | nil => exact Nat.zero_le _
    | cons d ds ih => rw [szDs, List.length_cons]; have := szD_pos d; omega
  refine s_seq (s_for (P := ⟨fun A => StA b (tRet _) A _, _, _, _⟩) (fun i A => ∃ (xs : List Dt) (g3 g4 g5 g6 : Option Dt), (∀ y ∈ xs, smOk 40 y = true) ∧ szDs xs + i ≤ 100000 ∧ A = ⟨[some x, some x, some (.obj p), g3, g4, g5, g6], [(p, .d (.lst (xs.map pr2)))]⟩)
    (ei_rng1n (n := 200000) (ea_cons ev_int ea_nil) (by decide)) (Up.of ⟨[x], none, none, none, none, by simpa using hok, by simp only [szDs]; omega, rfl⟩) ?_ ?_)
  · rintro i A hi ⟨xs, g3, g4, g5, g6, h1, h2, rfl⟩
    refine ⟨_, ga_name, ?_⟩
    have hsm : smOk 42 (.lst (xs.map pr2)) = true := List.all_eq_true.mpr fun y hy => by
      obtain ⟨z, hz, rfl⟩ := List.mem_map.mp hy
      have := h1 z hz
      show ([z, z].all (smOk 40)) = true
      simp [this]
    refine s_seq (s_if (et_val (ev_eqNil 41 (ev_var rfl) (ev_lst ea_nil) (.mov List.mem_cons_self) hsm (by decide))) (fun _ => s_ret ev_bl rfl) fun hc => s_next ?_)
    have hne : xs ≠ [] := fun z => by subst z; cases hc
    obtain ⟨y, hy⟩ : ∃ h, xs.getLast? = some h := ⟨_, List.getLast?_eq_some_getLast hne⟩
    have hym := h1 y (List.mem_of_getLast? hy)
    refine s_seq (s_tgt (d := pr2 y) (ev_pop (ev_var rfl) .here (last_ix (last_map pr2 hy))) (ga_tup (gas_cons ga_name (gas_cons ga_name gas_nil))) ?_)
    rw [← List.map_dropLast]
    have hspl : xs.dropLast ++ [y] = xs := by
      obtain ⟨ys, rfl⟩ := List.getLast?_eq_some_iff.mp hy
      rw [List.dropLast_concat]
    have hsz2 : szDs xs = szDs xs.dropLast + szD y := by
      conv => lhs; rw [← hspl]
      rw [szDs_app]
      simp [szDs]
    have hdl : ∀ z ∈ xs.dropLast, smOk 40 z = true := fun z hz => h1 z (List.dropLast_subset _ hz)
    have hyp := szD_pos y
    have fin : ∀ {g6 : Option Dt} {A' : Abs}, A' = ⟨[some x, some x, some (.obj p), some (.int (0 + (i : Nat))), some y, some y, g6], [(p, .d (.lst (xs.dropLast.map pr2)))]⟩ → Up (fun A => ∃ (xs : List Dt) (g3 g4 g5 g6 : Option Dt), (∀ y ∈ xs, smOk 40 y = true) ∧ szDs xs + (i + 1) ≤ 100000 ∧ A = ⟨[some x, some x, some (.obj p), g3, g4, g5, g6], [(p, .d (.lst (xs.map pr2)))]⟩) A' := fun hA =>
      Up.of ⟨xs.dropLast, _, _, _, _, hdl, by omega, hA⟩
    have isi : ∀ {γ : List (Option Dt)} {M : List (Addr × MO)} {kk : Nat} {t u : String} (d : Dt) (r : Bool), γ[kk]? = some (some d) → TyD (.type t) d → PySem.W.kitOne K (.type t) (.type u) = some r → EvM b (tCB (rIsi K) (tCons (tVar kk) (tCons (tC (.ty u)) tNil))) ⟨γ, M⟩ (.bl r) ⟨γ, M⟩ := fun d r h1 h2 h3 => ev_isi (ev_var h1) ev_ty rfl h2 h3
    cases y with
    | non =>
      refine s_if (et_val (ev_isN (ev_var rfl) ev_non)) (fun _ => ?_) (fun h => by cases h)
      exact s_if (et_val (ev_notN (ev_var rfl) ev_non)) (fun h => by cases h) fun _ => s_next (fin rfl)
    | bl v =>
      refine s_if (et_val (ev_isN (ev_var rfl) ev_non)) (fun h => by cases h) fun _ => ?_
      refine s_if (et_B (isi (t := "bool") (.bl v) true rfl rfl (by first | rfl | decide +kernel))) (fun _ => ?_) (fun h => by cases h)
      exact s_if (c := false) ((et_or (et_not (et_B (isi (t := "bool") (.bl v) true rfl rfl (by first | rfl | decide +kernel)))) fun _ => et_val (ev_neB (ev_var rfl) (ev_var rfl))).is (by simp)) (fun h => by cases h) fun _ => s_next (fin rfl)
    | int v =>
      refine s_if (et_val (ev_isN (ev_var rfl) ev_non)) (fun h => by cases h) fun _ => ?_
      refine s_if (et_B (isi (t := "int") (.int v) false rfl rfl (by first | rfl | decide +kernel))) (fun h => by cases h) fun _ => ?_
      refine s_if (et_B (isi (t := "int") (.int v) true rfl rfl (by first | rfl | decide +kernel))) (fun _ => ?_) (fun h => by cases h)
      exact s_if (c := false) ((et_or (et_not (et_B (isi (t := "int") (.int v) true rfl rfl (by first | rfl | decide +kernel)))) fun _ => et_or (et_B (isi (t := "int") (.int v) false rfl rfl (by first | rfl | decide +kernel))) fun _ => et_val (ev_neI (ev_var rfl) (ev_var rfl))).is (by simp)) (fun h => by cases h) fun _ => s_next (fin rfl)
    | str v =>
      refine s_if (et_val (ev_isN (ev_var rfl) ev_non)) (fun h => by cases h) fun _ => ?_
      refine s_if (et_B (isi (t := "str") (.str v) false rfl rfl (by first | rfl | decide +kernel))) (fun h => by cases h) fun _ => ?_
      refine s_if (et_B (isi (t := "str") (.str v) false rfl rfl (by first | rfl | decide +kernel))) (fun h => by cases h) fun _ => ?_
      refine s_if (et_B (isi (t := "str") (.str v) true rfl rfl (by first | rfl | decide +kernel))) (fun _ => ?_) (fun h => by cases h)
      exact s_if (c := false) ((et_or (et_not (et_B (isi (t := "str") (.str v) true rfl rfl (by first | rfl | decide +kernel)))) fun _ => et_val (ev_neS (ev_var rfl) (ev_var rfl))).is (by simp)) (fun h => by cases h) fun _ => s_next (fin rfl)
    | lst ds =>
      have hd : ∀ z ∈ ds, smOk 40 z = true := fun z hz => smOk_succ 39 (List.all_eq_true.mp hym z hz)
      rw [szD] at hsz2
      have hdl2 := hlen ds
      have hxl := hlen xs.dropLast
      refine s_if (et_val (ev_isN (ev_var rfl) ev_non)) (fun h => by cases h) fun _ => ?_
      refine s_if (et_B (isi (t := "list") (.lst ds) false rfl rfl (by first | rfl | decide +kernel))) (fun h => by cases h) fun _ => ?_
      refine s_if (et_B (isi (t := "list") (.lst ds) false rfl rfl (by first | rfl | decide +kernel))) (fun h => by cases h) fun _ => ?_
      refine s_if (et_B (isi (t := "list") (.lst ds) false rfl rfl (by first | rfl | decide +kernel))) (fun h => by cases h) fun _ => ?_
      refine s_seq (s_if (c := false) ((et_or (et_val (ev_neB (isi (t := "list") (.lst ds) true rfl rfl (by first | rfl | decide +kernel)) (isi (t := "list") (.lst ds) true rfl rfl (by first | rfl | decide +kernel)))) fun _ => et_val (ev_neB (isi (t := "list") (.lst ds) false rfl rfl (by first | rfl | decide +kernel)) (isi (t := "list") (.lst ds) false rfl rfl (by first | rfl | decide +kernel)))).is (by simp)) (fun h => by cases h) fun _ => s_next ?_)
      refine s_seq (s_if (c := false) ((et_val (ev_neI (ev_lenL (ev_var rfl)) (ev_lenL (ev_var rfl)))).is (by simp)) (fun h => by cases h) fun _ => s_next ?_)
      refine s_for (fun j A => ∃ g6, A = ⟨[some x, some x, some (.obj p), some (.int (0 + (i : Nat))), some (.lst ds), some (.lst ds), g6], [(p, .d (.lst ((xs.dropLast ++ ds.take j).map pr2)))]⟩) (ei_rng1n (n := ds.length) (ea_cons (ev_lenL (ev_var rfl)) ea_nil) (by omega)) (Up.of ⟨g6, by rw [List.take_zero, List.append_nil]; rfl⟩) ?_ ?_
      · rintro j A hj ⟨g6, rfl⟩
        obtain ⟨z, hz⟩ : ∃ z, ds[j]? = some z := ⟨_, List.getElem?_eq_getElem hj⟩
        have h0 : (0 : Int) + (j : Nat) = (j : Int) := Int.zero_add _
        refine ⟨_, by rw [h0]; exact ga_name, ?_⟩
        refine s_drop (ev_append (ev_var rfl) (ev_tup (ea_cons (ev_ixL (ev_var rfl) (ev_var rfl) (atI_nat hz)) (ea_cons (ev_ixL (ev_var rfl) (ev_var rfl) (atI_nat hz)) ea_nil))) .here .here (by rw [List.length_map, List.length_append, List.length_take]; omega)) (Up.of ⟨some (.int (j : Int)), ?_⟩)
        have e : ds.take (j + 1) = ds.take j ++ [z] := by rw [List.take_succ, hz]; rfl
        rw [e, ← List.append_assoc, List.map_append (l₂ := [z])]
        rfl
      · rintro A ⟨g6, rfl⟩
        rw [List.take_length]
        refine Up.of ⟨xs.dropLast ++ ds, _, _, _, _, fun z hz => ?_, ?_, rfl⟩
        · rcases List.mem_append.mp hz with h | h
          · exact hdl z h
          · exact hd z h
        · rw [szDs_app]; omega
    | tup ds =>
      have hd : ∀ z ∈ ds, smOk 40 z = true := fun z hz => smOk_succ 39 (List.all_eq_true.mp hym z hz)
      rw [szD] at hsz2
      have hdl2 := hlen ds
      have hxl := hlen xs.dropLast
      refine s_if (et_val (ev_isN (ev_var rfl) ev_non)) (fun h => by cases h) fun _ => ?_
      refine s_if (et_B (isi (t := "tuple") (.tup ds) false rfl rfl (by first | rfl | decide +kernel))) (fun h => by cases h) fun _ => ?_
      refine s_if (et_B (isi (t := "tuple") (.tup ds) false rfl rfl (by first | rfl | decide +kernel))) (fun h => by cases h) fun _ => ?_
      refine s_if (et_B (isi (t := "tuple") (.tup ds) false rfl rfl (by first | rfl | decide +kernel))) (fun h => by cases h) fun _ => ?_
      refine s_seq (s_if (c := false) ((et_or (et_val (ev_neB (isi (t := "tuple") (.tup ds) false rfl rfl (by first | rfl | decide +kernel)) (isi (t := "tuple") (.tup ds) false rfl rfl (by first | rfl | decide +kernel)))) fun _ => et_val (ev_neB (isi (t := "tuple") (.tup ds) true rfl rfl (by first | rfl | decide +kernel)) (isi (t := "tuple") (.tup ds) true rfl rfl (by first | rfl | decide +kernel)))).is (by simp)) (fun h => by cases h) fun _ => s_next ?_)
      refine s_seq (s_if (c := false) ((et_val (ev_neI (ev_lenT (ev_var rfl)) (ev_lenT (ev_var rfl)))).is (by simp)) (fun h => by cases h) fun _ => s_next ?_)
      refine s_for (fun j A => ∃ g6, A = ⟨[some x, some x, some (.obj p), some (.int (0 + (i : Nat))), some (.tup ds), some (.tup ds), g6], [(p, .d (.lst ((xs.dropLast ++ ds.take j).map pr2)))]⟩) (ei_rng1n (n := ds.length) (ea_cons (ev_lenT (ev_var rfl)) ea_nil) (by omega)) (Up.of ⟨g6, by rw [List.take_zero, List.append_nil]; rfl⟩) ?_ ?_
      · rintro j A hj ⟨g6, rfl⟩
        obtain ⟨z, hz⟩ : ∃ z, ds[j]? = some z := ⟨_, List.getElem?_eq_getElem hj⟩
        have h0 : (0 : Int) + (j : Nat) = (j : Int) := Int.zero_add _
        refine ⟨_, by rw [h0]; exact ga_name, ?_⟩
        refine s_drop (ev_append (ev_var rfl) (ev_tup (ea_cons (ev_ixT (ev_var rfl) (ev_var rfl) (atI_nat hz)) (ea_cons (ev_ixT (ev_var rfl) (ev_var rfl) (atI_nat hz)) ea_nil))) .here .here (by rw [List.length_map, List.length_append, List.length_take]; omega)) (Up.of ⟨some (.int (j : Int)), ?_⟩)
        have e : ds.take (j + 1) = ds.take j ++ [z] := by rw [List.take_succ, hz]; rfl
        rw [e, ← List.append_assoc, List.map_append (l₂ := [z])]
        rfl
      · rintro A ⟨g6, rfl⟩
        rw [List.take_length]
        refine Up.of ⟨xs.dropLast ++ ds, _, _, _, _, fun z hz => ?_, ?_, rfl⟩
        · rcases List.mem_append.mp hz with h | h
          · exact hdl z h
          · exact hd z h
        · rw [szDs_app]; omega
    | _ => cases hym
  · rintro A ⟨xs, g3, g4, g5, g6, h1, h2, rfl⟩
    exfalso
    omega
end
end KB
namespace KB
open PySem PySem.Spec PyProof.Rows L2 LD
section
variable {P : Program} {w : World} {K : PySem.W.Frag} {mg : Str → Option Value} {base : Heap} {a : Ad}
theorem badL_ok : ∀ (l : List Nat) (k : Nat), (∀ c ∈ l, c ∈ letters.cps.toList) → k + l.length ≤ 12 → badL l 12 k < 0
  | [], k, _, _ => by unfold badL; decide
  | c :: l, k, h1, h2 => by
    unfold badL
    simp at h2
    have e : ¬ ((12 : Int) ≤ (k : Int) ∨ ¬ c ∈ letters.cps.toList) := by
      intro z
      rcases z with z | z
      · omega
      · exact z (h1 c List.mem_cons_self)
    rw [if_neg e]
    exact badL_ok l (k + 1) (fun x hx => h1 x (List.mem_cons_of_mem _ hx)) (by omega)
theorem isLeaf_ok {s : Str} (h : okText s) : isLeaf (.inr s) = true := by
  show decide (badL s.cps.toList 12 0 < 0) = true
  exact decide_eq_true (badL_ok _ 0 h.2 (by have := h.1; rw [Array.length_toList]; omega))
theorem isName_ok {n i : Int} (h0 : 0 ≤ i) (h1 : i < n) : isName n (.inl i) = true := by
  show (decide (0 ≤ i) && decide (i < n)) = true
  rw [decide_eq_true h0, decide_eq_true h1]; rfl
theorem four {l : List Int} {j : Nat} (h : j + 4 ≤ l.length) : ∃ d0 d1 d2 d3, (l.drop j).take 4 = [d0, d1, d2, d3] ∧ d0 ∈ l ∧ d1 ∈ l ∧ d2 ∈ l ∧ d3 ∈ l := by
  have hl : ((l.drop j).take 4).length = 4 := by rw [List.length_take, List.length_drop]; omega
  have hm : ∀ x ∈ (l.drop j).take 4, x ∈ l := fun x hx => List.mem_of_mem_drop (List.mem_of_mem_take hx)
  match e : (l.drop j).take 4, hl, hm with
  | [d0, d1, d2, d3], _, hm => exact ⟨d0, d1, d2, d3, rfl, hm _ (by simp), hm _ (by simp), hm _ (by simp), hm _ (by simp)⟩
theorem row_ix {row : List Int} (h : okRow row) {i : Int} (h0 : 0 ≤ i) (h1 : i < 226) : ∃ z, L2.atI row i = some z ∧ 0 ≤ z ∧ z < 997 := by
  obtain ⟨z, h2, h3⟩ := atI_in (xs := row) h0 (by rw [h.1]; exact h1)
  exact ⟨z, h2, h.2 z h3⟩
end
end KB
/-! tactics: a walk of expressions ("e"), arguments ("a"), tests ("t"), parts ("o"), statements ("s"), by keys of walk_at -/

local macro_rules | `(tactic| walk_at "z") => `(tactic| first | assumption | omega | (exact Nat.le_of_ble_eq_true rfl) | (simp only [List.length_map, List.length_cons, List.length_nil, List.length_append, List.length_replicate, List.length_set, List.length_dropLast, List.length_reverse]; omega))
local macro_rules | `(tactic| walk_at "i") => `(tactic| first | assumption | exact L2.atI_nat (j := 0) rfl | exact L2.atI_nat (j := 1) rfl | exact L2.atI_nat (j := 2) rfl | exact L2.atI_nat (j := 3) rfl | exact L2.atI_nat (j := 4) rfl | exact LD.atI_map _ (by assumption) | exact LD.atI_mapN _ (by assumption) | exact LD.atI_mapI _ (by omega) (by assumption))
local macro_rules | `(tactic| walk_at "m") => `(tactic| first | exact LD.At.here | exact LD.At.there .here | exact LD.At.there (.there .here) | exact LD.At.there (.there (.there .here)) | exact LD.At.there (.there (.there (.there .here))))
local macro_rules | `(tactic| walk_at "m2") => `(tactic| first | exact LD.DAt.frz _ | exact LD.DAt.mov (.head _) | exact LD.DAt.mov (.tail _ (.head _)) | exact LD.DAt.mov (.tail _ (.tail _ (.head _))) | exact LD.DAt.mov (.tail _ (.tail _ (.tail _ (.head _)))))
local macro_rules | `(tactic| walk_at "a") => `(tactic| first | exact LD.ea_nil | ((with_reducible apply LD.ea_cons); (walk_at "e"); (walk_at "a")) | ((apply LD.ea_cons); (walk_at "e"); (walk_at "a")))
local macro_rules | `(tactic| walk_at "o") => `(tactic| first | exact LD.eo_none | ((with_reducible apply LD.eo_some); (walk_at "e")))
local macro_rules | `(tactic| walk_at "e") => `(tactic| first
  | exact LD.ev_var rfl | exact LD.ev_int | exact LD.ev_str | exact LD.ev_bl | exact LD.ev_non | exact LD.ev_ty | exact LD.ev_ref
  | assumption
  | ((with_reducible apply LD.ev_add); (walk_at "e"); (walk_at "e"))
  | ((with_reducible apply LD.ev_sub); (walk_at "e"); (walk_at "e"))
  | ((with_reducible apply LD.ev_mod); (walk_at "e"); (walk_at "e"); (walk_at "z"))
  | ((with_reducible apply LD.ev_div); (walk_at "e"); (walk_at "e"); (first | (exact ⟨by omega, by omega⟩) | (walk_at "z")))
  | ((with_reducible apply LD.ev_neg); (walk_at "e"))
  | ((with_reducible apply LD.ev_intI); (walk_at "e"))
  | ((with_reducible apply LD.ev_lenL); (walk_at "e"))
  | ((with_reducible apply LD.ev_lenT); (walk_at "e"))
  | ((with_reducible apply LD.ev_lenS); (walk_at "e"); (walk_at "z"))
  | ((with_reducible apply LD.ev_lenX); (walk_at "e"); (walk_at "m2"))
  | ((with_reducible apply LD.ev_ixL); (walk_at "e"); (walk_at "e"); (walk_at "i"))
  | ((with_reducible apply LD.ev_ixT); (walk_at "e"); (walk_at "e"); (walk_at "i"))
  | ((with_reducible apply LD.ev_ixX); (walk_at "e"); (walk_at "e"); (walk_at "m2"); (walk_at "i"))
  | ((with_reducible apply LD.ev_ixS); (walk_at "e"); (walk_at "e"); (walk_at "z"); (walk_at "i"))
  | ((with_reducible apply LD.ev_tup); (walk_at "a"); (first | (exact Nat.le_of_ble_eq_true rfl) | (walk_at "z")))
  | ((with_reducible apply LD.ev_lst); (walk_at "a"); (first | (exact Nat.le_of_ble_eq_true rfl) | (walk_at "z")))
  | ((with_reducible apply LD.ev_list); (walk_at "e"))
  | ((with_reducible apply LD.ev_addS); (walk_at "e"); (walk_at "e"); (walk_at "z"))
  | ((with_reducible apply LD.ev_cat); (walk_at "e"); (walk_at "e"); (walk_at "z"))
  | ((with_reducible apply LD.ev_slS); (walk_at "e"); (walk_at "o"); (walk_at "o"); (walk_at "z"))
  | ((with_reducible apply LD.ev_slL); (walk_at "e"); (walk_at "o"); (walk_at "o"))
  | ((with_reducible apply LD.ev_eqI); (walk_at "e"); (walk_at "e"))
  | ((with_reducible apply LD.ev_eqS); (walk_at "e"); (walk_at "e"))
  | ((with_reducible apply LD.ev_neI); (walk_at "e"); (walk_at "e"))
  | ((with_reducible apply LD.ev_neS); (walk_at "e"); (walk_at "e"))
  | ((with_reducible apply LD.ev_lt); (walk_at "e"); (walk_at "e"))
  | ((with_reducible apply LD.ev_le); (walk_at "e"); (walk_at "e"))
  | ((with_reducible apply LD.ev_gt); (walk_at "e"); (walk_at "e"))
  | ((with_reducible apply LD.ev_ge); (walk_at "e"); (walk_at "e"))
  | ((with_reducible apply LD.ev_notN); (walk_at "e"); (walk_at "e"))
  | ((with_reducible apply LD.ev_isN); (walk_at "e"); (walk_at "e"))
  | ((with_reducible apply LD.ev_min2); (walk_at "e"); (walk_at "e"))
  | ((with_reducible apply LD.ev_mul); (walk_at "e"); (walk_at "e"); (first | (exact .inl ⟨by omega, by omega⟩) | (exact .inr ⟨by omega, by omega⟩)))
  | ((with_reducible apply LD.ev_isi (r := true)); (walk_at "e"); (walk_at "e"); (exact rfl); (exact rfl); (first | rfl | decide +kernel))
  | ((apply LD.ev_tup); (walk_at "a"); (first | (exact Nat.le_of_ble_eq_true rfl) | (walk_at "z")))
  | ((apply LD.ev_lst); (walk_at "a"); (first | (exact Nat.le_of_ble_eq_true rfl) | (walk_at "z")))
  | ((with_reducible apply LD.ev_isi (r := false)); (walk_at "e"); (walk_at "e"); (exact rfl); (exact rfl); (first | rfl | decide +kernel)))
local macro_rules | `(tactic| walk_at "t") => `(tactic| first
  | ((with_reducible apply LD.et_val); (walk_at "e"))
  | ((with_reducible apply LD.et_B); (walk_at "e"))
  | ((with_reducible apply LD.et_not); (walk_at "t"))
  | ((with_reducible apply LD.et_and); (walk_at "t"); (intro _); (walk_at "t"))
  | ((with_reducible apply LD.et_or); (walk_at "t"); (intro _); (walk_at "t"))
  | ((with_reducible apply LD.et_truL); (walk_at "e"))
  | ((with_reducible apply LD.et_truB); (walk_at "e")))
local macro_rules | `(tactic| walk_at "s1") => `(tactic| ((refine LD.s_seq ?_); (with_reducible apply LD.s_asg); (walk_at "e")))
local macro_rules | `(tactic| walk_at "s") => `(tactic| (repeat (walk_at "s1")))
namespace KB
open PySem PySem.Spec PyProof.Rows L2 LD
section
variable {P : Program} {w : World} {K : PySem.W.Frag} {mg : Str → Option Value} {base : Heap} {a : Ad}
theorem d_check_text (T : Txt P K mg a) (vs : List V) (H : Hp) (Q : VK) (E : XK) (h : sp_check_text K a vs H Q E) : t_check_text K a E { nx := fun _ H' => Q .non H', rt := Q } (L2.start N_check_text vs) H := h.body (N := N_check_text) fun x b ok mu hw => by
  show StA b (t_check_text K a E) ⟨[some (.str x), some (.int 60), none], []⟩ _
  unfold t_check_text
  refine s_seq (s_asg (ev_callN (x, 60) (ea_cons (ev_var rfl) (ea_cons (ev_var rfl) ea_nil)) trivial rfl (fun d' h => h) (fun C o h => h)) ?_)
  obtain ⟨z, hz⟩ : ∃ z, z = badL x.cps.toList 60 0 := ⟨_, rfl⟩
  show StA b _ ⟨[some (.str x), some (.int 60), some (.int (badL x.cps.toList 60 0))], []⟩ _
  rw [← hz]
  refine s_if (et_val (ev_ge (ev_var rfl) ev_int)) (fun hc => ?_) fun hc => ?_
  · have hc := of_decide_eq_true hc
    refine s_raise (ea_cons (ev_var rfl) ea_nil) rfl hw ⟨rfl, z.toNat, by rw [← hz]; omega, ?_⟩
    have e : z = (z.toNat : Int) := by omega
    rw [e]
    rfl
  · have hc := of_decide_eq_false hc
    exact s_next ⟨rfl, by omega⟩
theorem d_pair_fits (vs : List V) (H : Hp) (Q : VK) (E : XK) (h : sp_pair_fits K a vs H Q E) : t_pair_fits K a E { nx := fun _ H' => Q .non H', rt := Q } (L2.start N_pair_fits vs) H := h.body (N := N_pair_fits) fun x b ok mu hw => by
  obtain ⟨t, l, r⟩ := x
  obtain ⟨o1, o2⟩ : t.length ≤ 1000000 ∧ l.length ≤ 1000000 := ok
  have hs : sizeLine = 16777216 := sizeLine_eq
  show StA b (t_pair_fits K a E) ⟨[some (.str t), some (.tup [.str l, .str r]), none, none, none, none], []⟩ ⟨_, _, _, fun d _ => d = .bl (fitsB t l r)⟩
  unfold t_pair_fits
  refine s_seq (s_tgt (ev_var rfl) (ga_tup (gas_cons ga_name (gas_cons ga_name gas_nil))) ?_)
  refine s_seq (s_asg (ev_find (ev_var rfl) (ev_var rfl)) ?_)
  refine s_seq (s_asg (ev_rfind (ev_var rfl) (ev_var rfl)) ?_)
  exact s_ret (ev_andV (ev_ge (ev_var rfl) ev_int) fun _ => ev_andV (ev_ge (ev_var rfl) ev_int) fun _ => ev_le (ev_add (ev_var rfl) (ev_lenS (ev_var rfl) (by omega))) (ev_var rfl)) rfl
theorem d__law_join (vs : List V) (H : Hp) (Q : VK) (E : XK) (h : sp__law_join K a vs H Q E) : t__law_join K a E { nx := fun _ H' => Q .non H', rt := Q } (L2.start N__law_join vs) H := d_join_pairs vs H Q E h
theorem chr_ok (i : Int) : L2.atI letters.cps.toList (i % 26) = some (chrAt i) ∧ chrAt i ∈ letters.cps.toList := by
  have hm := mod_in i (j := 26) (by decide)
  obtain ⟨n, h1, h2⟩ := letters_ok _ hm.1 hm.2
  have : chrAt i = n := by
    unfold chrAt
    obtain ⟨k, hk⟩ : ∃ k : Nat, i % 26 = k := ⟨(i % 26).toNat, by omega⟩
    rw [hk] at h1 ⊢
    unfold L2.atI at h1
    rw [Int.toNat_natCast]
    have h3 : letters.cps.toList[k]? = some n := by
      have hkl : k < letters.cps.toList.length := by
        have : letters.cps.toList.length = 26 := by decide +kernel
        omega
      have h4 := L2.atI_nat (List.getElem?_eq_getElem hkl)
      unfold L2.atI at h4
      rw [h1] at h4
      rw [List.getElem?_eq_getElem hkl, ← Option.some.inj h4]
    rw [List.getD_eq_getElem?_getD, h3]
    rfl
  rw [this]
  exact ⟨h1, h2⟩
theorem d__law_text (vs : List V) (H : Hp) (Q : VK) (E : XK) (h : sp__law_text K a vs H Q E) : t__law_text K a E { nx := fun _ H' => Q .non H', rt := Q } (L2.start N__law_text vs) H := h.body (N := N__law_text) fun x b ok mu hw => by
  obtain ⟨h0, h1⟩ : 0 ≤ x ∧ x < 997 := ok
  show StA b (t__law_text K a E) ⟨[some (.int x), none, none, none], []⟩ ⟨_, _, _, fun d _ => d = .str (textF x)⟩
  unfold t__law_text
  have hs : sizeLine = 16777216 := sizeLine_eq
  have hm := mod_in x (j := 12) (by decide)
  have hz : L2.atI ([0, 1, 1, 2, 2, 3, 0, 1, 1, 2, 1, 12] : List Int) (x % 12) = some ((lenT x : Nat) : Int) ∧ lenT x ≤ 12 := by
    unfold lenT
    obtain ⟨k, hk⟩ : ∃ k : Nat, x % 12 = k := ⟨(x % 12).toNat, by omega⟩
    rw [hk, Int.toNat_natCast]
    have : k < 12 := by omega
    have : k = 0 ∨ k = 1 ∨ k = 2 ∨ k = 3 ∨ k = 4 ∨ k = 5 ∨ k = 6 ∨ k = 7 ∨ k = 8 ∨ k = 9 ∨ k = 10 ∨ k = 11 := by omega
    rcases this with e | e | e | e | e | e | e | e | e | e | e | e <;> subst e <;> exact ⟨atI_nat rfl, by decide⟩
  refine s_seq (s_asg (ev_ixL (ds := ([0, 1, 1, 2, 2, 3, 0, 1, 1, 2, 1, 12] : List Int).map Dt.int) (by walk_at "e") (by walk_at "e") (atI_map Dt.int hz.1)) ?_)
  refine s_seq (s_asg ev_str ?_)
  refine s_seq (s_for (P := ⟨fun A => StA b (tRet _) A _, _, _, _⟩) (fun i A => ∃ s g3, s.cps.toList = (List.range i).map (fun k : Nat => chrAt (x / 12 + (k : Int) * (1 + x % 5))) ∧ A = ⟨[some (.int x), some (.int ((lenT x : Nat) : Int)), some (.str s), g3], []⟩) (ei_rng1n (n := lenT x) (ea_cons (ev_var rfl) ea_nil) (by omega)) (Up.of ⟨"", none, (by show (Str.ofString "").cps.toList = ([] : List Nat); decide +kernel), rfl⟩) ?_ ?_)
  · rintro i A hi ⟨s, g3, hl, rfl⟩
    refine ⟨_, ga_name, ?_⟩
    have hm5 := mod_in x (j := 5) (by decide)
    have hn := chr_ok (x / 12 + (0 + (i : Nat)) * (1 + x % 5))
    have hll : letters.length ≤ sizeLine := by decide +kernel
    have hsz : s.cps.size = i := by rw [← Array.length_toList, hl]; simp
    have hsl : s.length + (⟨#[chrAt (x / 12 + (0 + (i : Nat)) * (1 + x % 5))]⟩ : Str).length ≤ sizeLine := by
      show s.cps.size + 1 ≤ sizeLine
      omega
    refine s_asg (ev_addS (ev_var rfl) (ev_ixS (s := letters) ev_str (ev_mod (ev_intI (ev_add (ev_div (ev_var rfl) ev_int ⟨by decide, by decide⟩) (ev_mul (ev_var rfl) (ev_add ev_int (ev_mod (ev_intI (ev_var rfl)) ev_int (by decide))) (.inr (by constructor <;> omega))))) ev_int (by decide)) hll hn.1) hsl) (Up.of ⟨_, some (.int (0 + (i : Nat))), ?_, rfl⟩)
    rw [PySem.Str.cps_append, Array.toList_append, hl, List.range_succ, List.map_append]
    simp
  · rintro A ⟨s, g3, hl, rfl⟩
    refine s_ret (ev_var rfl) (congrArg Dt.str ?_)
    unfold textF
    rw [← hl]
theorem badL_step (s : Str) (m : Int) {i : Nat} (hi : i < s.cps.toList.length) : badL (s.cps.toList.drop i) m i = if (m ≤ (i : Int) ∨ ¬ s.cps.toList[i] ∈ letters.cps.toList) then (i : Int) else badL (s.cps.toList.drop (i + 1)) m (i + 1) := by
  have e : s.cps.toList.getD i 0 = s.cps.toList[i] := by rw [List.getD_eq_getElem?_getD, List.getElem?_eq_getElem hi]; rfl
  rw [drop_get hi, badL, e]
theorem d__law_bad_place (vs : List V) (H : Hp) (Q : VK) (E : XK) (h : sp__law_bad_place K a vs H Q E) : t__law_bad_place K a E { nx := fun _ H' => Q .non H', rt := Q } (L2.start N__law_bad_place vs) H := h.body (N := N__law_bad_place) fun x b ok mu hw => by
  obtain ⟨s, m⟩ := x
  have ok : s.length ≤ 1000000 := ok
  have hs : sizeLine = 16777216 := sizeLine_eq
  show StA b (t__law_bad_place K a E) ⟨[some (.str s), some (.int m), none], []⟩ ⟨_, _, _, fun d _ => d = .int (badL s.cps.toList m 0)⟩
  unfold t__law_bad_place
  have hsl : s.cps.toList.length = s.length := by rw [Array.length_toList]; rfl
  refine s_seq (s_for (P := ⟨fun A => StA b (tRet _) A _, _, _, _⟩) (fun i A => badL (s.cps.toList.drop i) m i = badL s.cps.toList m 0 ∧ ∃ g2, A = ⟨[some (.str s), some (.int m), g2], []⟩) (ei_rng1n (n := s.length) (ea_cons (ev_lenS (ev_var rfl) (by omega)) ea_nil) (by omega)) (Up.of ⟨rfl, none, rfl⟩) ?_ ?_)
  · rintro i A hi ⟨hb, g2, rfl⟩
    have hi' : i < s.cps.toList.length := by omega
    have h0 : (0 : Int) + (i : Nat) = (i : Int) := Int.zero_add _
    refine ⟨_, by rw [h0]; exact ga_name, ?_⟩
    rw [badL_step s m hi'] at hb
    have hix : L2.atI s.cps.toList (i : Int) = some s.cps.toList[i] := atI_nat (List.getElem?_eq_getElem hi')
    refine s_if (et_or (et_val (ev_ge (ev_var rfl) (ev_var rfl))) fun _ => et_val (ev_notInC (ev_ixS (ev_var rfl) (ev_var rfl) (by omega) hix) ev_str)) (fun hc => ?_) fun hc => ?_
    · refine s_ret (ev_var rfl) ?_
      rw [if_pos (by simpa [letters] using hc)] at hb
      rw [← hb]
    · refine s_next (Up.of ⟨?_, _, rfl⟩)
      rw [if_neg (by simpa [letters] using hc)] at hb
      exact hb
  · rintro A ⟨hb, g2, rfl⟩
    refine s_ret (ev_neg ev_int) ?_
    rw [← hb, List.drop_eq_nil_of_le (by omega), badL]
theorem d__law_letters (vs : List V) (H : Hp) (Q : VK) (E : XK) (h : sp__law_letters K a vs H Q E) : t__law_letters K a E { nx := fun _ H' => Q .non H', rt := Q } (L2.start N__law_letters vs) H := h.body (N := N__law_letters) fun x b ok mu hw => by
  obtain ⟨nr, many, pool⟩ := x
  obtain ⟨n0, n1, m0, m1, p1, p2⟩ : 0 ≤ nr ∧ nr < 997 ∧ 0 ≤ many ∧ many ≤ 100 ∧ pool.length = 2 ∧ ∀ c ∈ pool.cps.toList, c ∈ letters.cps.toList := ok
  have hs : sizeLine = 16777216 := sizeLine_eq
  obtain ⟨mn, rfl⟩ : ∃ m : Nat, many = m := ⟨many.toNat, by omega⟩
  show StA b (t__law_letters K a E) ⟨[some (.int nr), some (.int (mn : Int)), some (.str pool), none, none, none], []⟩ ⟨_, _, _, fun d _ => ∃ s : Str, d = .str s ∧ (s.length : Int) = (mn : Int) ∧ ∀ c ∈ s.cps.toList, c ∈ letters.cps.toList⟩
  unfold t__law_letters
  refine s_seq (s_asg ev_str ?_)
  refine s_seq (s_asg (ev_var rfl) ?_)
  refine s_seq (s_for (P := ⟨fun A => StA b (tRet _) A _, _, _, _⟩) (fun i A => ∃ (s : Str) (r : Int) (g5 : Option Dt), s.length = i ∧ (∀ c ∈ s.cps.toList, c ∈ letters.cps.toList) ∧ 0 ≤ r ∧ A = ⟨[some (.int nr), some (.int (mn : Int)), some (.str pool), some (.str s), some (.int r), g5], []⟩) (ei_rng1n (n := mn) (ea_cons (ev_var rfl) ea_nil) (by omega)) (Up.of ⟨"", nr, none, by decide +kernel, (by decide +kernel), n0, rfl⟩) ?_ ?_)
  · rintro i A hi ⟨s, r, g5, hl, hm, hr, rfl⟩
    refine ⟨_, ga_name, ?_⟩
    have hpl : (pool.length : Int) = 2 := by omega
    have hmo := mod_in r (j := 2) (by decide)
    obtain ⟨c, hc1, hc2⟩ := atI_in (xs := pool.cps.toList) hmo.1 (by rw [Array.length_toList]; have : pool.cps.size = 2 := p1; omega)
    have hsl : s.length + (⟨#[c]⟩ : Str).length ≤ sizeLine := by
      show s.length + 1 ≤ sizeLine
      omega
    refine s_seq (s_asg (ev_addS (ev_var rfl) (ev_ixS (ev_var rfl) (ev_mod (ev_intI (ev_var rfl)) ((ev_lenS (ev_var rfl) (by omega)).is (by rw [hpl])) (by decide)) (by omega) hc1) hsl) ?_)
    refine s_asg (ev_div (ev_var rfl) ((ev_lenS (ev_var rfl) (by omega)).is (by rw [hpl])) ⟨by decide, by decide⟩) (Up.of ⟨_, _, _, by rw [str_len, hl]; rfl, fun c' hc' => ?_, ?_, rfl⟩)
    · rw [PySem.Str.cps_append, Array.toList_append] at hc'
      rcases List.mem_append.mp hc' with h | h
      · exact hm c' h
      · have : c' = c := by simpa using h
        rw [this]; exact p2 c hc2
    · show 0 ≤ r / 2
      omega
  · rintro A ⟨s, r, g5, hl, hm, hr, rfl⟩
    exact s_ret (ev_var rfl) ⟨s, rfl, by omega, hm⟩
end
end KB
namespace KB
open PySem PySem.Spec PyProof.Rows L2 LD
theorem eqD_str (a b : Str) : eqD (.str a) (.str b) = decide (a = b) := by
  unfold eqD
  simp only [toPy, PyData.eqv]
  by_cases h : a = b
  · rw [decide_eq_true h, h]; simp
  · rw [decide_eq_false h]; simpa using h
theorem kind_any (k : Str) : (([.str "leaf", .str "wrap", .str "left", .str "right"] : List Dt).any fun y => eqD y (.str k)) = isKind k := by
  simp only [List.any_cons, List.any_nil, Bool.or_false, eqD_str]
  unfold isKind
  have h : ∀ s : Str, decide (s = k) = decide (k = s) := fun s => decide_eq_decide.mpr eq_comm
  rw [h "leaf", h "wrap", h "left", h "right"]
section
variable {P : Program} {w : World} {K : PySem.W.Frag} {mg : Str → Option Value} {base : Heap} {a : Ad}
theorem d__law_is_valid (vs : List V) (H : Hp) (Q : VK) (E : XK) (h : sp__law_is_valid K a vs H Q E) : t__law_is_valid K a E { nx := fun _ H' => Q .non H', rt := Q } (L2.start N__law_is_valid vs) H := h.body (N := N__law_is_valid) fun x b ok mu hw => by
  obtain ⟨⟨kd, hd, px, py⟩, n⟩ := x
  obtain ⟨⟨z, hz⟩, hsm, heq, hln⟩ : okRaw (kd, hd, px, py) := ok
  have hz : hd = .inl z := hz
  subst hz
  have hs : sizeLine = 16777216 := sizeLine_eq
  have hkd : eqOk 0 (.str kd) = true := List.all_eq_true.mp heq (.str kd) List.mem_cons_self
  show StA b (t__law_is_valid K a E) ⟨[some (.tup [.str kd, .int z, keyD px, keyD py]), some (.int n), none], []⟩ ⟨_, _, _, fun d _ => d = .bl (okRule n (kd, .inl z, px, py))⟩
  unfold t__law_is_valid
  have hlk : eqOk 1 (.lst [.str "leaf", .str "wrap", .str "left", .str "right"]) = true := by decide +kernel
  have hix : ∀ {γ : List (Option Dt)} {M}, γ[0]? = some (some (.tup [.str kd, .int z, keyD px, keyD py])) → EvM b (tOp (rIx K) (tVar 0) (tC (.int 0))) ⟨γ, M⟩ (.str kd) ⟨γ, M⟩ := fun h => ev_ixT (ev_var h) ev_int (atI_nat (j := 0) rfl)
  refine s_seq (s_if (et_or (et_val (ev_notInD 0 (d := .str kd) (hix rfl) (ev_lst (ea_cons ev_str (ea_cons ev_str (ea_cons ev_str (ea_cons ev_str ea_nil))))) (.frz _) hkd hlk (by decide))) fun _ => et_not (et_val (ev_chain ev_int (ev_ixT (ev_var rfl) ev_int (atI_nat (j := 1) rfl)) (rv_I0 fun _ => .bl _) (fun _ => ev_var rfl) (rv_I0 fun _ => .bl _)))) (fun hc => ?_) fun hc => ?_)
  · refine s_ret ev_bl ?_
    rw [kind_any] at hc
    unfold okRule isName
    refine congrArg Dt.bl ?_
    cases e1 : isKind kd with
    | false => rfl
    | true =>
      rw [e1] at hc
      simp only [Bool.not_true, Bool.false_or] at hc
      show false = (true && ((decide (0 ≤ z) && decide (z < n)) && _))
      have : (decide (0 ≤ z) && decide (z < n)) = false := by
        cases e : (decide (0 ≤ z) && decide (z < n)) with
        | false => rfl
        | true => rw [e] at hc; cases hc
      rw [this]
      rfl
  rw [kind_any] at hc
  have e1 : isKind kd = true := by
    cases e : isKind kd with
    | true => rfl
    | false => rw [e] at hc; simp at hc
  have e2 : (decide (0 ≤ z) && decide (z < n)) = true := by
    rw [e1] at hc
    simpa using hc
  obtain ⟨okP, hokP⟩ : ∃ okP : Key → Bool, okP = fun p => if kd = "leaf" then isLeaf p else isName n p := ⟨_, rfl⟩
  have hrule : okRule n (kd, .inl z, px, py) = (okP px && okP py) := by
    unfold okRule
    rw [hokP]
    show (isKind kd && ((decide (0 ≤ z) && decide (z < n)) && _)) = _
    rw [e1, e2]
    simp only [Bool.true_and]
    split <;> rfl
  rw [hrule]
  refine s_next (s_seq (s_forL (P := ⟨fun A => StA b (tRet _) A _, _, _, _⟩) (xs := [px, py]) (f := keyD) (fun i A => (∀ (j : Nat) (p : Key), j < i → [px, py][j]? = some p → okP p = true) ∧ ∃ g2, A = ⟨[some (.tup [.str kd, .int z, keyD px, keyD py]), some (.int n), g2], []⟩)
    ((ei_seqT (ds := [keyD px, keyD py]) (ev_slT (ds := [.str kd, .int z, keyD px, keyD py]) (ev_var rfl) (eo_some ev_int) eo_none (by show ¬ (HT.sIx 4 0 (some 2) = 0 ∧ HT.sIx 4 4 none = 4); decide)))) (Up.of ⟨(fun j p h => absurd h (Nat.not_lt_zero _)), none, rfl⟩) ?_ ?_))
  · rintro i p A hp ⟨hall, g2, rfl⟩
    refine ⟨_, ga_name, ?_⟩
    have hpm := List.mem_of_getElem? hp
    have hbad : okP p = false → (okP px && okP py) = false := fun h => by
      simp only [List.mem_cons, List.not_mem_nil, or_false] at hpm
      rcases hpm with e | e <;> subst e
      · rw [h]; rfl
      · rw [h, Bool.and_false]
    have hnext : okP p = true → ∀ (j : Nat) (q : Key), j < i + 1 → [px, py][j]? = some q → okP q = true := fun h j q hj hq => by
      rcases Nat.lt_succ_iff_lt_or_eq.mp hj with h1 | h1
      · exact hall j q h1 hq
      · subst h1
        rw [hp] at hq
        cases hq
        exact h
    refine s_if (et_val (ev_eqS (hix rfl) ev_str)) (fun hc1 => ?_) fun hc1 => ?_
    · have hc1 := of_decide_eq_true hc1
      have hP : okP p = isLeaf p := by rw [hokP]; show (if kd = "leaf" then _ else _) = _; rw [if_pos hc1]
      cases p with
      | inl v =>
        refine s_if (c := true) ((et_or (c' := false) (et_not (et_B (ev_isi (d := .int v) (t := .type "int") (u := .type "str") (r := false) (ev_var rfl) ev_ty rfl rfl (by first | rfl | decide +kernel)))) fun h => by cases h).is rfl) (fun _ => s_ret ev_bl (by rw [hbad (by rw [hP]; rfl)])) fun h => by cases h
      | inr s =>
        have hsl : s.length ≤ 1000 := hln s (by
          simp only [List.mem_cons, List.not_mem_nil, or_false] at hpm
          rcases hpm with e | e
          · exact .inl e.symm
          · exact .inr e.symm)
        refine s_if (et_or (et_not (et_B (ev_isi (d := .str s) (t := .type "str") (u := .type "str") (r := true) (ev_var rfl) ev_ty rfl rfl (by first | rfl | decide +kernel)))) fun _ => et_val (ev_ge (ev_callN (s, 12) (ea_cons (ev_var rfl) (ea_cons ev_int ea_nil)) (by show s.length ≤ 1000000; omega) rfl (fun d' h => h) (fun C o h => h)) ev_int)) (fun hc2 => ?_) fun hc2 => ?_
        · have hc2 : decide (0 ≤ badL s.cps.toList 12 0) = true := by simpa using hc2
          have hc2 := of_decide_eq_true hc2
          exact s_ret ev_bl (by rw [hbad (by rw [hP]; exact decide_eq_false (by omega))])
        · have hc2 : decide (0 ≤ badL s.cps.toList 12 0) = false := by simpa using hc2
          have hc2 := of_decide_eq_false hc2
          exact s_next (Up.of ⟨hnext (by rw [hP]; exact decide_eq_true (by omega)), _, rfl⟩)
    · have hc1 := of_decide_eq_false hc1
      have hP : okP p = isName n p := by rw [hokP]; show (if kd = "leaf" then _ else _) = _; rw [if_neg hc1]
      cases p with
      | inr s =>
        refine s_if (c := true) ((et_or (c' := false) (et_not (et_B (ev_isi (d := .str s) (t := .type "str") (u := .type "int") (r := false) (ev_var rfl) ev_ty rfl rfl (by first | rfl | decide +kernel)))) fun h => by cases h).is rfl) (fun _ => s_ret ev_bl (by rw [hbad (by rw [hP]; rfl)])) fun h => by cases h
      | inl v =>
        refine s_if (et_or (et_not (et_B (ev_isi (d := .int v) (t := .type "int") (u := .type "int") (r := true) (ev_var rfl) ev_ty rfl rfl (by first | rfl | decide +kernel)))) fun _ => et_not (et_val (ev_chain ev_int (ev_var rfl) (rv_I0 fun _ => .bl _) (fun _ => ev_var rfl) (rv_I0 fun _ => .bl _)))) (fun hc2 => ?_) fun hc2 => ?_
        · have hc2 : (decide (0 ≤ v) && decide (v < n)) = false := by
            cases e : (decide (0 ≤ v) && decide (v < n)) with
            | false => rfl
            | true => rw [e] at hc2; cases hc2
          exact s_ret ev_bl (by rw [hbad (by rw [hP]; exact hc2)])
        · have hc2 : (decide (0 ≤ v) && decide (v < n)) = true := by simpa using hc2
          exact s_next (Up.of ⟨hnext (by rw [hP]; exact hc2), _, rfl⟩)
  · rintro A ⟨hall, g2, rfl⟩
    refine s_ret ev_bl ?_
    rw [hall 0 px (by show 0 < 2; decide) rfl, hall 1 py (by show 1 < 2; decide) rfl]
    rfl
theorem d__law_due (vs : List V) (H : Hp) (Q : VK) (E : XK) (h : sp__law_due K a vs H Q E) : t__law_due K a E { nx := fun _ H' => Q .non H', rt := Q } (L2.start N__law_due vs) H := h.body (N := N__law_due) fun x b ok mu hw => by
  obtain ⟨n, rules⟩ := x
  obtain ⟨hl, hr⟩ : rules.length ≤ 2000 ∧ ∀ r ∈ rules, okRaw r := ok
  have hs : sizeLine = 16777216 := sizeLine_eq
  have hll : (rules.map rawD).length = rules.length := List.length_map ..
  show StA b (t__law_due K a E) ⟨[some (.int n), some (.lst (rules.map rawD)), none], []⟩ ⟨_, _, _, fun d _ => d = dueG n rules⟩
  unfold t__law_due
  refine s_seq (s_if (et_val (ev_gt (ev_var rfl) ev_int)) (fun hc => ?_) fun hc => s_next ?_)
  · have hc := of_decide_eq_true hc
    refine s_ret (by walk_at "e") ?_
    unfold dueG
    rw [if_pos hc]
  have h1 := of_decide_eq_false hc
  refine s_seq (s_if (et_val (ev_gt (ev_lenL (ev_var rfl)) ev_int)) (fun hc => ?_) fun hc => s_next ?_)
  · have hc := of_decide_eq_true hc
    refine s_ret (by walk_at "e") ?_
    have hc' : 900 < rules.length := by rw [← hll]; omega
    unfold dueG
    rw [if_neg h1, if_pos hc']
  have h2 := of_decide_eq_false hc
  have h2' : ¬ 900 < rules.length := by rw [← hll]; omega
  refine s_seq (s_for (P := ⟨fun A => StA b (tRet _) A _, _, _, _⟩) (fun i A => (∀ (j : Nat) (r : RawRule), j < i → rules[j]? = some r → okRule n r = true) ∧ ∃ g2, A = ⟨[some (.int n), some (.lst (rules.map rawD)), g2], []⟩) (ei_rng1n (n := rules.length) (ea_cons ((ev_lenL (ev_var rfl)).is (by rw [hll])) ea_nil) (by omega)) (Up.of ⟨(fun j r h => absurd h (Nat.not_lt_zero _)), none, rfl⟩) ?_ ?_)
  · rintro i A hi ⟨hall, g2, rfl⟩
    obtain ⟨r, hri⟩ := get_some hi
    have h0 : (0 : Int) + (i : Nat) = (i : Int) := Int.zero_add _
    refine ⟨_, by rw [h0]; exact ga_name, ?_⟩
    refine s_if (et_not (et_B (ev_callN (r, n) (ea_cons (ev_ixL (ev_var rfl) (ev_var rfl) (atI_mapN rawD hri)) (ea_cons (ev_var rfl) ea_nil)) (hr r (List.mem_of_getElem? hri)) rfl (fun d' h => h) (fun C o h => h)))) (fun hc => ?_) fun hc => ?_
    · have hc : okRule n r = false := by simpa using hc
      have hfb := firstBad_at (k := 0) hall hri hc
      rw [Nat.zero_add] at hfb
      refine s_ret (by walk_at "e") ?_
      unfold dueG
      rw [if_neg h1, if_neg h2', hfb]
    · have hc : okRule n r = true := by simpa using hc
      refine s_next (Up.of ⟨fun j r' hj hr' => ?_, _, rfl⟩)
      rcases Nat.lt_succ_iff_lt_or_eq.mp hj with h | h
      · exact hall j r' h hr'
      · subst h
        rw [hri] at hr'
        cases hr'
        exact hc
  · rintro A ⟨hall, g2, rfl⟩
    have hn : firstBad n rules 0 = none := firstBad_none fun r hr => by
      obtain ⟨j, hj⟩ := List.mem_iff_getElem?.mp hr
      exact hall j r (List.getElem?_eq_some_iff.mp hj).1 hj
    refine s_ret (ev_lst (ea_cons ev_str (ea_cons (ev_var rfl) (ea_cons (ev_tupL (ev_var rfl)) ea_nil)))) ?_
    unfold dueG
    rw [if_neg h1, if_neg h2', hn]
end
end KB
namespace KB
open PySem PySem.Spec PyProof.Rows L2 LD
section
variable {P : Program} {w : World} {K : PySem.W.Frag} {mg : Str → Option Value} {base : Heap} {a : Ad}
theorem d__law_good_rule (vs : List V) (H : Hp) (Q : VK) (E : XK) (h : sp__law_good_rule K a vs H Q E) : t__law_good_rule K a E { nx := fun _ H' => Q .non H', rt := Q } (L2.start N__law_good_rule vs) H := h.body (N := N__law_good_rule) fun x b ok mu hw => by
  obtain ⟨drawn, names⟩ := x
  obtain ⟨⟨hl, hb⟩, hn⟩ : (drawn.length = 6 ∧ ∀ z ∈ drawn, 0 ≤ z ∧ z < 997) ∧ 1 ≤ names := ok
  have hs : sizeLine = 16777216 := sizeLine_eq
  match drawn, hl, hb with
  | [d0, d1, d2, d3, d4, d5], _, hb =>
    show StA b (t__law_good_rule K a E) ⟨[some (intsD [d0, d1, d2, d3, d4, d5]), some (.int names), none, none], []⟩ ⟨_, _, _, fun d _ => d = rawD (goodF [d0, d1, d2, d3, d4, d5] names)⟩
    have b2 := hb d2 (by simp)
    have b3 := hb d3 (by simp)
    unfold t__law_good_rule
    have ix : ∀ {j : Nat} {z : Int} {γ : List (Option Dt)} {M}, γ[0]? = some (some (intsD [d0, d1, d2, d3, d4, d5])) → [d0, d1, d2, d3, d4, d5][j]? = some z → EvM b (tOp (rIx K) (tVar 0) (tC (.int (j : Int)))) ⟨γ, M⟩ (.int z) ⟨γ, M⟩ := fun h1 h2 => ev_ixL (ev_var h1) ev_int (atI_map Dt.int (atI_nat h2))
    obtain ⟨hd, hhd⟩ : ∃ hd : Int, hd = if d4 % 2 = 0 then d1 % names else names - 1 := ⟨_, rfl⟩
    have hhx : L2.atI ([d1 % names, names - 1].map Dt.int) (d4 % 2) = some (.int hd) := by
      have : d4 % 2 = 0 ∨ d4 % 2 = 1 := by omega
      rcases this with e | e <;> rw [hhd, e]
      · exact atI_nat (j := 0) rfl
      · exact atI_nat (j := 1) rfl
    obtain ⟨yd, hyd⟩ : ∃ yd : Int, yd = if d5 % 2 = 0 then names - 1 else d3 % names := ⟨_, rfl⟩
    have hyx : L2.atI ([names - 1, d3 % names].map Dt.int) (d5 % 2) = some (.int yd) := by
      have : d5 % 2 = 0 ∨ d5 % 2 = 1 := by omega
      rcases this with e | e <;> rw [hyd, e]
      · exact atI_nat (j := 0) rfl
      · exact atI_nat (j := 1) rfl
    have hgood : goodF [d0, d1, d2, d3, d4, d5] names = if d0 % 4 = 0 then (("leaf", .inl hd, .inr (textF d2), .inr (textF d3)) : RawRule) else ((["leaf", "wrap", "left", "right"] : List Str).getD (d0 % 4).toNat "", .inl hd, .inl (d2 % names), .inl yd) := by
      rw [hhd, hyd]; rfl
    rw [hgood]
    have hk4 : d0 % 4 = 0 ∨ d0 % 4 = 1 ∨ d0 % 4 = 2 ∨ d0 % 4 = 3 := by omega
    obtain ⟨kd, hkd⟩ : ∃ kd : Str, kd = (["leaf", "wrap", "left", "right"] : List Str).getD (d0 % 4).toNat "" := ⟨_, rfl⟩
    have hkx : L2.atI ((["leaf", "wrap", "left", "right"] : List Str).map Dt.str) (d0 % 4) = some (.str kd) ∧ (kd = "leaf" ↔ d0 % 4 = 0) := by
      rcases hk4 with e | e | e | e <;> rw [hkd, e]
      · exact ⟨atI_nat (j := 0) rfl, by simp⟩
      · exact ⟨atI_nat (j := 1) rfl, by decide +kernel⟩
      · exact ⟨atI_nat (j := 2) rfl, by decide +kernel⟩
      · exact ⟨atI_nat (j := 3) rfl, by decide +kernel⟩
    rw [← hkd]
    refine s_seq (s_asg (ev_ixL (ds := (["leaf", "wrap", "left", "right"] : List Str).map Dt.str) (by walk_at "e") (ev_mod (ev_intI (ix (j := 0) rfl rfl)) ev_int (by decide)) hkx.1) ?_)
    refine s_seq (s_asg (ev_ixL (ds := [d1 % names, names - 1].map Dt.int) (ev_lst (ea_cons (ev_mod (ev_intI (ix (j := 1) rfl rfl)) (ev_var rfl) (by omega)) (ea_cons (ev_sub (ev_var rfl) ev_int) ea_nil))) (ev_mod (ev_intI (ix (j := 4) rfl rfl)) ev_int (by decide)) hhx) ?_)
    refine s_seq (s_if (et_val (ev_eqS (ev_var rfl) ev_str)) (fun hc => ?_) fun hc => s_next ?_)
    · have hc := of_decide_eq_true hc
      rw [if_pos (hkx.2.mp hc)]
      refine s_ret (ev_tup (ea_cons (ev_var rfl) (ea_cons (ev_var rfl) (ea_cons (ev_callN d2 (ea_cons (ix (j := 2) rfl rfl) ea_nil) b2 rfl (fun d' h => h) (fun C o h => h)) (ea_cons (ev_callN d3 (ea_cons (ix (j := 3) rfl rfl) ea_nil) b3 rfl (fun d' h => h) (fun C o h => h)) ea_nil))))) ?_
      rw [hc]
      rfl
    · have hc := of_decide_eq_false hc
      rw [if_neg (fun e => hc (hkx.2.mpr e))]
      exact s_ret (ev_tup (ea_cons (ev_var rfl) (ea_cons (ev_var rfl) (ea_cons (ev_mod (ev_intI (ix (j := 2) rfl rfl)) (ev_var rfl) (by omega)) (ea_cons (ev_ixL (ds := [names - 1, d3 % names].map Dt.int) (ev_lst (ea_cons (ev_sub (ev_var rfl) ev_int) (ea_cons (ev_mod (ev_intI (ix (j := 3) rfl rfl)) (ev_var rfl) (by omega)) ea_nil))) (ev_mod (ev_intI (ix (j := 5) rfl rfl)) ev_int (by decide)) hyx) ea_nil))))) rfl
end
end KB
namespace KB
open PySem PySem.Spec PyProof.Rows L2 LD
theorem cutG_from {α : Type} (xs : List α) (n : Nat) : cutG xs (some (n : Int)) none = xs.drop n := by
  unfold cutG
  rw [HT.sIx_nat, HT.sIx_none]
  rcases Nat.le_total n xs.length with h | h
  · rw [Nat.min_eq_left h, List.take_of_length_le (by rw [List.length_drop]; exact Nat.le_refl _)]
  · rw [Nat.min_eq_right h, List.drop_of_length_le (Nat.le_refl _), List.drop_of_length_le h, List.take_nil]
theorem cutG_mid {α : Type} (xs : List α) (n m : Nat) : cutG xs (some (n : Int)) (some (m : Int)) = (xs.take m).drop n := by
  unfold cutG
  rw [HT.sIx_nat, HT.sIx_nat, List.drop_take]
  rcases Nat.le_total n xs.length with h | h
  · rw [Nat.min_eq_left h]
    rcases Nat.le_total m xs.length with h2 | h2
    · rw [Nat.min_eq_left h2]
    · rw [Nat.min_eq_right h2, List.take_of_length_le (by rw [List.length_drop]; exact Nat.le_refl _), List.take_of_length_le (by rw [List.length_drop]; omega)]
  · rw [Nat.min_eq_right h, List.drop_of_length_le (Nat.le_refl _), List.drop_of_length_le h, List.take_nil, List.take_nil]
def cp (s : Str) : List Nat := s.cps.toList
theorem cp_inj {s t : Str} (h : cp s = cp t) : s = t := by
  obtain ⟨⟨a⟩⟩ := s
  obtain ⟨⟨b⟩⟩ := t
  have h : a = b := h
  rw [h]
theorem cp_len (s : Str) : s.length = (cp s).length := by show s.cps.size = _; unfold cp; rw [Array.length_toList]
theorem cp_cut (z : Str) (lo hi : Option Int) : cp (cutS z lo hi) = cutG (cp z) lo hi := by
  unfold cutS cutG
  rw [cp_len]
  rfl
/-- l stands in t at i -/
def Occ (t l : Str) (i : Nat) : Prop := i + l.length ≤ t.length ∧ ((cp t).drop i).take l.length = cp l
theorem occ_at (t l : Str) (i : Nat) : StrLaws.At t l t.length i ↔ Occ t l i := by
  unfold StrLaws.At Occ
  rw [StrLaws.subAt_eq]
  exact and_congr_right fun _ => beq_iff_eq
theorem occ_cut (t l : Str) (i : Nat) (hi : i ≤ t.length) : cutS t (some (i : Int)) (some ((i : Int) + (l.length : Int))) = l ↔ Occ t l i := by
  rw [show (i : Int) + (l.length : Int) = ((i + l.length : Nat) : Int) by omega]
  have e : cp (cutS t (some (i : Int)) (some ((i + l.length : Nat) : Int))) = ((cp t).drop i).take l.length := by
    rw [cp_cut, cutG_mid, List.drop_take]
    congr 1
    omega
  constructor
  · intro h
    have h2 := congrArg cp h
    rw [e] at h2
    refine ⟨?_, h2⟩
    have h3 := congrArg List.length h2
    rw [List.length_take, List.length_drop, ← cp_len, ← cp_len] at h3
    omega
  · rintro ⟨_, h⟩
    exact cp_inj (by rw [e, h])
theorem occ_rest (t l : Str) (i k : Nat) (hi : i ≤ t.length) : Occ (cutS t (some (i : Int)) none) l k ↔ (Occ t l (i + k)) := by
  have e : cp (cutS t (some (i : Int)) none) = (cp t).drop i := by rw [cp_cut, cutG_from]
  have el : (cutS t (some (i : Int)) none).length = t.length - i := by rw [cp_len, e, List.length_drop, ← cp_len]
  unfold Occ
  rw [el, e, List.drop_drop]
  constructor
  · rintro ⟨h1, h2⟩; exact ⟨by omega, h2⟩
  · rintro ⟨h1, h2⟩; exact ⟨by omega, h2⟩
theorem fits_iff (t l r : Str) : fitsB t l r = true ↔ ∃ i k : Nat, Occ t l i ∧ Occ t r (i + l.length + k) := by
  unfold fitsB
  rw [Bool.and_eq_true, Bool.and_eq_true, decide_eq_true_iff, decide_eq_true_iff, decide_eq_true_iff]
  rcases find_whole t l with ⟨f0, f1⟩ | ⟨i0, f0, f1, f2⟩
  · constructor
    · rintro ⟨h, _⟩; omega
    · rintro ⟨i, k, h, _⟩; exact absurd ((occ_at t l i).mpr h) (f1 i)
  · rcases rfind_whole t r with ⟨g0, g1⟩ | ⟨j0, g0, g1, g2⟩
    · constructor
      · rintro ⟨_, h, _⟩; omega
      · rintro ⟨i, k, _, h⟩; exact absurd ((occ_at t r _).mpr h) (g1 _)
    · rw [f0, g0]
      constructor
      · rintro ⟨_, _, h⟩
        refine ⟨i0, j0 - i0 - l.length, (occ_at t l i0).mp f1, ?_⟩
        rw [show i0 + l.length + (j0 - i0 - l.length) = j0 by omega]
        exact (occ_at t r j0).mp g1
      · rintro ⟨i, k, h1, h2⟩
        have a1 : i0 ≤ i := by
          rcases Nat.lt_or_ge i i0 with h | h
          · exact absurd ((occ_at t l i).mpr h1) (f2 i h)
          · exact h
        have a2 : i + l.length + k ≤ j0 := by
          rcases Nat.lt_or_ge j0 (i + l.length + k) with h | h
          · exact absurd ((occ_at t r _).mpr h2) (g2 _ h)
          · exact h
        exact ⟨by omega, by omega, by omega⟩
section
variable {P : Program} {w : World} {K : PySem.W.Frag} {mg : Str → Option Value} {base : Heap} {a : Ad}
theorem d__law_fits (vs : List V) (H : Hp) (Q : VK) (E : XK) (h : sp__law_fits K a vs H Q E) : t__law_fits K a E { nx := fun _ H' => Q .non H', rt := Q } (L2.start N__law_fits vs) H := h.body (N := N__law_fits) fun x b ok mu hw => by
  obtain ⟨t, l, r⟩ := x
  obtain ⟨o1, o2, o3⟩ : t.length ≤ 1000 ∧ l.length ≤ 1000 ∧ r.length ≤ 1000 := ok
  have hs : sizeLine = 16777216 := sizeLine_eq
  show StA b (t__law_fits K a E) ⟨[some (.str t), some (.str l), some (.str r), none, none, none], []⟩ ⟨_, _, _, fun d _ => d = .bl (fitsB t l r)⟩
  unfold t__law_fits
  refine s_seq (s_for (P := ⟨fun A => StA b (tRet _) A _, _, _, _⟩) (fun i A => (∀ i' k : Nat, i' < i → Occ t l i' → ¬ Occ t r (i' + l.length + k)) ∧ ∃ g3 g4 g5, A = ⟨[some (.str t), some (.str l), some (.str r), g3, g4, g5], []⟩)
    (ei_rng1n (n := t.length + 1) (ea_cons ((ev_add (ev_lenS (ev_var rfl) (by omega)) ev_int).is (by congr 1)) ea_nil) (by omega)) (Up.of ⟨(fun i' k h => absurd h (Nat.not_lt_zero _)), none, none, none, rfl⟩) ?_ ?_)
  · rintro i A hi ⟨hno, g3, g4, g5, rfl⟩
    have h0 : (0 : Int) + (i : Nat) = (i : Int) := Int.zero_add _
    refine ⟨_, by rw [h0]; exact ga_name, ?_⟩
    refine s_if (et_val (ev_eqS (ev_slS (ev_var rfl) (eo_some (ev_var rfl)) (eo_some (ev_add (ev_var rfl) (ev_lenS (ev_var rfl) (by omega)))) (by omega)) (ev_var rfl))) (fun hc => ?_) fun hc => ?_
    · have ho := (occ_cut t l i (by omega)).mp (of_decide_eq_true hc)
      have hil := ho.1
      have hcast : (i : Int) + (l.length : Int) = ((i + l.length : Nat) : Int) := by omega
      refine s_seq (s_asg (ev_slS (ev_var rfl) (eo_some ((ev_add (ev_var rfl) (ev_lenS (ev_var rfl) (by omega))).is (by rw [hcast]))) eo_none (by omega)) ?_)
      obtain ⟨rest, hrest⟩ : ∃ rest, rest = cutS t (some ((i + l.length : Nat) : Int)) none := ⟨_, rfl⟩
      have hrl : rest.length = t.length - (i + l.length) := by rw [hrest, cp_len, cp_cut, cutG_from, List.length_drop, ← cp_len]
      rw [← hrest]
      refine s_for (fun k A => (∀ k' : Nat, k' < k → ¬ Occ t r (i + l.length + k')) ∧ ∃ g5, A = ⟨[some (.str t), some (.str l), some (.str r), some (.int (i : Int)), some (.str rest), g5], []⟩)
        (ei_rng1n (n := rest.length + 1) (ea_cons ((ev_add (ev_lenS (ev_var rfl) (by omega)) ev_int).is (by congr 1)) ea_nil) (by omega)) (Up.of ⟨(fun k' h => absurd h (Nat.not_lt_zero _)), g5, rfl⟩) ?_ ?_
      · rintro k A hk ⟨hno2, g5, rfl⟩
        have h0 : (0 : Int) + (k : Nat) = (k : Int) := Int.zero_add _
        refine ⟨_, by rw [h0]; exact ga_name, ?_⟩
        have hiff := occ_rest t r (i + l.length) k hil
        rw [← hrest] at hiff
        refine s_if (et_val (ev_eqS (ev_slS (ev_var rfl) (eo_some (ev_var rfl)) (eo_some (ev_add (ev_var rfl) (ev_lenS (ev_var rfl) (by omega)))) (by omega)) (ev_var rfl))) (fun hc => ?_) fun hc => ?_
        · have h2 := hiff.mp ((occ_cut rest r k (by omega)).mp (of_decide_eq_true hc))
          exact s_ret ev_bl (by rw [(fits_iff t l r).mpr ⟨i, k, ho, h2⟩])
        · have hc := of_decide_eq_false hc
          refine s_next (Up.of ⟨fun k' hk' h2 => ?_, _, rfl⟩)
          rcases Nat.lt_succ_iff_lt_or_eq.mp hk' with h | h
          · exact hno2 k' h h2
          · subst h
            exact hc ((occ_cut rest r k' (by omega)).mpr (hiff.mpr h2))
      · rintro A ⟨hno2, g5, rfl⟩
        refine Up.of ⟨fun i' k hi' h1 h2 => ?_, _, _, _, rfl⟩
        rcases Nat.lt_succ_iff_lt_or_eq.mp hi' with h | h
        · exact hno i' k h h1 h2
        · subst h
          have := h2.1
          exact hno2 k (by omega) h2
    · have hc := of_decide_eq_false hc
      refine s_next (Up.of ⟨fun i' k hi' h1 h2 => ?_, _, _, _, rfl⟩)
      rcases Nat.lt_succ_iff_lt_or_eq.mp hi' with h | h
      · exact hno i' k h h1 h2
      · subst h
        exact hc ((occ_cut t l i' (by omega)).mpr h1)
  · rintro A ⟨hno, g3, g4, g5, rfl⟩
    refine s_ret ev_bl ?_
    have : fitsB t l r = false := by
      cases e : fitsB t l r with
      | false => rfl
      | true =>
        obtain ⟨i, k, h1, h2⟩ := (fits_iff t l r).mp e
        have := h1.1
        exact absurd h2 (hno i k (by omega) h1)
    rw [this]
end
end KB
namespace KB
open PySem PySem.Spec PyProof.Rows L2 LD
section
variable {P : Program} {w : World} {K : PySem.W.Frag} {mg : Str → Option Value} {base : Heap} {a : Ad}
theorem d__law_checked (T : Txt P K mg a) (vs : List V) (H : Hp) (Q : VK) (E : XK) (h : sp__law_checked K a vs H Q E) : t__law_checked K a E { nx := fun _ H' => Q .non H', rt := Q } (L2.start N__law_checked vs) H := h.body (N := N__law_checked) fun x b ok mu hw => by
  have ok : x.length ≤ 1000000 := ok
  have hs : sizeLine = 16777216 := sizeLine_eq
  show StA b (t__law_checked K a E) ⟨[some (.str x), none], []⟩ ⟨_, _, _, fun d _ => d = checkD x⟩
  unfold t__law_checked
  refine s_seqI (fun A => False) ?_ (fun A h => h.elim)
  refine s_try (K := K) (t := tb__law_checked_1 K a E) (ts := ts__law_checked_1 K a E) (XP := fun A C o => A = ⟨[some (.str x), none], []⟩ ∧ C = a.c_BadText ∧ ∃ k : Nat, badL x.cps.toList 60 0 = (k : Int) ∧ o = placeX k) (XO := fun _ _ _ => False) (fun T2 W hw => ?_) (fun A1 C o hx => ?_) (fun A C o dd T σ H hx => hx.elim)
  · unfold tb__law_checked_1
    refine s_retR (ef_lstR (R := fun ds _ => ds = [.str "told", .non] ∧ badL x.cps.toList 60 0 < 0) (ear_m ev_str (ear_cons (er_callP (R := fun d A' => d = .non ∧ badL x.cps.toList 60 0 < 0) x (ea_cons (ev_var rfl) ea_nil) ok (dds := [.int 60]) (fun G => .cons (.int 60) .nil) rfl (fun d h => h) hw (fun C o h => ⟨rfl, h⟩)) fun d A1 h => ear_nil ⟨by rw [h.1], h.2⟩)) fun ds A' h => by rw [h.1]; show 2 ≤ sizeLine; omega) fun d A1 h => ?_
    obtain ⟨ds, rfl, rfl, h2⟩ := h
    show _ = checkD x
    unfold checkD
    rw [if_pos h2]
  · obtain ⟨rfl, rfl, k, hk, rfl⟩ := hx
    refine ⟨true, T.xm_BadText_Fault, fun _ ea dd T2 hxd => ?_, fun h => by cases h⟩
    unfold ts__law_checked_1
    have hxd' := hxd
    obtain ⟨q, rfl, hxm⟩ := hxd'
    refine s_if (c := true) ((et_and (et_B (ev_isX T.ec_BadText hxd (ev_var rfl) ev_ref rfl T.kt_BadText_BadText)) fun _ => et_and (et_B (ev_isX T.ec_BadText hxd (ev_var rfl) ev_ty rfl T.kt_BadText_ValueError)) fun _ => et_not (et_B (ev_isX T.ec_BadText hxd (ev_var rfl) ev_ref rfl T.kt_BadText_TooMany))).is rfl) (fun _ => ?_) fun h => by cases h
    refine s_ret (ev_lst (ea_cons ev_str (ea_cons (ev_xf (d := .int (k : Nat)) hxd (ev_var rfl) (by simp [List.lookup]) rfl) ea_nil))) ?_
    show _ = checkD x
    unfold checkD
    rw [if_neg (by omega), hk]
end
end KB
namespace KB
open PySem PySem.Spec PyProof.Rows L2 LD
theorem gramNo {m : Str} (C : Addr) (n : Int) (rules : List RawRule) (h1 : (m == ("names" : Str)) = false) (h2 : (m == ("rules" : Str)) = false) (h3 : (m == ("forms" : Str)) = false) : List.lookup m (gramF C n rules) = none := by
  simp [gramF, List.lookup, h1, h2, h3]
theorem gramRules (C : Addr) (n : Int) (rules : List RawRule) : List.lookup ("rules" : Str) (gramF C n rules) = some (.tup (rules.map rawD)) := lR3 _ _ _
theorem gramNames (C : Addr) (n : Int) (rules : List RawRule) : List.lookup ("names" : Str) (gramF C n rules) = some (.int n) := by
  simp [gramF, List.lookup]
section
variable {P : Program} {w : World} {K : PySem.W.Frag} {mg : Str → Option Value} {base : Heap} {a : Ad}
theorem d__law_made (T : Txt P K mg a) (vs : List V) (H : Hp) (Q : VK) (E : XK) (h : sp__law_made K a vs H Q E) : t__law_made K a E { nx := fun _ H' => Q .non H', rt := Q } (L2.start N__law_made vs) H := h.body (N := N__law_made) fun x b ok mu hw => by
  obtain ⟨n, rules⟩ := x
  obtain ⟨hl, hr⟩ : rules.length ≤ 2000 ∧ ∀ r ∈ rules, okRaw r := ok
  have hs : sizeLine = 16777216 := sizeLine_eq
  show StA b (t__law_made K a E) ⟨[some (.int n), some (.lst (rules.map rawD)), none, none, none], []⟩ ⟨_, _, _, fun d _ => d = dueG n rules⟩
  unfold t__law_made
  refine s_seq (s_asgF (ef_list (ev_var rfl)) fun q => ?_)
  refine s_seqI (fun A => okG n rules ∧ A = ⟨[some (.int n), some (.lst (rules.map rawD)), some (.obj q), some (.ins a.c_PairGrammar (gramF a.c_Forms n rules)), none], [(q, .d (.lst (rules.map rawD)))]⟩) ?_ ?_
  · refine s_try (K := K) (t := tb__law_made_1 K a E) (ts := ts__law_made_1 K a E) (XP := fun A C o => A = ⟨[some (.int n), some (.lst (rules.map rawD)), some (.obj q), none, none], []⟩ ∧ initX a n rules.length (firstBad n rules 0) C o) (XO := fun _ _ _ => False) (fun T2 W hw => ?_) (fun A1 C o hx => ?_) (fun A C o dd T σ H hx => hx.elim)
    · unfold tb__law_made_1
      refine s_asgR (er_makeX (φ := okG n rules) (fs := gramF a.c_Forms n rules) (Ms := [(q, .d (.lst (rules.map rawD)))]) (Ms' := [(q, .d (.lst (rules.map rawD)))]) (Rm := []) (fun o => (o, n, .obj q, rules, [(q, .d (.lst (rules.map rawD)))])) (ea_cons (ev_var rfl) (ea_cons (ev_var rfl) ea_nil)) (List.Perm.refl _) (fun o => ⟨rfl, rfl, .mov List.mem_cons_self⟩) (fun o d M' ⟨h, hG, h'⟩ => ⟨hG, h, h'⟩) hw (fun p C o h => ⟨rfl, h⟩)) fun d A1 h => ?_
      obtain ⟨hG, rfl, rfl⟩ := h
      exact Up.of ⟨hG, rfl⟩
    · obtain ⟨rfl, hx⟩ := hx
      rcases hx with ⟨h1, rfl, rfl⟩ | ⟨h1, h2, rfl, rfl⟩ | ⟨h1, h2, k, hk, rfl, rfl⟩
      · refine ⟨true, T.xm_TooMany_Fault, fun _ ea dd T2 hxd => ?_, fun h => by cases h⟩
        unfold ts__law_made_1
        have hxd' := hxd
        obtain ⟨q', rfl, hxm⟩ := hxd'
        refine s_seq (s_if (c := true) ((et_and (et_B (ev_isX T.ec_TooMany hxd (ev_var rfl) ev_ref rfl T.kt_TooMany_TooMany)) fun _ => et_and (et_B (ev_isX T.ec_TooMany hxd (ev_var rfl) ev_ty rfl T.kt_TooMany_ValueError)) fun _ => et_not (et_B (ev_isX T.ec_TooMany hxd (ev_var rfl) ev_ref rfl T.kt_TooMany_BadRule))).is rfl) (fun _ => ?_) fun h => by cases h)
        refine s_ret (ev_lst (ea_cons ev_str (ea_cons (ev_xf (d := .int 300) hxd (ev_var rfl) (by simp [List.lookup]) rfl) ea_nil))) ?_
        show _ = dueG n rules
        unfold dueG
        rw [if_pos h1]
      · refine ⟨true, T.xm_TooMany_Fault, fun _ ea dd T2 hxd => ?_, fun h => by cases h⟩
        unfold ts__law_made_1
        have hxd' := hxd
        obtain ⟨q', rfl, hxm⟩ := hxd'
        refine s_seq (s_if (c := true) ((et_and (et_B (ev_isX T.ec_TooMany hxd (ev_var rfl) ev_ref rfl T.kt_TooMany_TooMany)) fun _ => et_and (et_B (ev_isX T.ec_TooMany hxd (ev_var rfl) ev_ty rfl T.kt_TooMany_ValueError)) fun _ => et_not (et_B (ev_isX T.ec_TooMany hxd (ev_var rfl) ev_ref rfl T.kt_TooMany_BadRule))).is rfl) (fun _ => ?_) fun h => by cases h)
        refine s_ret (ev_lst (ea_cons ev_str (ea_cons (ev_xf (d := .int 900) hxd (ev_var rfl) (by simp [List.lookup]) rfl) ea_nil))) ?_
        show _ = dueG n rules
        unfold dueG
        rw [if_neg (by omega), if_pos h2]
      · refine ⟨true, T.xm_BadRule_Fault, fun _ ea dd T2 hxd => ?_, fun h => by cases h⟩
        unfold ts__law_made_1
        have hxd' := hxd
        obtain ⟨q', rfl, hxm⟩ := hxd'
        refine s_seq (s_if (c := false) ((et_and (c' := false) (et_B (ev_isX T.ec_BadRule hxd (ev_var rfl) ev_ref rfl T.kt_BadRule_TooMany)) fun h => by cases h).is (c' := false) rfl) (fun h => by cases h) fun _ => s_next ?_)
        refine s_seq (s_if (c := true) ((et_and (et_B (ev_isX T.ec_BadRule hxd (ev_var rfl) ev_ref rfl T.kt_BadRule_BadRule)) fun _ => et_and (et_B (ev_isX T.ec_BadRule hxd (ev_var rfl) ev_ty rfl T.kt_BadRule_ValueError)) fun _ => et_not (et_B (ev_isX T.ec_BadRule hxd (ev_var rfl) ev_ref rfl T.kt_BadRule_TooMany))).is rfl) (fun _ => ?_) fun h => by cases h)
        refine s_ret (ev_lst (ea_cons ev_str (ea_cons (ev_xf (d := .int (k : Nat)) hxd (ev_var rfl) (by simp [List.lookup]) rfl) ea_nil))) ?_
        show _ = dueG n rules
        unfold dueG
        rw [if_neg (by omega), if_neg (by omega), hk]
  · rintro A ⟨hG, rfl⟩
    obtain ⟨g1, g2, g3⟩ := hG
    have hdue : dueG n rules = .lst [.str "made", .int n, .tup (rules.map rawD)] := by
      unfold dueG
      rw [if_neg (by omega), if_neg (by omega), firstBad_none g3]
    rw [hdue]
    have eL : eqOk 2 (.lst (rules.map rawD)) = true := List.all_eq_true.mpr fun y hy => by
      obtain ⟨r, hr1, rfl⟩ := List.mem_map.mp hy
      exact (hr r hr1).2.2.1
    refine s_seq (s_if (c := false) ((et_val (ev_neX 1 (ev_var rfl) (ev_var rfl) (.mov List.mem_cons_self) eL eL (by decide))).is (by rw [eqD_self eL]; rfl)) (fun h => by cases h) fun _ => s_next ?_)
    refine s_seq (s_drop (ev_append (ev_var rfl) (ev_tup (ea_cons ev_str (ea_cons ev_int (ea_cons ev_str (ea_cons ev_str ea_nil))))) .here .here (by rw [List.length_map]; omega)) ?_)
    refine s_seq (s_setL (n := 0) (d := .tup [.str "leaf", .int 0, .str "qq", .str "q"]) (ev_tup (ea_cons ev_str (ea_cons ev_int (ea_cons ev_str (ea_cons ev_str ea_nil))))) (ev_var rfl) ev_int (by rw [List.length_append]; unfold ixN; rw [if_pos (by omega), if_pos (by simp)]; rfl) .here ?_)
    have hsame : smOk 40 (.lst [.str "pairs", .str "pairs"]) = true ∧ szD (.lst [.str "pairs", .str "pairs"]) ≤ 100000 := ⟨by decide +kernel, by simp [szD, szDs]⟩
    obtain ⟨u1, hcon⟩ := T.con_PairGrammar_KIND
    obtain ⟨mc, u2, hcr, hcv⟩ := T.cval_PairGrammar_KIND
    refine s_seq (s_if (c := false) ((et_or (et_not (et_B (ev_isiO T.cl_PairGrammar T.ic_PairGrammar (ev_var rfl) ev_ref (.frz _) rfl T.kt_PairGrammar_Grammar))) fun _ => et_not (et_B (ev_callN (.lst [.str "pairs", .str "pairs"]) (ea_cons (ev_lst (ea_cons (ev_con (vc := .str "pairs") (ev_var rfl) (.frz _) T.cl_PairGrammar hcon (gramNo _ _ _ (by decide +kernel) (by decide +kernel) (by decide +kernel)) (fun G => .str _)) (ea_cons (ev_cval (vc := .str "pairs") ev_ref hcr hcv (fun G => .str _)) ea_nil))) (ea_cons (by walk_at "e") ea_nil)) hsame rfl (fun d' h => h) (fun C o h => h)))).is rfl) (fun h => by cases h) fun _ => s_next ?_)
    exact s_ret (ev_lst (ea_cons ev_str (ea_cons (ev_fld (ev_var rfl) (.frz _) T.cl_PairGrammar T.n_PairGrammar_names (gramNames _ _ _)) (ea_cons (ev_fld (ev_var rfl) (.frz _) T.cl_PairGrammar T.n_PairGrammar_rules (gramRules _ _ _)) ea_nil)))) rfl
end
end KB
namespace KB
open PySem PySem.Spec PyProof.Rows L2 LD
abbrev sk (s : Str) : Prop := ∀ c ∈ s.cps.toList, c < 0x110000
theorem sk_ok {s : Str} (h : sk s) : PyData.strOk s = true := by
  unfold PyData.strOk
  rw [Array.all_eq_true_iff_forall_mem]
  intro c hc
  exact decide_eq_true (h c (by simpa using hc))
theorem sk_let {s : Str} (h : ∀ c ∈ s.cps.toList, c ∈ letters.cps.toList) : sk s := fun c hc => by
  have key : ∀ c ∈ letters.cps.toList, c < 0x110000 := by decide +kernel
  exact key c (h c hc)
theorem sk_app {s t : Str} (h1 : sk s) (h2 : sk t) : sk (s ++ t) := fun c hc => by
  rw [PySem.Str.cps_append, Array.toList_append] at hc
  rcases List.mem_append.mp hc with h | h
  · exact h1 c h
  · exact h2 c h
theorem cutG_mem {α : Type} {xs : List α} {lo hi : Option Int} {x : α} (h : x ∈ cutG xs lo hi) : x ∈ xs := by
  unfold cutG at h
  exact List.mem_of_mem_drop (List.mem_of_mem_take h)
theorem sk_cut {s : Str} (h : sk s) (lo hi : Option Int) : sk (cutS s lo hi) := fun c hc => by
  have hc : c ∈ cp (cutS s lo hi) := hc
  rw [cp_cut] at hc
  exact h c (cutG_mem hc)
def okKey : Key → Prop
  | .inl _ => True
  | .inr s => sk s ∧ s.length ≤ 1000
theorem okRaw_mk {kd : Str} (h : sk kd) {z : Int} {x y : Key} (hx : okKey x) (hy : okKey y) : okRaw (kd, .inl z, x, y) := by
  have e : ∀ {x : Key}, okKey x → eqOk 0 (keyD x) = true ∧ smOk 0 (keyD x) = true := fun {x} hx => by
    cases x with
    | inl z => exact ⟨rfl, rfl⟩
    | inr s => exact ⟨sk_ok hx.1, sk_ok hx.1⟩
  refine ⟨⟨z, rfl⟩, ?_, ?_, fun s hs => ?_⟩
  · show ([Dt.str kd, .int z, keyD x, keyD y].all (smOk 0)) = true
    rw [List.all_eq_true]
    intro d hd
    simp only [List.mem_cons, List.not_mem_nil, or_false] at hd
    rcases hd with e' | e' | e' | e' <;> subst e'
    · exact sk_ok h
    · rfl
    · exact (e hx).2
    · exact (e hy).2
  · show ([Dt.str kd, .int z, keyD x, keyD y].all (eqOk 0)) = true
    rw [List.all_eq_true]
    intro d hd
    simp only [List.mem_cons, List.not_mem_nil, or_false] at hd
    rcases hd with e' | e' | e' | e' <;> subst e'
    · exact sk_ok h
    · rfl
    · exact (e hx).1
    · exact (e hy).1
  · rcases hs with e' | e'
    · have e' : x = .inr s := e'
      subst e'; exact hx.2
    · have e' : y = .inr s := e'
      subst e'; exact hy.2
section
variable {P : Program} {w : World} {K : PySem.W.Frag} {mg : Str → Option Value} {base : Heap} {a : Ad}
theorem d__law_bad_rule (vs : List V) (H : Hp) (Q : VK) (E : XK) (h : sp__law_bad_rule K a vs H Q E) : t__law_bad_rule K a E { nx := fun _ H' => Q .non H', rt := Q } (L2.start N__law_bad_rule vs) H := h.body (N := N__law_bad_rule) fun x b ok mu hw => by
  obtain ⟨drawn, names, pool⟩ := x
  obtain ⟨⟨hl, hb⟩, hn, hpool⟩ : (drawn.length = 6 ∧ ∀ z ∈ drawn, 0 ≤ z ∧ z < 997) ∧ 1 ≤ names ∧ okPool pool := ok
  have hs : sizeLine = 16777216 := sizeLine_eq
  match drawn, hl, hb with
  | [d0, d1, d2, d3, d4, d5], _, hb =>
    show StA b (t__law_bad_rule K a E) ⟨[some (intsD [d0, d1, d2, d3, d4, d5]), some (.int names), some (.str pool), none, none, none, none, none, none, none, none], []⟩ ⟨_, _, _, fun d _ => ∃ r, d = rawD r ∧ okRaw r⟩
    have b1 := hb d1 (by simp)
    have b3 := hb d3 (by simp)
    have ix : ∀ {j : Nat} {z : Int} {γ : List (Option Dt)} {M}, γ[0]? = some (some (intsD [d0, d1, d2, d3, d4, d5])) → [d0, d1, d2, d3, d4, d5][j]? = some z → EvM b (tOp (rIx K) (tVar 0) (tC (.int (j : Int)))) ⟨γ, M⟩ (.int z) ⟨γ, M⟩ := fun h1 h2 => ev_ixL (ev_var h1) ev_int (atI_map Dt.int (atI_nat h2))
    unfold t__law_bad_rule
    refine s_seq (s_asg (ev_mod (ev_intI (ix (j := 0) rfl rfl)) (ev_var rfl) (by omega)) ?_)
    have m5 := mod_in d2 (j := 5) (by decide)
    obtain ⟨wr, hw1, _⟩ := atI_in (xs := [-1, names, -1 - d1 % 9, names + d1 % 9, 10 ^ (20 : Int).toNat]) m5.1 m5.2
    refine s_seq (s_asg (ev_ixL (ds := [-1, names, -1 - d1 % 9, names + d1 % 9, 10 ^ (20 : Int).toNat].map Dt.int) (ev_lst (ea_cons (ev_neg ev_int) (ea_cons (ev_var rfl) (ea_cons (ev_sub (ev_neg ev_int) (ev_mod (ev_intI (ix (j := 1) rfl rfl)) ev_int (by decide))) (ea_cons (ev_add (ev_var rfl) (ev_mod (ev_intI (ix (j := 1) rfl rfl)) ev_int (by decide))) (ea_cons (ev_pow ev_int ev_int ⟨by decide, by decide⟩) ea_nil)))))) (ev_mod (ev_intI (ix (j := 2) rfl rfl)) ev_int (by decide)) (atI_map Dt.int hw1)) ?_)
    obtain ⟨nm, hnm⟩ : ∃ nm : Int, nm = d0 % names := ⟨_, rfl⟩
    rw [← hnm]
    have m12 := mod_in d3 (j := 12) (by decide)
    refine s_seq (s_asgR (R := fun d A' => (∃ s : Str, d = .str s ∧ (s.length : Int) = d3 % 12 ∧ ∀ c ∈ s.cps.toList, c ∈ letters.cps.toList) ∧ A' = ⟨[some (intsD [d0, d1, d2, d3, d4, d5]), some (.int names), some (.str pool), some (.int nm), some (.int wr), none, none, none, none, none, none], []⟩) (er_callN (d3, d3 % 12, pool) (ea_cons (ix (j := 3) rfl rfl) (ea_cons (ev_mod (ev_intI (ix (j := 3) rfl rfl)) ev_int (by decide)) (ea_cons (ev_var rfl) ea_nil))) ⟨b3.1, b3.2, m12.1, by show d3 % 12 ≤ 100; omega, hpool⟩ (dds := []) (fun _ => .nil) rfl (fun d h => ⟨h, rfl⟩) (fun C o h => h)) ?_)
    rintro d A1 ⟨⟨tx, rfl, tl, th⟩, rfl⟩
    have htl : tx.length ≤ 12 := by omega
    refine s_seq (s_asg (ev_mod (ev_intI (ix (j := 1) rfl rfl)) (ev_add (ev_lenS (ev_var rfl) (by omega)) ev_int) (by omega)) ?_)
    have m7 := mod_in d2 (j := 7) (by decide)
    have hbadl : (" A{~09Z" : Str).cps.toList.length = 7 := by decide +kernel
    obtain ⟨c, hc1, hc2⟩ := atI_in (xs := (" A{~09Z" : Str).cps.toList) m7.1 (by rw [hbadl]; exact m7.2)
    have hcs : sk (⟨#[c]⟩ : Str) := fun c' hc' => by
      have e : c' = c := by simpa using hc'
      have key : ∀ c ∈ (" A{~09Z" : Str).cps.toList, c < 0x110000 := by decide +kernel
      rw [e]; exact key c hc2
    have cl1 := cutS_len tx none (some (d1 % ((tx.length : Int) + 1)))
    have cl2 := cutS_len tx (some (d1 % ((tx.length : Int) + 1))) none
    have hone : (⟨#[c]⟩ : Str).length = 1 := rfl
    refine s_seq (s_asg (ev_addS (ev_addS (ev_slS (ev_var rfl) eo_none (eo_some (ev_var rfl)) (by omega)) (ev_ixS ev_str (ev_mod (ev_intI (ix (j := 2) rfl rfl)) ev_int (by decide)) (by decide +kernel) hc1) (by rw [hone]; omega)) (ev_slS (ev_var rfl) (eo_some (ev_var rfl)) eo_none (by omega)) (by rw [str_len, hone]; omega)) ?_)
    obtain ⟨sp, hsp⟩ : ∃ sp : Str, sp = cutS tx none (some (d1 % ((tx.length : Int) + 1))) ++ ⟨#[c]⟩ ++ cutS tx (some (d1 % ((tx.length : Int) + 1))) none := ⟨_, rfl⟩
    have sksp : sk sp ∧ sp.length ≤ 1000 := ⟨by rw [hsp]; exact sk_app (sk_app (sk_cut (sk_let th) _ _) hcs) (sk_cut (sk_let th) _ _), by rw [hsp, str_len, str_len, hone]; omega⟩
    rw [← hsp]
    have m4 := mod_in d3 (j := 4) (by decide)
    obtain ⟨w4, hw4, hw4m⟩ := atI_in (xs := [(13 : Int), 13, 14, 20]) m4.1 m4.2
    have hw4b : 0 ≤ w4 ∧ w4 ≤ 20 := by
      simp only [List.mem_cons, List.not_mem_nil, or_false] at hw4m
      omega
    obtain ⟨at_, hat⟩ : ∃ at_ : Int, at_ = d1 % ((tx.length : Int) + 1) := ⟨_, rfl⟩
    rw [← hat]
    refine s_seq (s_asgR (R := fun d A' => (∃ s : Str, d = .str s ∧ (s.length : Int) = w4 ∧ ∀ c ∈ s.cps.toList, c ∈ letters.cps.toList) ∧ A' = ⟨[some (intsD [d0, d1, d2, d3, d4, d5]), some (.int names), some (.str pool), some (.int nm), some (.int wr), some (.str tx), some (.int at_), some (.str sp), none, none, none], []⟩) (er_callN (d1, w4, pool) (ea_cons (ix (j := 1) rfl rfl) (ea_cons (ev_ixL (ds := [(13 : Int), 13, 14, 20].map Dt.int) (by walk_at "e") (ev_mod (ev_intI (ix (j := 3) rfl rfl)) ev_int (by decide)) (atI_map Dt.int hw4)) (ea_cons (ev_var rfl) ea_nil))) ⟨b1.1, b1.2, hw4b.1, by show w4 ≤ 100; omega, hpool⟩ (dds := []) (fun _ => .nil) rfl (fun d h => ⟨h, rfl⟩) (fun C o h => h)) ?_)
    rintro d A1 ⟨⟨wd, rfl, wl, wh⟩, rfl⟩
    have m3 := mod_in d4 (j := 3) (by decide)
    obtain ⟨kd, hk1, hk2⟩ := atI_in (xs := [("wrap" : Str), "left", "right"]) m3.1 m3.2
    have hkd : sk kd ∧ kd.length ≤ 5 := by
      simp only [List.mem_cons, List.not_mem_nil, or_false] at hk2
      rcases hk2 with e | e | e <;> subst e <;> exact ⟨by decide +kernel, by decide +kernel⟩
    refine s_seq (s_asg (ev_ixL (ds := [("wrap" : Str), "left", "right"].map Dt.str) (by walk_at "e") (ev_mod (ev_intI (ix (j := 4) rfl rfl)) ev_int (by decide)) (atI_map Dt.str hk1)) ?_)
    have skt : okKey (.inr tx) := ⟨sk_let th, by omega⟩
    have skw : okKey (.inr wd) := ⟨sk_let wh, by omega⟩
    have sks : okKey (.inr sp) := sksp
    have sk0 : okKey (.inr "") := ⟨by decide +kernel, by decide +kernel⟩
    have skl : sk "leaf" := by decide +kernel
    obtain ⟨R1, hR1⟩ : ∃ R : List RawRule, R = [(kd, .inl wr, .inl nm, .inl nm), (kd, .inl nm, .inl wr, .inl nm), (kd, .inl nm, .inl nm, .inl wr), (("leaf" : Str), .inl wr, .inr tx, .inr "")] := ⟨_, rfl⟩
    obtain ⟨R2, hR2⟩ : ∃ R : List RawRule, R = [(("leaf" : Str), .inl nm, .inr wd, .inr ""), (("leaf" : Str), .inl nm, .inr tx, .inr wd), (("leaf" : Str), .inl nm, .inr sp, .inr tx), (("leaf" : Str), .inl nm, .inr "", .inr sp)] := ⟨_, rfl⟩
    obtain ⟨R3, hR3⟩ : ∃ R : List RawRule, R = [(("leaf" : Str), .inl nm, .inl nm, .inl nm), (kd, .inl nm, .inr tx, .inr ""), (("Leaf" : Str), .inl nm, .inr tx, .inr ""), (("emit" : Str), .inl nm, .inl nm, .inl nm)] := ⟨_, rfl⟩
    obtain ⟨R4, hR4⟩ : ∃ R : List RawRule, R = [(("" : Str), .inl nm, .inl nm, .inl nm), (kd ++ " ", .inl nm, .inl nm, .inl nm)] := ⟨_, rfl⟩
    have hsk1 : (" " : Str).length = 1 := by decide +kernel
    have hall : ∀ r ∈ R1 ++ R2 ++ R3 ++ R4, okRaw r := fun r hr => by
      rw [hR1, hR2, hR3, hR4] at hr
      simp only [List.cons_append, List.nil_append, List.mem_cons, List.not_mem_nil, or_false] at hr
      rcases hr with e | e | e | e | e | e | e | e | e | e | e | e | e | e <;> subst e
      · exact okRaw_mk hkd.1 trivial trivial
      · exact okRaw_mk hkd.1 trivial trivial
      · exact okRaw_mk hkd.1 trivial trivial
      · exact okRaw_mk skl skt sk0
      · exact okRaw_mk skl skw sk0
      · exact okRaw_mk skl skt skw
      · exact okRaw_mk skl sks skt
      · exact okRaw_mk skl sk0 sks
      · exact okRaw_mk skl trivial trivial
      · exact okRaw_mk hkd.1 skt sk0
      · exact okRaw_mk (by decide +kernel) skt sk0
      · exact okRaw_mk (by decide +kernel) trivial trivial
      · exact okRaw_mk (by decide +kernel) trivial trivial
      · exact okRaw_mk (sk_app hkd.1 (by decide +kernel)) trivial trivial
    refine s_seq (s_asg (d := .lst (R1.map rawD)) (by rw [hR1]; exact (by walk_at "e")) ?_)
    have l1 : R1.length = 4 := by rw [hR1]; rfl
    have l2 : R2.length = 4 := by rw [hR2]; rfl
    have l3 : R3.length = 4 := by rw [hR3]; rfl
    have l4 : R4.length = 2 := by rw [hR4]; rfl
    refine s_seq (s_asg (d := .lst ((R1 ++ R2).map rawD)) (by rw [List.map_append]; exact ev_cat (es := R2.map rawD) (ev_var rfl) (by rw [hR2]; exact (by walk_at "e")) (by simp only [List.length_map]; omega)) ?_)
    refine s_seq (s_asg (d := .lst ((R1 ++ R2 ++ R3).map rawD)) (by rw [List.map_append (l₂ := R3)]; exact ev_cat (es := R3.map rawD) (ev_var rfl) (by rw [hR3]; exact (by walk_at "e")) (by simp only [List.length_map, List.length_append]; omega)) ?_)
    refine s_seq (s_asg (d := .lst ((R1 ++ R2 ++ R3 ++ R4).map rawD)) (by rw [List.map_append (l₂ := R4)]; exact ev_cat (es := R4.map rawD) (ev_var rfl) (by rw [hR4]; exact ev_lst (ea_cons (by walk_at "e") (ea_cons (ev_tup (ea_cons (ev_addS (ev_var rfl) ev_str (by rw [hsk1]; omega)) (ea_cons (ev_var rfl) (ea_cons (ev_var rfl) (ea_cons (ev_var rfl) ea_nil))))) ea_nil))) (by simp only [List.length_map, List.length_append]; omega)) ?_)
    have m14 := mod_in d5 (j := 14) (by decide)
    obtain ⟨r, hr1, hr2⟩ := atI_in (xs := R1 ++ R2 ++ R3 ++ R4) m14.1 (by simp only [List.length_append, l1, l2, l3, l4]; exact m14.2)
    exact s_ret (ev_ixL (ev_var rfl) (ev_mod (ev_intI (ix (j := 5) rfl rfl)) ev_int (by decide)) (atI_map rawD hr1)) ⟨r, rfl, hall r hr2⟩
end
end KB
namespace KB
open PySem PySem.Spec PyProof.Rows L2 LD
theorem join_cps : ∀ ys : List Str, (Str.join "" ys).cps.toList = ys.flatMap fun s => s.cps.toList
  | [] => rfl
  | [x] => by show x.cps.toList = _; simp
  | x :: y :: r => by
    show (x ++ "" ++ Str.join "" (y :: r)).cps.toList = _
    rw [PySem.Str.cps_append, PySem.Str.cps_append, List.flatMap_cons, ← join_cps (y :: r)]
    simp
    rfl
theorem join_ones {ys : List Str} {f : Nat → Nat} {n : Nat} (h : ys = (List.range n).map fun i => (⟨#[f i]⟩ : Str)) : (Txt.join "" ys).cps.toList = (List.range n).map f := by
  rw [TL.join_eq, join_cps, h]
  simp [List.flatMap_map, List.flatMap_singleton']
  induction List.range n with
  | nil => rfl
  | cons x xs ih => simp [ih]
theorem check_due (t : Str) : smOk 40 (checkD t) = true ∧ szD (checkD t) ≤ 100000 := by
  have h1 : PyData.strOk ("told" : Str) = true := by decide +kernel
  have h2 : PyData.strOk ("bad" : Str) = true := by decide +kernel
  unfold checkD
  split
  · exact ⟨by simp [smOk, h1], by simp [szD, szDs]⟩
  · exact ⟨by simp [smOk, h2], by simp [szD, szDs]⟩
theorem sm_due {n : Int} {rules : List RawRule} (hl : rules.length ≤ 2000) (hr : ∀ r ∈ rules, okRaw r) : smOk 40 (dueG n rules) = true ∧ szD (dueG n rules) ≤ 100000 := by
  have h1 : PyData.strOk ("many" : Str) = true := by decide +kernel
  have h2 : PyData.strOk ("bad" : Str) = true := by decide +kernel
  have h3 : PyData.strOk ("made" : Str) = true := by decide +kernel
  have up : ∀ (k : Nat) {d : Dt}, smOk 1 d = true → smOk (1 + k) d = true := fun k => by
    induction k with
    | zero => exact fun h => h
    | succ k ih => exact fun h => smOk_succ (1 + k) (ih h)
  have hsz : ∀ rs : List RawRule, (∀ r ∈ rs, okRaw r) → szDs (rs.map rawD) ≤ 5 * rs.length := fun rs => by
    induction rs with
    | nil => intro _; simp [szDs]
    | cons r rs ih =>
      intro h
      have := ih fun r hr => h r (List.mem_cons_of_mem _ hr)
      have hk : ∀ k : Key, szD (keyD k) = 1 := fun k => by cases k <;> rfl
      rw [List.map_cons, szDs, List.length_cons]
      have : szD (rawD r) = 5 := by
        unfold rawD
        simp [szD, szDs, hk]
      omega
  unfold dueG
  split
  · exact ⟨by simp [smOk, h1], by simp [szD, szDs]⟩
  · split
    · exact ⟨by simp [smOk, h1], by simp [szD, szDs]⟩
    · split
      · exact ⟨by simp [smOk, h2], by simp [szD, szDs]⟩
      · refine ⟨?_, ?_⟩
        · have : (rules.map rawD).all (smOk 38) = true := List.all_eq_true.mpr fun y hy => by
            obtain ⟨r, hr1, rfl⟩ := List.mem_map.mp hy
            exact up 37 (hr r hr1).2.1
          simp only [smOk, List.all_cons, List.all_nil, h3, this, Bool.and_true]
        · have := hsz rules hr
          simp only [szD, szDs]
          omega
end KB
namespace KB
open PySem PySem.Spec PyProof.Rows L2 LD
section
variable {P : Program} {w : World} {K : PySem.W.Frag} {mg : Str → Option Value} {base : Heap} {a : Ad}
theorem d__law_texts_hold (vs : List V) (H : Hp) (Q : VK) (E : XK) (h : sp__law_texts_hold K a vs H Q E) : t__law_texts_hold K a E { nx := fun _ H' => Q .non H', rt := Q } (L2.start N__law_texts_hold vs) H := h.body (N := N__law_texts_hold) fun row b ok mu hw => by
  have hrow : okRow row := ok
  have hs : sizeLine = 16777216 := sizeLine_eq
  show StA b (t__law_texts_hold K a E) ⟨[some (intsD row), none, none, none, none, none, none, none, none], []⟩ ⟨_, _, _, fun d _ => d = .bl true⟩
  unfold t__law_texts_hold
  obtain ⟨r120, h120, _⟩ := row_ix hrow (i := 120) (by decide) (by decide)
  obtain ⟨r121, h121, _⟩ := row_ix hrow (i := 121) (by decide) (by decide)
  obtain ⟨r122, h122, b122⟩ := row_ix hrow (i := 122) (by decide) (by decide)
  obtain ⟨r123, h123, b123⟩ := row_ix hrow (i := 123) (by decide) (by decide)
  obtain ⟨r124, h124, _⟩ := row_ix hrow (i := 124) (by decide) (by decide)
  obtain ⟨r125, h125, _⟩ := row_ix hrow (i := 125) (by decide) (by decide)
  obtain ⟨bs, hbs⟩ : ∃ bs : Str, bs = " !#$&'()*+,-./0123456789:;<=>?@ABCDEFGHIJKLMNOPQRSTUVWXYZ[]^_{|}~" := ⟨_, rfl⟩
  have hbl : bs.length = 65 := by rw [hbs]; decide +kernel
  refine s_seq (s_asg (d := .str bs) (by rw [hbs]; exact ev_str) ?_)
  refine s_seq (s_asg (d := .str letters) ev_str ?_)
  have m4 := mod_in r121 (j := 4) (by decide)
  obtain ⟨sz, hsz, hszm⟩ := atI_in (xs := [r120 % 63, 60, 61, r120 % 9]) m4.1 m4.2
  have hsz0 : 0 ≤ sz ∧ sz ≤ 63 := by
    simp only [List.mem_cons, List.not_mem_nil, or_false] at hszm
    omega
  refine s_seq (s_asg (ev_ixL (ds := [r120 % 63, 60, 61, r120 % 9].map Dt.int) (by walk_at "e") (by walk_at "e") (atI_map Dt.int hsz)) ?_)
  obtain ⟨zn, rfl⟩ : ∃ n : Nat, sz = n := ⟨sz.toNat, by omega⟩
  have hll : letters.length ≤ sizeLine := by decide +kernel
  obtain ⟨f, hf⟩ : ∃ f : Nat → Nat, f = fun i => chrAt (r122 + (0 + (i : Nat)) * r123) := ⟨_, rfl⟩
  have hgv : given zn (fun _ => true) (fun i => Dt.str ⟨#[f i]⟩) = ((List.range zn).map fun i => (⟨#[f i]⟩ : Str)).map Dt.str := by
    unfold given
    rw [List.filter_eq_self.mpr (fun _ _ => rfl), List.map_map]
    rfl
  refine s_seq (s_asg (d := .str (Txt.join "" ((List.range zn).map fun i => (⟨#[f i]⟩ : Str)))) (ev_join (s := "") (ys := (List.range zn).map fun i => (⟨#[f i]⟩ : Str)) ev_str ((EvF.ev (ef_lc (k := 5) (fun _ => true) (fun i => .str ⟨#[f i]⟩) (ei_rng1n (n := zn) (ea_cons (ev_var rfl) ea_nil) (by omega)) (by simp) (by omega) (fun i M hi => fun T σ H k Q q => q H k) (fun i M hi _ => ?_)) mu).is (by rw [hgv])) ?_) ?_)
  · rw [hf]
    exact ev_ixS (s := letters) (ev_var rfl) (ev_mod (ev_intI (ev_add (ev_ixL (ev_var rfl) ev_int (atI_map Dt.int h122)) (ev_mul (ev_var rfl) (ev_ixL (ev_var rfl) ev_int (atI_map Dt.int h123)) (.inr (by constructor <;> omega))))) ev_int (by decide)) hll (chr_ok _).1
  · have e : ((((List.range zn).map fun i => (⟨#[f i]⟩ : Str)).map (·.length)).sum) = zn := by
      rw [List.map_map]
      have : (((fun x : Str => x.length) ∘ fun i : Nat => (⟨#[f i]⟩ : Str)) : Nat → Nat) = fun _ => 1 := funext fun _ => rfl
      rw [this, List.map_const', List.length_range, List.sum_replicate_nat]
      omega
    rw [e, List.length_map, List.length_range, show ("" : Str).length = 0 from rfl]
    omega
  obtain ⟨t, ht⟩ : ∃ t : Str, t = Txt.join "" ((List.range zn).map fun i => (⟨#[f i]⟩ : Str)) := ⟨_, rfl⟩
  have hj := join_ones (f := f) (n := zn) rfl
  rw [← ht] at hj ⊢
  have htl : t.length = zn := by
    show t.cps.size = zn
    rw [← Array.length_toList, hj]; simp
  refine s_seq (s_asg (ev_mod (ev_intI (ev_ixL (ev_var rfl) ev_int (atI_map Dt.int h124))) (ev_add (ev_var rfl) ev_int) (by omega)) ?_)
  obtain ⟨at_, hat⟩ : ∃ z : Int, z = r124 % ((zn : Int) + 1) := ⟨_, rfl⟩
  rw [← hat]
  have mb := mod_in r125 (j := (65 : Int)) (by decide)
  obtain ⟨c, hc1, hc2⟩ := atI_in (xs := bs.cps.toList) mb.1 (by rw [Array.length_toList]; have : bs.cps.size = 65 := hbl; omega)
  have cl1 := cutS_len t none (some at_)
  have cl2 := cutS_len t (some (at_ + 1)) none
  have hone : (⟨#[c]⟩ : Str).length = 1 := rfl
  obtain ⟨o, ho⟩ : ∃ o : Str, o = cutS t none (some at_) ++ ⟨#[c]⟩ ++ cutS t (some (at_ + 1)) none := ⟨_, rfl⟩
  have hol : o.length ≤ 200 := by rw [ho, str_len, str_len, hone]; omega
  refine s_seq (s_forL (P := ⟨fun A => StA b (tRet _) A _, _, _, _⟩) (xs := [t, o]) (f := Dt.str) (fun i A => ∃ g7 g8, A = ⟨[some (intsD row), some (.str bs), some (.str letters), some (.int (zn : Int)), some (.str t), none, some (.int at_), g7, g8], []⟩)
    (ei_seqL (ds := [.str t, .str o]) (ev_lst (ea_cons (ev_var rfl) (ea_cons (by
      rw [ho]
      exact ev_addS (ev_addS (ev_slS (ev_var rfl) eo_none (eo_some (ev_var rfl)) (by omega)) (ev_ixS (ev_var rfl) (ev_mod (ev_intI (ev_ixL (ev_var rfl) ev_int (atI_map Dt.int h125))) ((ev_lenS (ev_var rfl) (by omega)).is (by rw [hbl]; rfl)) (by decide)) (by omega) hc1) (by rw [hone]; omega)) (ev_slS (ev_var rfl) (eo_some (ev_add (ev_var rfl) ev_int)) eo_none (by omega)) (by rw [str_len, hone]; omega)) ea_nil)))) (Up.of ⟨none, none, rfl⟩) ?_ ?_)
  · rintro i x A hx ⟨g7, g8, rfl⟩
    have hxl : x.length ≤ 1000 := by
      have := List.mem_of_getElem? hx
      simp only [List.mem_cons, List.not_mem_nil, or_false] at this
      rcases this with e | e <;> rw [e] <;> omega
    refine ⟨_, ga_name, ?_⟩
    refine s_seq (s_asg (d := .lst [.str "told", .non]) (by walk_at "e") ?_)
    refine s_seqI (fun A => A = ⟨[some (intsD row), some (.str bs), some (.str letters), some (.int (zn : Int)), some (.str t), none, some (.int at_), some (.str x), some (checkD x)], []⟩) ?_ ?_
    · refine s_if (et_val (ev_ge (ev_callN (x, 60) (ea_cons (ev_var rfl) (ea_cons ev_int ea_nil)) (by show x.length ≤ 1000000; omega) rfl (fun d' h => h) (fun C o h => h)) ev_int)) (fun hc => ?_) fun hc => ?_
      · have hc := of_decide_eq_true hc
        refine s_asg (ev_lst (ea_cons ev_str (ea_cons (ev_callN (x, 60) (ea_cons (ev_var rfl) (ea_cons ev_int ea_nil)) (by show x.length ≤ 1000000; omega) rfl (fun d' h => h) (fun C o h => h)) ea_nil))) (Up.of ?_)
        unfold checkD
        rw [if_neg (show ¬ badL x.cps.toList 60 0 < 0 by have hc : 0 ≤ badL x.cps.toList 60 0 := hc; omega)]
        rfl
      · have hc := of_decide_eq_false hc
        refine s_next (Up.of ?_)
        unfold checkD
        rw [if_pos (show badL x.cps.toList 60 0 < 0 by have hc : ¬ 0 ≤ badL x.cps.toList 60 0 := hc; omega)]
        rfl
    · rintro A rfl
      exact s_if (et_not (et_B (ev_callN (checkD x) (ea_cons (ev_callN (d := checkD x) x (ea_cons (ev_var rfl) ea_nil) (by show x.length ≤ 1000000; omega) rfl (fun d' h => h) (fun C o h => h)) (ea_cons (ev_var rfl) ea_nil)) (check_due x) rfl (fun d' h => h) (fun C o h => h)))) (fun h => by cases h) fun _ => s_next (Up.of ⟨_, _, rfl⟩)
  · rintro A ⟨g7, g8, rfl⟩
    exact s_ret ev_bl rfl
end
end KB
namespace KB
open PySem PySem.Spec PyProof.Rows L2 LD
theorem six {l : List Int} {j : Nat} (h : j + 6 ≤ l.length) (hb : ∀ z ∈ l, 0 ≤ z ∧ z < 997) : okDrawn ((l.drop j).take 6) := ⟨by rw [List.length_take, List.length_drop]; omega, fun z hz => hb z (List.mem_of_mem_drop (List.mem_of_mem_take hz))⟩
theorem cut_six {row : List Int} (hrow : okRow row) {j : Nat} (hj : j + 6 ≤ 226) : cutG row (some (j : Int)) (some ((j : Int) + 6)) = (row.drop j).take 6 := by
  rw [show (j : Int) + 6 = ((j + 6 : Nat) : Int) by omega, cutG_mid, List.drop_take]
  congr 1
  omega
theorem okRaw_good {drawn : List Int} {names : Int} (h : okDrawn drawn) : okRaw (goodF drawn names) := by
  have ht : ∀ n : Int, okKey (.inr (textF n)) := fun n => by
    have hm : ∀ c ∈ (textF n).cps.toList, c ∈ letters.cps.toList := fun c hc => by
      unfold textF at hc
      obtain ⟨i, _, rfl⟩ := List.mem_map.mp (by simpa using hc : c ∈ (List.range (lenT n)).map fun k : Nat => chrAt (n / 12 + (k : Int) * (1 + n % 5)))
      exact (chr_ok _).2
    refine ⟨sk_let hm, ?_⟩
    have hl : lenT n ≤ 12 := by
      unfold lenT
      generalize (n % 12).toNat = k
      rw [List.getD_eq_getElem?_getD]
      cases e : ([0, 1, 1, 2, 2, 3, 0, 1, 1, 2, 1, 12] : List Nat)[k]? with
      | none => decide
      | some v =>
        have := List.mem_of_getElem? e
        simp only [List.mem_cons, List.not_mem_nil, or_false] at this
        show v ≤ 12
        omega
    show (textF n).cps.size ≤ 1000
    unfold textF
    simp
    omega
  unfold goodF
  split
  · exact okRaw_mk (by decide +kernel) (ht _) (ht _)
  · refine okRaw_mk ?_ trivial trivial
    rw [List.getD_eq_getElem?_getD]
    cases e : (["leaf", "wrap", "left", "right"] : List Str)[(drawn.getD 0 0 % 4).toNat]? with
    | none => decide +kernel
    | some v =>
      have := List.mem_of_getElem? e
      simp only [List.mem_cons, List.not_mem_nil, or_false] at this
      show sk v
      rcases this with e | e | e | e <;> subst e <;> decide +kernel
end KB
namespace KB
open PySem PySem.Spec PyProof.Rows L2 LD
section
variable {K : PySem.W.Frag} {b : Bs} {A : Abs} {tb : TE} {t1 t2 : TO} {lo hi : Option Int} {R : List RawRule}
/-- rules[:lo] + [bad] + rules[hi:], the rules in slot 5 -/
theorem er_put (hl : R.length ≤ 1500) (hall : ∀ r ∈ R, okRaw r) (hv : A.γ[5]? = some (some (.lst (R.map rawD)))) (hbad : EvR b tb A fun d A' => (∃ r, d = rawD r ∧ okRaw r) ∧ A' = A) (h1 : EvO b t1 A lo A) (h2 : EvO b t2 A hi A) :
    EvR b (tOp (rPlus K) (tOp (rPlus K) (tSl (rSl K) (tVar 5) tNoPart t1) (tLst (tCons tb tNil))) (tSl (rSl K) (tVar 5) t2 tNoPart)) A fun d A' => (∃ R' : List RawRule, d = .lst (R'.map rawD) ∧ R'.length ≤ 2 * R.length + 1 ∧ ∀ r ∈ R', okRaw r) ∧ A' = A := by
  have hs : sizeLine = 16777216 := sizeLine_eq
  have e1 := (cutG_len R none lo)
  have e2 := (cutG_len R hi none)
  have hb1 : EvR b (tLst (tCons tb tNil)) A fun d A' => (∃ es, d = .lst es ∧ ∃ r, es = [rawD r] ∧ okRaw r) ∧ A' = A :=
    EvR.imp (ef_lstR (R := fun ds A' => (∃ r, ds = [rawD r] ∧ okRaw r) ∧ A' = A) (ear_cons hbad fun d A1 h => by
      obtain ⟨⟨r, rfl, hr⟩, rfl⟩ := h
      exact ear_nil ⟨⟨r, rfl, hr⟩, rfl⟩) fun ds A' h => by
        obtain ⟨⟨r, rfl, _⟩, _⟩ := h
        show 1 ≤ sizeLine; omega) fun d A' h => by
          obtain ⟨ds, rfl, ⟨r, rfl, hr⟩, rfl⟩ := h
          exact ⟨⟨_, rfl, r, rfl, hr⟩, rfl⟩
  have hc := er_catR (K := K) (ta := tSl (rSl K) (tVar 5) tNoPart t1) (ev_slL (K := K) (ev_var hv) eo_none h1) hb1 (fun es ⟨r, e, _⟩ => by rw [e, cutG_map, List.length_map]; simp only [List.length_cons, List.length_nil]; omega)
  have hc2 : EvR b (tOp (rPlus K) (tSl (rSl K) (tVar 5) tNoPart t1) (tLst (tCons tb tNil))) A fun d A' => (∃ ds, d = .lst ds ∧ ∃ r, ds = cutG (R.map rawD) none lo ++ [rawD r] ∧ okRaw r) ∧ A' = A := EvR.imp hc fun d A' h => by
    obtain ⟨⟨es, rfl, r, rfl, hr⟩, rfl⟩ := h
    exact ⟨⟨_, rfl, r, rfl, hr⟩, rfl⟩
  have hc3 := er_catL (K := K) (tb := tSl (rSl K) (tVar 5) t2 tNoPart) hc2 (ev_slL (K := K) (ev_var hv) h2 eo_none) (fun ds ⟨r, e, _⟩ => by rw [e, cutG_map, cutG_map]; simp only [List.length_append, List.length_map, List.length_cons, List.length_nil]; omega)
  refine EvR.imp hc3 fun d A' h => ?_
  obtain ⟨⟨ds, rfl, r, rfl, hr⟩, rfl⟩ := h
  refine ⟨⟨cutG R none lo ++ [r] ++ cutG R hi none, by rw [cutG_map, cutG_map]; simp, ?_, fun x hx => ?_⟩, rfl⟩
  · simp only [List.length_append, List.length_cons, List.length_nil]; omega
  · rcases List.mem_append.mp hx with h | h
    · rcases List.mem_append.mp h with h | h
      · exact hall x (cutG_mem h)
      · rw [List.mem_singleton.mp h]; exact hr
    · exact hall x (cutG_mem h)
end
end KB
namespace KB
open PySem PySem.Spec PyProof.Rows L2 LD
section
variable {P : Program} {w : World} {K : PySem.W.Frag} {mg : Str → Option Value} {base : Heap} {a : Ad}
theorem d__law_limits_hold (vs : List V) (H : Hp) (Q : VK) (E : XK) (h : sp__law_limits_hold K a vs H Q E) : t__law_limits_hold K a E { nx := fun _ H' => Q .non H', rt := Q } (L2.start N__law_limits_hold vs) H := h.body (N := N__law_limits_hold) fun x b ok mu hw => by
  obtain ⟨row, pool⟩ := x
  obtain ⟨hrow, hpool⟩ : okRow row ∧ okPool pool := ok
  have hs : sizeLine = 16777216 := sizeLine_eq
  show StA b (t__law_limits_hold K a E) ⟨[some (intsD row), some (.str pool), none, none, none, none, none, none], []⟩ ⟨_, _, _, fun d _ => d = .bl true⟩
  unfold t__law_limits_hold
  obtain ⟨r10, h10, _⟩ := row_ix hrow (i := 10) (by decide) (by decide)
  obtain ⟨r11, h11, _⟩ := row_ix hrow (i := 11) (by decide) (by decide)
  obtain ⟨r12, h12, _⟩ := row_ix hrow (i := 12) (by decide) (by decide)
  obtain ⟨zz, hzz⟩ : ∃ zz : List (Int × Int), zz = [(300, 5), (301, 5), (1, 900), (2, 901), (300, 900), (301, 901), (302, 0), (299, 899), (5, 902), (301, 900)] := ⟨_, rfl⟩
  have m10 := mod_in r10 (j := 10) (by decide)
  obtain ⟨⟨nm, ct⟩, hp1, hp2⟩ := atI_in (xs := zz) m10.1 (by rw [hzz]; exact m10.2)
  have hb : 1 ≤ nm ∧ nm ≤ 302 ∧ 0 ≤ ct ∧ ct ≤ 902 := by
    rw [hzz] at hp2
    simp only [List.mem_cons, List.not_mem_nil, or_false, Prod.mk.injEq] at hp2
    omega
  refine s_seq (s_asg (d := .lst (zz.map fun z => .tup [.int z.1, .int z.2])) (by rw [hzz]; exact (by walk_at "e")) ?_)
  refine s_seq (s_tgt (d := .tup [.int nm, .int ct]) (ev_ixL (ev_var rfl) (by walk_at "e") (atI_map (fun z : Int × Int => Dt.tup [.int z.1, .int z.2]) hp1)) (ga_tup (gas_cons ga_name (gas_cons ga_name gas_nil))) ?_)
  obtain ⟨cn, rfl⟩ : ∃ n : Nat, ct = n := ⟨ct.toNat, by omega⟩
  obtain ⟨R0, hR0⟩ : ∃ R0 : List RawRule, R0 = (List.range cn).map fun i => ((("leaf" : Str), .inl ((0 + (i : Nat)) % nm), .inr (cutS "ab" none (some ((0 + (i : Nat)) % 3))), .inr "") : RawRule) := ⟨_, rfl⟩
  have hRl : R0.length = cn := by rw [hR0]; simp
  have hab : ("ab" : Str).length = 2 := by decide +kernel
  have hR : ∀ r ∈ R0, okRaw r := fun r hr => by
    rw [hR0] at hr
    obtain ⟨i, _, rfl⟩ := List.mem_map.mp hr
    have cl := cutS_len "ab" none (some ((0 + (i : Nat) : Int) % 3))
    exact okRaw_mk (by decide +kernel) ⟨sk_cut (by decide +kernel) _ _, by omega⟩ ⟨by decide +kernel, by decide +kernel⟩
  have hgv : given cn (fun _ => true) (fun i => rawD ((("leaf" : Str), .inl ((0 + (i : Nat)) % nm), .inr (cutS "ab" none (some ((0 + (i : Nat)) % 3))), .inr "") : RawRule)) = R0.map rawD := by
    unfold given
    rw [List.filter_eq_self.mpr (fun _ _ => rfl), hR0, List.map_map]
    rfl
  refine s_seq (s_asg (d := .lst (R0.map rawD)) ((EvF.ev (ef_lc (k := 6) (fun _ => true) (fun i => rawD ((("leaf" : Str), .inl ((0 + (i : Nat)) % nm), .inr (cutS "ab" none (some ((0 + (i : Nat)) % 3))), .inr "") : RawRule)) (ei_rng1n (n := cn) (ea_cons (ev_var rfl) ea_nil) (by omega)) (by simp) (by omega) (fun i M hi => fun T σ H k Q q => q H k) (fun i M hi _ => ?_)) mu).is (by rw [hgv])) ?_)
  · exact ev_tup (ea_cons ev_str (ea_cons (ev_mod (ev_intI (ev_var rfl)) (ev_var rfl) (by omega)) (ea_cons (ev_slS ev_str eo_none (eo_some (ev_mod (ev_intI (ev_var rfl)) ev_int (by decide))) (by omega)) (ea_cons ev_str ea_nil))))
  refine s_seqI (fun A => ∃ (R : List RawRule) (g7 : Option Dt), R.length ≤ 2000 ∧ (∀ r ∈ R, okRaw r) ∧ A = ⟨[some (intsD row), some (.str pool), some (.lst (zz.map fun z => .tup [.int z.1, .int z.2])), some (.int nm), some (.int (cn : Int)), some (.lst (R.map rawD)), none, g7], []⟩) ?_ ?_
  · refine s_if (by walk_at "t") (fun hc => ?_) fun _ => s_next (Up.of ⟨R0, none, by omega, hR, rfl⟩)
    have hcp : 0 < (cn : Int) := by
      rw [Bool.and_eq_true] at hc
      exact of_decide_eq_true hc.2
    refine s_seq (s_asg (ev_mod (ev_intI (ev_ixL (ev_var rfl) ev_int (atI_map Dt.int h12))) (ev_var rfl) hcp) ?_)
    have hd := six (l := row) (j := 112) (by rw [hrow.1]; decide) hrow.2
    refine s_asgR (er_put (R := R0) (by omega) hR rfl (er_callN ((row.drop 112).take 6, nm, pool) (ea_cons ((ev_slL (ev_var rfl) (eo_some ev_int) (eo_some ev_int)).is (by rw [cutG_map]; exact congrArg (fun l : List Int => Dt.lst (l.map Dt.int)) (cut_six hrow (j := 112) (by decide)))) (ea_cons (ev_var rfl) (ea_cons (ev_var rfl) ea_nil))) ⟨hd, hb.1, hpool⟩ (dds := []) (fun _ => .nil) rfl (fun d h => ⟨h, rfl⟩) (fun C o h => h)) (eo_some (ev_var rfl)) (eo_some (ev_add (ev_var rfl) ev_int))) fun d A1 h => ?_
    obtain ⟨⟨R', rfl, hl', hr'⟩, rfl⟩ := h
    exact Up.of ⟨R', _, by omega, hr', rfl⟩
  rintro A ⟨R, g7, hl, hr, rfl⟩
  exact s_ret (ev_callN (dueG nm R) (ea_cons (ev_callN (d := dueG nm R) (nm, R) (by walk_at "a") ⟨hl, hr⟩ rfl (fun d' h => h) (fun C o h => h)) (ea_cons (ev_callN (d := dueG nm R) (nm, R) (by walk_at "a") ⟨hl, hr⟩ rfl (fun d' h => h) (fun C o h => h)) ea_nil)) (sm_due hl hr) rfl (fun d' h => h) (fun C o h => h)) rfl
end
end KB
namespace KB
open PySem PySem.Spec PyProof.Rows L2 LD
section
variable {P : Program} {w : World} {K : PySem.W.Frag} {mg : Str → Option Value} {base : Heap} {a : Ad}
theorem d__law_drawn_holds (T : Txt P K mg a) (vs : List V) (H : Hp) (Q : VK) (E : XK) (h : sp__law_drawn_holds K a vs H Q E) : t__law_drawn_holds K a E { nx := fun _ H' => Q .non H', rt := Q } (L2.start N__law_drawn_holds vs) H := h.body (N := N__law_drawn_holds) fun x b ok mu hw => by
  obtain ⟨row, pool⟩ := x
  obtain ⟨hrow, hpool⟩ : okRow row ∧ okPool pool := ok
  have hs : sizeLine = 16777216 := sizeLine_eq
  show StA b (t__law_drawn_holds K a E) ⟨[some (intsD row), some (.str pool), none, none, none, none, none, none], []⟩ ⟨_, _, _, fun d _ => d = .bl true⟩
  unfold t__law_drawn_holds
  obtain ⟨r4, h4, _⟩ := row_ix hrow (i := 4) (by decide) (by decide)
  obtain ⟨r5, h5, _⟩ := row_ix hrow (i := 5) (by decide) (by decide)
  obtain ⟨r6, h6, _⟩ := row_ix hrow (i := 6) (by decide) (by decide)
  obtain ⟨r7, h7, _⟩ := row_ix hrow (i := 7) (by decide) (by decide)
  have m4 := mod_in r5 (j := 4) (by decide)
  obtain ⟨nm, hn1, hn2⟩ := atI_in (xs := [1 + r4 % 6, 299, 300, 1 + r4 % 6]) m4.1 m4.2
  have hn : 1 ≤ nm ∧ nm ≤ 300 := by
    simp only [List.mem_cons, List.not_mem_nil, or_false] at hn2
    omega
  refine s_seq (s_asg (ev_ixL (ds := [1 + r4 % 6, 299, 300, 1 + r4 % 6].map Dt.int) (by walk_at "e") (by walk_at "e") (atI_map Dt.int hn1)) ?_)
  obtain ⟨gn, hgn⟩ : ∃ n : Nat, r6 % 13 = n := ⟨(r6 % 13).toNat, by omega⟩
  have hgn12 : gn ≤ 12 := by omega
  obtain ⟨R0, hR0⟩ : ∃ R0 : List RawRule, R0 = (List.range gn).map fun i => goodF ((row.drop (20 + 6 * i)).take 6) nm := ⟨_, rfl⟩
  have hsix : ∀ i, i < gn → okDrawn ((row.drop (20 + 6 * i)).take 6) := fun i hi => six (by rw [hrow.1]; omega) hrow.2
  have hRl : R0.length = gn := by rw [hR0]; simp
  have hR : ∀ r ∈ R0, okRaw r := fun r hr => by
    rw [hR0] at hr
    obtain ⟨i, hi, rfl⟩ := List.mem_map.mp hr
    exact okRaw_good (hsix i (List.mem_range.mp hi))
  have hgv : given gn (fun _ => true) (fun i => rawD (goodF ((row.drop (20 + 6 * i)).take 6) nm)) = R0.map rawD := by
    unfold given
    rw [List.filter_eq_self.mpr (fun _ _ => rfl), hR0, List.map_map]
    rfl
  have hcut : ∀ c i : Nat, c + 6 * i + 6 ≤ 226 → cutG (row.map Dt.int) (some ((c : Int) + 6 * (0 + (i : Nat)))) (some (((c + 6 : Nat) : Int) + 6 * (0 + (i : Nat)))) = ((row.drop (c + 6 * i)).take 6).map Dt.int := fun c i hi => by
    rw [cutG_map, show (c : Int) + 6 * (0 + (i : Nat)) = ((c + 6 * i : Nat) : Int) by omega, show ((c + 6 : Nat) : Int) + 6 * (0 + (i : Nat)) = ((c + 6 * i : Nat) : Int) + 6 by omega, cut_six hrow (by omega)]
  refine s_seq (s_asg (d := .lst (R0.map rawD)) ((EvF.ev (ef_lc (k := 4) (fun _ => true) (fun i => rawD (goodF ((row.drop (20 + 6 * i)).take 6) nm)) (ei_rng1n (n := gn) (ea_cons ((ev_mod (ev_intI (ev_ixL (ev_var rfl) ev_int (atI_map Dt.int h6))) ev_int (by decide)).is (by rw [hgn])) ea_nil) (by omega)) (by simp) (by omega) (fun i M hi => fun T σ H k Q q => q H k) (fun i M hi _ => ?_)) mu).is (by rw [hgv])) ?_)
  · exact ev_call0 ((row.drop (20 + 6 * i)).take 6, nm) (ea_cons ((ev_slL (ev_var rfl) (eo_some (ev_add ev_int (ev_mul ev_int (ev_var rfl) (.inl (by decide))))) (eo_some (ev_add ev_int (ev_mul ev_int (ev_var rfl) (.inl (by decide)))))).is (congrArg Dt.lst (hcut 20 i (by omega)))) (ea_cons (ev_var rfl) ea_nil)) ⟨hsix i hi, hn.1⟩ rfl (fun d' h => h) (fun C o h => h)
  refine s_seq (s_asg (d := .lst (R0.map rawD)) (ev_list (ev_var rfl)) ?_)
  have m3 := mod_in r7 (j := 3) (by decide)
  refine s_seq (s_for (P := ⟨fun A => StA b (tSeq _ _) A _, _, _, _⟩) (fun i A => ∃ (R : List RawRule) (g4 g6 : Option Dt), R.length + 1 ≤ 13 * 2 ^ i ∧ (∀ r ∈ R, okRaw r) ∧ A = ⟨[some (intsD row), some (.str pool), some (.int nm), some (.lst (R0.map rawD)), g4, some (.lst (R.map rawD)), g6, none], []⟩)
    (ei_rng1 (i := r7 % 3) (ea_cons (by walk_at "e") ea_nil) (by omega) (by omega)) (Up.of ⟨R0, none, none, by simp; omega, hR, rfl⟩) ?_ ?_)
  · rintro i A hi ⟨R, g4, g6, hl, hr, rfl⟩
    have hi2 : i = 0 ∨ i = 1 := by omega
    have hRb : R.length ≤ 26 := by rcases hi2 with e | e <;> subst e <;> simp at hl <;> omega
    refine ⟨_, ga_name, ?_⟩
    obtain ⟨r8, h8, _⟩ := row_ix hrow (i := 8 + (0 + (i : Nat))) (by omega) (by omega)
    refine s_seq (s_asg (ev_mod (ev_intI (ev_ixL (ev_var rfl) (ev_add ev_int (ev_var rfl)) (atI_map Dt.int h8))) (ev_add (ev_lenL (ev_var rfl)) ev_int) (by omega)) ?_)
    have hd := six (l := row) (j := 100 + 6 * i) (by rw [hrow.1]; omega) hrow.2
    refine s_asgR (er_put (R := R) (by omega) hr rfl (er_callN ((row.drop (100 + 6 * i)).take 6, nm, pool) (ea_cons ((ev_slL (ev_var rfl) (eo_some (ev_add ev_int (ev_mul ev_int (ev_var rfl) (.inl (by decide))))) (eo_some (ev_add ev_int (ev_mul ev_int (ev_var rfl) (.inl (by decide)))))).is (congrArg Dt.lst (hcut 100 i (by omega)))) (ea_cons (ev_var rfl) (ea_cons (ev_var rfl) ea_nil))) ⟨hd, hn.1, hpool⟩ (dds := []) (fun _ => .nil) rfl (fun d h => ⟨h, rfl⟩) (fun C o h => h)) (eo_some (ev_var rfl)) (eo_some (ev_var rfl))) fun d A1 h => ?_
    obtain ⟨⟨R', rfl, hl', hr'⟩, rfl⟩ := h
    exact Up.of ⟨R', _, _, by rw [Nat.pow_succ]; omega, hr', rfl⟩
  rintro A ⟨R, g4, g6, hl, hr, rfl⟩
  have hRb : R.length ≤ 100 := by
    have : (r7 % 3).toNat = 0 ∨ (r7 % 3).toNat = 1 ∨ (r7 % 3).toNat = 2 := by omega
    rcases this with e | e | e <;> rw [e] at hl <;> simp at hl <;> omega
  have same : ∀ {γ : List (Option Dt)} {j : Nat} {L : List RawRule}, L.length ≤ 2000 → (∀ r ∈ L, okRaw r) → γ[2]? = some (some (.int nm)) → γ[j]? = some (some (.lst (L.map rawD))) → EvM b (tCallSD (sp__law_same K a) [] (WE fun cls d _ H => E cls d H) (tCons (tCallSD (sp__law_made K a) [] (WE fun cls d _ H => E cls d H) (tCons (tVar 2) (tCons (tVar j) tNil))) (tCons (tCallSD (sp__law_due K a) [] (WE fun cls d _ H => E cls d H) (tCons (tVar 2) (tCons (tVar j) tNil))) tNil))) ⟨γ, []⟩ (.bl true) ⟨γ, []⟩ := fun {γ j L} hl hr h2 hj =>
    ev_callN (dueG nm L) (ea_cons (ev_callN (d := dueG nm L) (nm, L) (ea_cons (ev_var h2) (ea_cons (ev_var hj) ea_nil)) ⟨hl, hr⟩ rfl (fun d' h => h) (fun C o h => h)) (ea_cons (ev_callN (d := dueG nm L) (nm, L) (ea_cons (ev_var h2) (ea_cons (ev_var hj) ea_nil)) ⟨hl, hr⟩ rfl (fun d' h => h) (fun C o h => h)) ea_nil)) (sm_due hl hr) rfl (fun d' h => h) (fun C o h => h)
  refine s_seq (s_if (c := false) ((et_or (et_not (et_B (same (j := 5) (L := R) (by omega) hr rfl rfl))) fun _ => et_not (et_B (same (j := 3) (L := R0) (by omega) hR rfl rfl))).is rfl) (fun h => by cases h) fun _ => s_next ?_)
  refine s_seq (s_asg (ev_makeX (C := a.c_Grammar) (fs := [("names", .int nm), ("rules", .tup (R0.map rawD))]) (XP := fun _ _ _ => False) (Ms := []) (Ms' := []) (Rm := []) (fun o => ((o, a.c_Grammar), nm, .lst (R0.map rawD), R0.map rawD, [])) (by walk_at "a") (List.Perm.refl _) (fun o => ⟨rfl, rfl, .frz _, .inr rfl⟩) (fun o d M' ⟨h, _, _, h'⟩ => ⟨h, h'⟩) (fun A C o dd T σ H hx => hx.elim) (fun p C o h => ?_)) ?_)
  · obtain ⟨_, ⟨h, _⟩ | ⟨_, h, _⟩⟩ := h
    · have h : 300 < nm := h
      omega
    · have h : 900 < (R0.map rawD).length := h
      rw [List.length_map] at h
      omega
  have hsm := sm_due (n := nm) (rules := R0) (by omega) hR
  have hT : smOk 40 (.tup (R0.map rawD)) = true ∧ szD (.tup (R0.map rawD)) ≤ 100000 := by
    have e : dueG nm R0 = dueG nm R0 := rfl
    have up : ∀ (k : Nat) {d : Dt}, smOk 1 d = true → smOk (1 + k) d = true := fun k => by
      induction k with
      | zero => exact fun h => h
      | succ k ih => exact fun h => smOk_succ (1 + k) (ih h)
    have hk : ∀ k : Key, szD (keyD k) = 1 := fun k => by cases k <;> rfl
    have hsz : ∀ rs : List RawRule, szDs (rs.map rawD) ≤ 5 * rs.length := fun rs => by
      induction rs with
      | nil => simp [szDs]
      | cons r rs ih =>
        rw [List.map_cons, szDs, List.length_cons]
        have : szD (rawD r) = 5 := by unfold rawD; simp [szD, szDs, hk]
        omega
    refine ⟨List.all_eq_true.mpr fun y hy => ?_, ?_⟩
    · obtain ⟨r, hr1, rfl⟩ := List.mem_map.mp hy
      exact up 38 (hR r hr1).2.1
    · have := hsz R0
      rw [szD]; omega
  exact s_ret (ev_andV (ev_callN (.int nm) (ea_cons (ev_fld (ev_var rfl) (.frz _) T.cl_Grammar T.n_Grammar_names rfl) (ea_cons (ev_var rfl) ea_nil)) ⟨rfl, by simp [szD]⟩ rfl (fun d' h => h) (fun C o h => h)) fun _ => ev_callN (.tup (R0.map rawD)) (ea_cons (ev_fld (ev_var rfl) (.frz _) T.cl_Grammar T.n_Grammar_rules rfl) (ea_cons (ev_tupL (ev_var rfl)) ea_nil)) hT rfl (fun d' h => h) (fun C o h => h)) rfl
end
end KB
namespace KB
open PySem PySem.Spec PyProof.Rows L2 LD
theorem okS_cut {s : Str} (h : okS s) (lo hi : Option Int) : okS (cutS s lo hi) := fun c hc => by
  have hc : c ∈ cp (cutS s lo hi) := hc
  rw [cp_cut] at hc
  exact h c (cutG_mem hc)
theorem sm_pair {w : Pair} (h : okP w) : smOk 40 (pairD w) = true ∧ szD (pairD w) ≤ 100000 := ⟨by
  show ([Dt.str w.1, .str w.2].all (smOk 39)) = true
  rw [List.all_eq_true]
  intro d hd
  simp only [List.mem_cons, List.not_mem_nil, or_false] at hd
  rcases hd with e | e <;> subst e
  · exact sk_ok (sk_let h.1)
  · exact sk_ok (sk_let h.2), by simp [pairD, szD, szDs]⟩
section
variable {P : Program} {w : World} {K : PySem.W.Frag} {mg : Str → Option Value} {base : Heap} {a : Ad}
theorem d__law_pairs_hold (vs : List V) (H : Hp) (Q : VK) (E : XK) (h : sp__law_pairs_hold K a vs H Q E) : t__law_pairs_hold K a E { nx := fun _ H' => Q .non H', rt := Q } (L2.start N__law_pairs_hold vs) H := h.body (N := N__law_pairs_hold) fun x b ok mu hw => by
  obtain ⟨row, pool⟩ := x
  obtain ⟨hrow, hp1, hp2⟩ : okRow row ∧ pool.length = 2 ∧ ∀ c ∈ pool.cps.toList, c ∈ letters.cps.toList := ok
  have hs : sizeLine = 16777216 := sizeLine_eq
  show StA b (t__law_pairs_hold K a E) ⟨[some (intsD row), some (.str pool), none, none, none, none, none, none, none, none, none], []⟩ ⟨_, _, _, fun d _ => d = .bl true⟩
  unfold t__law_pairs_hold
  obtain ⟨r130, h130, _⟩ := row_ix hrow (i := 130) (by decide) (by decide)
  obtain ⟨r131, h131, _⟩ := row_ix hrow (i := 131) (by decide) (by decide)
  have m4 := mod_in r131 (j := 4) (by decide)
  obtain ⟨sz, hsz, hszm⟩ := atI_in (xs := [r130 % 9, r130 % 9, r130 % 9, 60]) m4.1 m4.2
  have hsz0 : 0 ≤ sz ∧ sz ≤ 60 := by
    simp only [List.mem_cons, List.not_mem_nil, or_false] at hszm
    omega
  refine s_seq (s_asg (ev_ixL (ds := [r130 % 9, r130 % 9, r130 % 9, 60].map Dt.int) (by walk_at "e") (by walk_at "e") (atI_map Dt.int hsz)) ?_)
  obtain ⟨zn, rfl⟩ : ∃ n : Nat, sz = n := ⟨sz.toNat, by omega⟩
  have hpl : pool.cps.toList.length = 2 := by rw [Array.length_toList]; exact hp1
  have hex : ∀ i : Nat, ∃ c : Nat, i < zn → ∃ r : Int, L2.atI row (132 + (0 + (i : Nat))) = some r ∧ L2.atI pool.cps.toList (r % 2) = some c ∧ c ∈ letters.cps.toList := fun i => by
    by_cases hi : i < zn
    · obtain ⟨r, hr, _⟩ := row_ix hrow (i := 132 + (0 + (i : Nat))) (by omega) (by omega)
      have m2 := mod_in r (j := 2) (by decide)
      obtain ⟨c, hc1, hc2⟩ := atI_in (xs := pool.cps.toList) m2.1 (by rw [hpl]; exact m2.2)
      exact ⟨c, fun _ => ⟨r, hr, hc1, hp2 c hc2⟩⟩
    · exact ⟨0, fun h => absurd h hi⟩
  obtain ⟨f, hf⟩ : ∃ f : Nat → Nat, ∀ i : Nat, i < zn → ∃ r : Int, L2.atI row (132 + (0 + (i : Nat))) = some r ∧ L2.atI pool.cps.toList (r % 2) = some (f i) ∧ f i ∈ letters.cps.toList := ⟨fun i => (hex i).choose, fun i => (hex i).choose_spec⟩
  have hgv : given zn (fun _ => true) (fun i => Dt.str ⟨#[f i]⟩) = ((List.range zn).map fun i => (⟨#[f i]⟩ : Str)).map Dt.str := by
    unfold given
    rw [List.filter_eq_self.mpr (fun _ _ => rfl), List.map_map]
    rfl
  refine s_seq (s_asg (d := .str (Txt.join "" ((List.range zn).map fun i => (⟨#[f i]⟩ : Str)))) (ev_join (s := "") (ys := (List.range zn).map fun i => (⟨#[f i]⟩ : Str)) ev_str ((EvF.ev (ef_lc (k := 4) (fun _ => true) (fun i => .str ⟨#[f i]⟩) (ei_rng1n (n := zn) (ea_cons (ev_var rfl) ea_nil) (by omega)) (by simp) (by omega) (fun i M hi => fun T σ H k Q q => q H k) (fun i M hi _ => ?_)) mu).is (by rw [hgv])) ?_) ?_)
  · obtain ⟨r, hr1, hr2, _⟩ := hf i hi
    exact ev_ixS (ev_var rfl) (ev_mod (ev_intI (ev_ixL (ev_var rfl) (ev_add ev_int (ev_var rfl)) (atI_map Dt.int hr1))) ev_int (by decide)) (by omega) hr2
  · have e : ((((List.range zn).map fun i => (⟨#[f i]⟩ : Str)).map (·.length)).sum) = zn := by
      rw [List.map_map]
      have : (((fun x : Str => x.length) ∘ fun i : Nat => (⟨#[f i]⟩ : Str)) : Nat → Nat) = fun _ => 1 := funext fun _ => rfl
      rw [this, List.map_const', List.length_range, List.sum_replicate_nat]
      omega
    rw [e, List.length_map, List.length_range, show ("" : Str).length = 0 from rfl]
    omega
  obtain ⟨t, ht⟩ : ∃ t : Str, t = Txt.join "" ((List.range zn).map fun i => (⟨#[f i]⟩ : Str)) := ⟨_, rfl⟩
  have hj := join_ones (f := f) (n := zn) rfl
  rw [← ht] at hj ⊢
  have htl : t.length = zn := by
    show t.cps.size = zn
    rw [← Array.length_toList, hj]; simp
  have hts : okS t := fun c hc => by
    rw [hj] at hc
    obtain ⟨i, hi, rfl⟩ := List.mem_map.mp hc
    obtain ⟨r, _, _, h3⟩ := hf i (List.mem_range.mp hi)
    exact h3
  refine s_seq (s_for (P := ⟨fun A => StA b (tRet _) A _, _, _, _⟩) (fun i A => ∃ g4 g5 g7 g8 g9 g10, A = ⟨[some (intsD row), some (.str pool), some (.int (zn : Int)), some (.str t), g4, g5, none, g7, g8, g9, g10], []⟩)
    (ei_rng1n (n := 6) (ea_cons ev_int ea_nil) (by decide)) (Up.of ⟨none, none, none, none, none, none, rfl⟩) ?_ ?_)
  · rintro k A hk ⟨g4, g5, g7, g8, g9, g10, rfl⟩
    refine ⟨_, ga_name, ?_⟩
    have hex2 : ∀ i : Nat, ∃ z : Int, i < 4 → ∃ r : Int, L2.atI row (194 + 4 * (0 + (k : Nat)) + (0 + (i : Nat))) = some r ∧ z = r % ((zn : Int) + 1) := fun i => by
      by_cases hi : i < 4
      · obtain ⟨r, hr, _⟩ := row_ix hrow (i := 194 + 4 * (0 + (k : Nat)) + (0 + (i : Nat))) (by omega) (by omega)
        exact ⟨_, fun _ => ⟨r, hr, rfl⟩⟩
      · exact ⟨0, fun h => absurd h hi⟩
    obtain ⟨g, hg⟩ : ∃ g : Nat → Int, ∀ i : Nat, i < 4 → ∃ r : Int, L2.atI row (194 + 4 * (0 + (k : Nat)) + (0 + (i : Nat))) = some r ∧ g i = r % ((zn : Int) + 1) := ⟨fun i => (hex2 i).choose, fun i => (hex2 i).choose_spec⟩
    have hgv2 : given 4 (fun _ => true) (fun i => Dt.int (g i)) = [g 0, g 1, g 2, g 3].map Dt.int := rfl
    refine s_seq (s_asg (d := .lst ([g 0, g 1, g 2, g 3].map Dt.int)) ((EvF.ev (ef_lc (k := 6) (fun _ => true) (fun i => .int (g i)) (ei_rng1n (n := 4) (ea_cons ev_int ea_nil) (by decide)) (by simp) (by omega) (fun i M hi => fun T σ H k Q q => q H k) (fun i M hi _ => ?_)) mu).is (by rw [hgv2])) ?_)
    · obtain ⟨r, hr1, hr2⟩ := hg i hi
      rw [hr2]
      exact ev_mod (ev_intI (ev_ixL (ev_var rfl) (ev_add (ev_add ev_int (ev_mul ev_int (ev_var rfl) (.inl (by decide)))) (ev_var rfl)) (atI_map Dt.int hr1))) (ev_add (ev_var rfl) ev_int) (by omega)
    refine s_seq (s_asgR (er_sorted (ns := [g 0, g 1, g 2, g 3]) (ev_var rfl) (by show 4 < 64; decide)) ?_)
    rintro d A1 ⟨⟨ms, rfl, hperm⟩, rfl⟩
    have hml := hperm.length_eq
    match ms, hml with
    | [e0, e1, e2, e3], _ =>
      obtain ⟨c0, hc0⟩ : ∃ z, z = g 0 := ⟨_, rfl⟩
      obtain ⟨c1, hc1⟩ : ∃ z, z = g 1 := ⟨_, rfl⟩
      obtain ⟨c2, hc2⟩ : ∃ z, z = g 2 := ⟨_, rfl⟩
      obtain ⟨c3, hc3⟩ : ∃ z, z = g 3 := ⟨_, rfl⟩
      rw [← hc0, ← hc1, ← hc2, ← hc3]
      have cu : ∀ {j : Nat} {z : Int} {γ : List (Option Dt)} {M}, γ[5]? = some (some (.lst ([c0, c1, c2, c3].map Dt.int))) → [c0, c1, c2, c3][j]? = some z → EvM b (tOp (rIx K) (tVar 5) (tC (.int (j : Int)))) ⟨γ, M⟩ (.int z) ⟨γ, M⟩ := fun h1 h2 => ev_ixL (ev_var h1) ev_int (atI_map Dt.int (atI_nat h2))
      have en : ∀ {j : Nat} {z : Int} {γ : List (Option Dt)} {M}, γ[7]? = some (some (.lst ([e0, e1, e2, e3].map Dt.int))) → [e0, e1, e2, e3][j]? = some z → EvM b (tOp (rIx K) (tVar 7) (tC (.int (j : Int)))) ⟨γ, M⟩ (.int z) ⟨γ, M⟩ := fun h1 h2 => ev_ixL (ev_var h1) ev_int (atI_map Dt.int (atI_nat h2))
      have htz : t.length ≤ sizeLine := by omega
      obtain ⟨prs, hprs⟩ : ∃ prs : List Pair, prs = [(cutS t (some c0) (some c1), cutS t (some c2) (some c3)), (cutS t (some e0) (some e1), cutS t (some e2) (some e3)), (cutS t (some e0) (some e2), cutS t (some e1) (some e3))] := ⟨_, rfl⟩
      have hpo : ∀ w ∈ prs, okP w ∧ w.1.length ≤ 60 ∧ w.2.length ≤ 60 := fun w hw => by
        have hc : ∀ lo hi, okS (cutS t lo hi) ∧ (cutS t lo hi).length ≤ 60 := fun lo hi => ⟨okS_cut hts lo hi, by have := cutS_len t lo hi; omega⟩
        rw [hprs] at hw
        simp only [List.mem_cons, List.not_mem_nil, or_false] at hw
        rcases hw with e | e | e <;> subst e <;> exact ⟨⟨(hc _ _).1, (hc _ _).1⟩, (hc _ _).2, (hc _ _).2⟩
      refine s_forL (xs := prs) (f := pairD) (fun i A => ∃ g8 g9 g10, A = ⟨[some (intsD row), some (.str pool), some (.int (zn : Int)), some (.str t), some (.int (0 + (k : Nat))), some (.lst ([c0, c1, c2, c3].map Dt.int)), none, some (.lst ([e0, e1, e2, e3].map Dt.int)), g8, g9, g10], []⟩)
        (ei_seqL (ds := prs.map pairD) (by
          rw [hprs]
          exact ev_lst (ea_cons (ev_tup (ea_cons (ev_slS (ev_var rfl) (eo_some (cu (j := 0) rfl rfl)) (eo_some (cu (j := 1) rfl rfl)) htz) (ea_cons (ev_slS (ev_var rfl) (eo_some (cu (j := 2) rfl rfl)) (eo_some (cu (j := 3) rfl rfl)) htz) ea_nil))) (ea_cons (ev_tup (ea_cons (ev_slS (ev_var rfl) (eo_some (en (j := 0) rfl rfl)) (eo_some (en (j := 1) rfl rfl)) htz) (ea_cons (ev_slS (ev_var rfl) (eo_some (en (j := 2) rfl rfl)) (eo_some (en (j := 3) rfl rfl)) htz) ea_nil)))
            (ea_cons (ev_tup (ea_cons (ev_slS (ev_var rfl) (eo_some (en (j := 0) rfl rfl)) (eo_some (en (j := 2) rfl rfl)) htz) (ea_cons (ev_slS (ev_var rfl) (eo_some (en (j := 1) rfl rfl)) (eo_some (en (j := 3) rfl rfl)) htz) ea_nil))) ea_nil))))) (Up.of ⟨g8, g9, g10, rfl⟩) ?_ ?_
      · rintro i ⟨w1, w2⟩ A hwi ⟨g8, g9, g10, rfl⟩
        obtain ⟨hwo, hw1, hw2⟩ := hpo (w1, w2) (List.mem_of_getElem? hwi)
        have hw1 : w1.length ≤ 60 := hw1
        have hw2 : w2.length ≤ 60 := hw2
        refine ⟨_, ga_name, ?_⟩
        refine s_seq (s_if (et_not (et_B (ev_callN (.bl (fitsB t w1 w2)) (ea_cons (ev_callN (d := .bl (fitsB t w1 w2)) (t, (w1, w2)) (ea_cons (ev_var rfl) (ea_cons (ev_var rfl) ea_nil)) ⟨by show t.length ≤ 1000000; omega, by show w1.length ≤ 1000000; omega⟩ rfl (fun d' h => h) (fun C o h => h)) (ea_cons (ev_callN (d := .bl (fitsB t w1 w2)) (t, w1, w2) (ea_cons (ev_var rfl) (ea_cons (ev_ixT (ds := [.str w1, .str w2]) (ev_var rfl) ev_int (atI_nat (j := 0) rfl)) (ea_cons (ev_ixT (ds := [.str w1, .str w2]) (ev_var rfl) ev_int (atI_nat (j := 1) rfl)) ea_nil))) ⟨by show t.length ≤ 1000; omega, by show w1.length ≤ 1000; omega, by show w2.length ≤ 1000; omega⟩ rfl (fun d' h => h) (fun C o h => h)) ea_nil)) ⟨rfl, by simp [szD]⟩ rfl (fun d' h => h) (fun C o h => h)))) (fun h => by cases h) fun _ => s_next ?_)
        obtain ⟨r, hr, _⟩ := row_ix hrow (i := 218 + (0 + (k : Nat))) (by omega) (by omega)
        obtain ⟨o, ho⟩ : ∃ o : Pair, o = (cutS t (some c2) (some c3), cutS pool none (some (r % 3))) := ⟨_, rfl⟩
        have hoo : okP o ∧ o.1.length ≤ 60 ∧ o.2.length ≤ 2 := by
          have l1 := cutS_len t (some c2) (some c3)
          have l2 := cutS_len pool none (some (r % 3))
          rw [ho]
          exact ⟨⟨okS_cut hts _ _, okS_cut hp2 _ _⟩, by show (cutS t (some c2) (some c3)).length ≤ 60; omega, by show (cutS pool none (some (r % 3))).length ≤ 2; omega⟩
        refine s_seq (s_asg (d := pairD o) (by
          rw [ho]
          exact ev_tup (ea_cons (ev_slS (ev_var rfl) (eo_some (cu (j := 2) rfl rfl)) (eo_some (cu (j := 3) rfl rfl)) htz) (ea_cons (ev_slS (ev_var rfl) eo_none (eo_some (ev_mod (ev_intI (ev_ixL (ev_var rfl) (ev_add ev_int (ev_var rfl)) (atI_map Dt.int hr))) ev_int (by decide))) (by omega)) ea_nil))) ?_)
        have hjl : w1.length + w2.length + (o.1.length + o.2.length) ≤ sizeLine := by omega
        refine s_forL (xs := [("wrap" : Str), "left", "right"]) (f := Dt.str) (fun i A => ∃ g10, A = ⟨[some (intsD row), some (.str pool), some (.int (zn : Int)), some (.str t), some (.int (0 + (k : Nat))), some (.lst ([c0, c1, c2, c3].map Dt.int)), none, some (.lst ([e0, e1, e2, e3].map Dt.int)), some (pairD (w1, w2)), some (pairD o), g10], []⟩)
          (ei_seqL (ds := [("wrap" : Str), "left", "right"].map Dt.str) (by walk_at "e")) (Up.of ⟨g10, rfl⟩) ?_ ?_
        · rintro i kd A hkd ⟨g10, rfl⟩
          refine ⟨_, ga_name, ?_⟩
          have hjo := (join_ok kd hwo hoo.1).1
          exact s_if (et_not (et_B (ev_callN (pairD (joinP kd (w1, w2) o)) (ea_cons (ev_callN (d := pairD (joinP kd (w1, w2) o)) (kd, (w1, w2), o) (ea_cons (ev_var rfl) (ea_cons (ev_var rfl) (ea_cons (ev_var rfl) ea_nil))) hjl rfl (fun d' h => h) (fun C o h => h)) (ea_cons (ev_callN (d := pairD (joinP kd (w1, w2) o)) (kd, (w1, w2), o) (ea_cons (ev_var rfl) (ea_cons (ev_var rfl) (ea_cons (ev_var rfl) ea_nil))) hjl rfl (fun d' h => h) (fun C o h => h)) ea_nil)) (sm_pair hjo) rfl (fun d' h => h) (fun C o h => h)))) (fun h => by cases h) fun _ => s_next (Up.of ⟨_, rfl⟩)
        · rintro A ⟨g10, rfl⟩
          exact Up.of ⟨_, _, _, rfl⟩
      · rintro A ⟨g8, g9, g10, rfl⟩
        exact Up.of ⟨_, _, _, _, _, _, rfl⟩
  · rintro A ⟨g4, g5, g7, g8, g9, g10, rfl⟩
    exact s_ret ev_bl rfl
end
end KB
namespace KB
open PySem PySem.Spec PyProof.Rows L2 LD
section
variable {P : Program} {w : World} {K : PySem.W.Frag} {mg : Str → Option Value} {base : Heap} {a : Ad}
theorem d_law (T : Txt P K mg a) (vs : List V) (H : Hp) (Q : VK) (E : XK) (h : sp_law K a vs H Q E) : t_law K a E { nx := fun _ H' => Q .non H', rt := Q } (L2.start N_law vs) H := h.body (N := N_law) fun p ns ds b sc hn hd => by
  subst hd
  have mu : b.mu = [] := sc.2
  have hs : sizeLine = 16777216 := sizeLine_eq
  show StA b (t_law K a E) ⟨[some (.obj p), none, none, none], []⟩ ⟨fun _ => Dt.non = .bl true, fun _ => False, fun _ => False, fun d _ => d = .bl true⟩
  unfold t_law
  refine s_seq (s_asgR (R := fun d A' => ∃ row, d = intsD row ∧ okRow row ∧ A' = ⟨[some (.obj p), none, none, none], []⟩) (er_callSc sc hn (by walk_at "a") rfl fun d ⟨row, h1, h2⟩ => ⟨row, h1, h2, rfl⟩) ?_)
  rintro d A1 ⟨row, rfl, hrow, rfl⟩
  obtain ⟨r0, h0, _⟩ := row_ix hrow (i := 0) (by decide) (by decide)
  obtain ⟨r1, h1, _⟩ := row_ix hrow (i := 1) (by decide) (by decide)
  obtain ⟨r2, h2, _⟩ := row_ix hrow (i := 2) (by decide) (by decide)
  have c0 := chr_ok r0
  have c1 := chr_ok r1
  have hll : letters.length ≤ sizeLine := by decide +kernel
  refine s_seq (s_asg (d := .str letters) ev_str ?_)
  obtain ⟨pool, hpo⟩ : ∃ pool : Str, pool = ⟨#[chrAt r0]⟩ ++ ⟨#[chrAt r1]⟩ := ⟨_, rfl⟩
  have hpool : okPool pool := by
    rw [hpo]
    refine ⟨by rw [str_len]; rfl, fun c hc => ?_⟩
    rw [PySem.Str.cps_append, Array.toList_append] at hc
    rcases List.mem_append.mp hc with h | h
    · have e : c = chrAt r0 := by simpa using h
      rw [e]; exact c0.2
    · have e : c = chrAt r1 := by simpa using h
      rw [e]; exact c1.2
  refine s_seq (s_asg (d := .str pool) (by
    rw [hpo]
    exact ev_addS (ev_ixS (s := letters) (ev_var rfl) (ev_mod (ev_intI (ev_ixL (ev_var rfl) ev_int (atI_map Dt.int h0))) ev_int (by decide)) hll c0.1) (ev_ixS (s := letters) (ev_var rfl) (ev_mod (ev_intI (ev_ixL (ev_var rfl) ev_int (atI_map Dt.int h1))) ev_int (by decide)) hll c1.1) (by show 1 + 1 ≤ sizeLine; omega)) ?_)
  refine s_seq (s_if (c := false) ((et_or (et_not (et_B (ev_callN (row, pool) (by walk_at "a") ⟨hrow, hpool⟩ rfl (fun d' h => h) (fun C o h => h)))) fun _ => et_or (et_not (et_B (ev_callN row (by walk_at "a") hrow rfl (fun d' h => h) (fun C o h => h)))) fun _ => et_not (et_B (ev_callN (row, pool) (by walk_at "a") ⟨hrow, hpool⟩ rfl (fun d' h => h) (fun C o h => h)))).is rfl) (fun h => by cases h) fun _ => s_next ?_)
  refine s_seq (s_if (by walk_at "t") (fun _ => ?_) fun _ => s_next ?_)
  · exact s_ret (ev_callN (row, pool) (by walk_at "a") ⟨hrow, hpool⟩ rfl (fun d' h => h) (fun C o h => h)) rfl
  · exact s_ret ev_bl rfl
end
end KB
namespace KB
open PySem PySem.Spec PyProof.Rows L2 LD LX
section
variable {K : PySem.W.Frag} {H : Hp} {a : Addr} {ns : List Int}
theorem sp_script (hS : SqL K H a (ns.map V.int)) (hl : ns.length ≤ 63) : SpSc K 63 (fun ns p ds => ds = [.obj p]) (fun ns ds d => d = .bl true) [.ref a] H (fun v _ => v = .bl true) fun _ _ _ => False :=
  ⟨a, ns, hS, hl, fun _ => none, [.obj a], [], fun _ _ e => (by cases e), .cons (.obj a) .nil, fun _ h => (by cases h), List.nodup_nil, ⟨rfl, rfl⟩,
    fun v d M' G2 H2 ⟨_, e⟩ _ _ _ _ r _ _ _ => by subst e; exact r.bl_inv, fun _ _ _ _ e => e.elim⟩
theorem cx_none {P : Program} {w : World} {H : Hp} {s : Shared} {e : Value} {s' : Shared} (z : L2.CX P w [] H s (fun _ _ _ => False) e s') : False := by
  obtain ⟨_, _, _, _, _, _, _, _, _, _, _, _, z⟩ := z
  exact z
end
section
variable {P : Program} {w : World} {K : PySem.W.Frag} {mg : Str → Option Value} {base : Heap} {a : Ad}
theorem ok_all (T : Txt P K mg a) : FnOk P w K mg base (L2.CX P w) 16 a.f_law a.d_law ps_law (sp_law K a) := by
  have G_bad_letter : FnOk P w K mg base (L2.CX P w) 3 a.f_bad_letter a.d_bad_letter ps_bad_letter (sp_bad_letter K a) := ok_bad_letter T  (SpP.len fun _ _ => rfl) (d_bad_letter)
  have G_check_text : FnOk P w K mg base (L2.CX P w) 5 a.f_check_text a.d_check_text ps_check_text (sp_check_text K a) := ok_check_text T G_bad_letter (SpP.len fun _ _ => rfl) (d_check_text T)
  have G_pair_fits : FnOk P w K mg base (L2.CX P w) 3 a.f_pair_fits a.d_pair_fits ps_pair_fits (sp_pair_fits K a) := ok_pair_fits T  (SpP.len fun _ _ => rfl) (d_pair_fits)
  have G_Forms___init__ : FnOk P w K mg base (L2.CX P w) 3 a.f_Forms___init__ a.d_Forms___init__ ps_Forms___init__ (sp_Forms___init__ K a) := ok_Forms___init__ T  (SpX.len fun x ds M h => by rw [h.1]; rfl) (d_Forms___init__ T)
  have G_Grammar___init__ : FnOk P w K mg base (L2.CX P w) 5 a.f_Grammar___init__ a.d_Grammar___init__ ps_Grammar___init__ (sp_Grammar___init__ K a) := ok_Grammar___init__ T  (SpX.len fun x ds M h => by rw [h.1]; rfl) (d_Grammar___init__ T)
  have G_join_pairs : FnOk P w K mg base (L2.CX P w) 3 a.f_join_pairs a.d_join_pairs ps_join_pairs (sp_join_pairs K a) := ok_join_pairs T  (SpP.len fun _ _ => rfl) (d_join_pairs)
  have G_is_leaf_text : FnOk P w K mg base (L2.CX P w) 5 a.f_is_leaf_text a.d_is_leaf_text ps_is_leaf_text (sp_is_leaf_text K a) := ok_is_leaf_text T G_bad_letter (SpP.len fun _ _ => rfl) (d_is_leaf_text)
  have G_is_name : FnOk P w K mg base (L2.CX P w) 3 a.f_is_name a.d_is_name ps_is_name (sp_is_name K a) := ok_is_name T  (SpP.len fun _ _ => rfl) (d_is_name)
  have G_is_pair_rule : FnOk P w K mg base (L2.CX P w) 7 a.f_is_pair_rule a.d_is_pair_rule ps_is_pair_rule (sp_is_pair_rule K a) := ok_is_pair_rule T G_is_name G_is_leaf_text (SpP.len fun _ _ => rfl) (d_is_pair_rule T)
  have G_child_names : FnOk P w K mg base (L2.CX P w) 3 a.f_child_names a.d_child_names ps_child_names (sp_child_names K a) := ok_child_names T  (SpP.len fun _ _ => rfl) (d_child_names)
  have G_PairGrammar___init__ : FnOk P w K mg base (L2.CX P w) 9 a.f_PairGrammar___init__ a.d_PairGrammar___init__ ps_PairGrammar___init__ (sp_PairGrammar___init__ K a) := ok_PairGrammar___init__ T G_is_pair_rule G_child_names G_Forms___init__ G_Grammar___init__ (SpX.len fun x ds M h => by rw [h.1]; rfl) (d_PairGrammar___init__ T)
  have G__law_row : FnOk P w K mg base (L2.CX P w) 3 a.f__law_row a.d__law_row ps__law_row (sp__law_row K a) := ok__law_row T  (SpSc.len fun ns p ds h => by rw [h]; rfl) (d__law_row)
  have G__law_same : FnOk P w K mg base (L2.CX P w) 3 a.f__law_same a.d__law_same ps__law_same (sp__law_same K a) := ok__law_same T  (SpP.len fun _ _ => rfl) (d__law_same)
  have G__law_text : FnOk P w K mg base (L2.CX P w) 3 a.f__law_text a.d__law_text ps__law_text (sp__law_text K a) := ok__law_text T  (SpP.len fun _ _ => rfl) (d__law_text)
  have G__law_join : FnOk P w K mg base (L2.CX P w) 3 a.f__law_join a.d__law_join ps__law_join (sp__law_join K a) := ok__law_join T  (SpP.len fun _ _ => rfl) (d__law_join)
  have G__law_letters : FnOk P w K mg base (L2.CX P w) 3 a.f__law_letters a.d__law_letters ps__law_letters (sp__law_letters K a) := ok__law_letters T  (SpP.len fun _ _ => rfl) (d__law_letters)
  have G__law_fits : FnOk P w K mg base (L2.CX P w) 3 a.f__law_fits a.d__law_fits ps__law_fits (sp__law_fits K a) := ok__law_fits T  (SpP.len fun _ _ => rfl) (d__law_fits)
  have G__law_bad_place : FnOk P w K mg base (L2.CX P w) 3 a.f__law_bad_place a.d__law_bad_place ps__law_bad_place (sp__law_bad_place K a) := ok__law_bad_place T  (SpP.len fun _ _ => rfl) (d__law_bad_place)
  have G__law_good_rule : FnOk P w K mg base (L2.CX P w) 5 a.f__law_good_rule a.d__law_good_rule ps__law_good_rule (sp__law_good_rule K a) := ok__law_good_rule T G__law_text (SpP.len fun _ _ => rfl) (d__law_good_rule)
  have G__law_bad_rule : FnOk P w K mg base (L2.CX P w) 5 a.f__law_bad_rule a.d__law_bad_rule ps__law_bad_rule (sp__law_bad_rule K a) := ok__law_bad_rule T G__law_letters (SpP.len fun _ _ => rfl) (d__law_bad_rule)
  have G__law_is_valid : FnOk P w K mg base (L2.CX P w) 5 a.f__law_is_valid a.d__law_is_valid ps__law_is_valid (sp__law_is_valid K a) := ok__law_is_valid T G__law_bad_place (SpP.len fun _ _ => rfl) (d__law_is_valid)
  have G__law_due : FnOk P w K mg base (L2.CX P w) 7 a.f__law_due a.d__law_due ps__law_due (sp__law_due K a) := ok__law_due T G__law_is_valid (SpP.len fun _ _ => rfl) (d__law_due)
  have G__law_made : FnOk P w K mg base (L2.CX P w) 12 a.f__law_made a.d__law_made ps__law_made (sp__law_made K a) := ok__law_made T G_PairGrammar___init__ G__law_same (SpP.len fun _ _ => rfl) (d__law_made T)
  have G__law_drawn_holds : FnOk P w K mg base (L2.CX P w) 14 a.f__law_drawn_holds a.d__law_drawn_holds ps__law_drawn_holds (sp__law_drawn_holds K a) := ok__law_drawn_holds T G__law_good_rule G__law_bad_rule G__law_same G__law_due G__law_made G_Grammar___init__ (SpP.len fun _ _ => rfl) (d__law_drawn_holds T)
  have G__law_limits_hold : FnOk P w K mg base (L2.CX P w) 14 a.f__law_limits_hold a.d__law_limits_hold ps__law_limits_hold (sp__law_limits_hold K a) := ok__law_limits_hold T G__law_bad_rule G__law_same G__law_due G__law_made (SpP.len fun _ _ => rfl) (d__law_limits_hold)
  have G__law_checked : FnOk P w K mg base (L2.CX P w) 7 a.f__law_checked a.d__law_checked ps__law_checked (sp__law_checked K a) := ok__law_checked T G_check_text (SpP.len fun _ _ => rfl) (d__law_checked T)
  have G__law_texts_hold : FnOk P w K mg base (L2.CX P w) 9 a.f__law_texts_hold a.d__law_texts_hold ps__law_texts_hold (sp__law_texts_hold K a) := ok__law_texts_hold T G__law_bad_place G__law_same G__law_checked (SpP.len fun _ _ => rfl) (d__law_texts_hold)
  have G__law_pairs_hold : FnOk P w K mg base (L2.CX P w) 5 a.f__law_pairs_hold a.d__law_pairs_hold ps__law_pairs_hold (sp__law_pairs_hold K a) := ok__law_pairs_hold T G__law_same G__law_fits G_pair_fits G__law_join G_join_pairs (SpP.len fun _ _ => rfl) (d__law_pairs_hold)
  have G_law : FnOk P w K mg base (L2.CX P w) 16 a.f_law a.d_law ps_law (sp_law K a) := ok_law T G__law_row G__law_drawn_holds G__law_texts_hold G__law_pairs_hold G__law_limits_hold (SpSc.len fun ns p ds h => by rw [h]; rfl) (d_law T)
  exact G_law
end
theorem est_BadText : LX.ErrSt st_BadText___init__ "place" :=
  ⟨⟨_, _, _, _, _, _, _, _, _, _, _, _, rfl, ⟨_, fun _ => rfl⟩, fun _ => rfl⟩, ⟨_, _, rfl⟩, rfl, fun _ _ _ _ _ _ _ _ _ _ => rfl, by decide, by decide, by decide, by decide, by decide⟩
theorem est_TooMany : LX.ErrSt st_TooMany___init__ "limit" :=
  ⟨⟨_, _, _, _, _, _, _, _, _, _, _, _, rfl, ⟨_, fun _ => rfl⟩, fun _ => rfl⟩, ⟨_, _, rfl⟩, rfl, fun _ _ _ _ _ _ _ _ _ _ => rfl, by decide, by decide, by decide, by decide, by decide⟩
theorem est_BadRule : LX.ErrSt st_BadRule___init__ "place" :=
  ⟨⟨_, _, _, _, _, _, _, _, _, _, _, _, rfl, ⟨_, fun _ => rfl⟩, fun _ => rfl⟩, ⟨_, _, rfl⟩, rfl, fun _ _ _ _ _ _ _ _ _ _ => rfl, by decide, by decide, by decide, by decide, by decide⟩
theorem all_mk {P : Program} {w : World} {K : PySem.W.Frag} {h : Heap} {mg : Str → Option Value} {fa : Addr} (X : K.In h) (G : h.Ns mainGlobals mg) (hfa : mg "law" = some (.ref fa))
    {f_bad_letter f_check_text f_pair_fits f_Forms___init__ f_Grammar___init__ f_join_pairs f_is_leaf_text f_is_name f_is_pair_rule f_child_names f_PairGrammar___init__ f__law_row f__law_same f__law_text f__law_join f__law_letters f__law_fits f__law_bad_place f__law_good_rule f__law_bad_rule f__law_is_valid f__law_due f__law_made f__law_drawn_holds f__law_limits_hold f__law_checked f__law_texts_hold f__law_pairs_hold f_law c_Fault c_BadText f_BadText___init__ c_TooMany f_TooMany___init__ c_BadRule f_BadRule___init__ c_Forms c_Grammar c_PairGrammar v_RULE_KINDS : Addr}
    {od_bad_letter an_bad_letter : Option Addr} {sl_bad_letter : Array (Option Value)} {oc_bad_letter dc_bad_letter pm_bad_letter ct_bad_letter kV_bad_letter : Value}
    {cd_bad_letter : Value}
    {od_check_text an_check_text : Option Addr} {sl_check_text : Array (Option Value)} {oc_check_text dc_check_text pm_check_text ct_check_text kV_check_text : Value}
    {cd_check_text : Value}
    {td_check_text : Addr} {tk_check_text : Tok} {tn_check_text : Nat} {to_check_text : Option Addr} {ts_check_text : Array (Option Value)} {tc_check_text : Value}
    {od_pair_fits an_pair_fits : Option Addr} {sl_pair_fits : Array (Option Value)} {oc_pair_fits dc_pair_fits pm_pair_fits ct_pair_fits kV_pair_fits : Value}
    {cd_pair_fits : Value}
    {od_Forms___init__ an_Forms___init__ : Option Addr} {sl_Forms___init__ : Array (Option Value)} {oc_Forms___init__ dc_Forms___init__ pm_Forms___init__ ct_Forms___init__ kV_Forms___init__ : Value}
    {cd_Forms___init__ : Value}
    {od_Grammar___init__ an_Grammar___init__ : Option Addr} {sl_Grammar___init__ : Array (Option Value)} {oc_Grammar___init__ dc_Grammar___init__ pm_Grammar___init__ ct_Grammar___init__ kV_Grammar___init__ : Value}
    {cd_Grammar___init__ : Value}
    {od_join_pairs an_join_pairs : Option Addr} {sl_join_pairs : Array (Option Value)} {oc_join_pairs dc_join_pairs pm_join_pairs ct_join_pairs kV_join_pairs : Value}
    {cd_join_pairs : Value}
    {od_is_leaf_text an_is_leaf_text : Option Addr} {sl_is_leaf_text : Array (Option Value)} {oc_is_leaf_text dc_is_leaf_text pm_is_leaf_text ct_is_leaf_text kV_is_leaf_text : Value}
    {cd_is_leaf_text : Value}
    {od_is_name an_is_name : Option Addr} {sl_is_name : Array (Option Value)} {oc_is_name dc_is_name pm_is_name ct_is_name kV_is_name : Value}
    {cd_is_name : Value}
    {od_is_pair_rule an_is_pair_rule : Option Addr} {sl_is_pair_rule : Array (Option Value)} {oc_is_pair_rule dc_is_pair_rule pm_is_pair_rule ct_is_pair_rule kV_is_pair_rule : Value}
    {cd_is_pair_rule : Value}
    {od_child_names an_child_names : Option Addr} {sl_child_names : Array (Option Value)} {oc_child_names dc_child_names pm_child_names ct_child_names kV_child_names : Value}
    {cd_child_names : Value}
    {od_PairGrammar___init__ an_PairGrammar___init__ : Option Addr} {sl_PairGrammar___init__ : Array (Option Value)} {oc_PairGrammar___init__ dc_PairGrammar___init__ pm_PairGrammar___init__ ct_PairGrammar___init__ kV_PairGrammar___init__ : Value}
    {ca_PairGrammar___init__ cc_PairGrammar___init__ : Addr} {cl_PairGrammar___init__ ccl_PairGrammar___init__ : Value} {cld_PairGrammar___init__ cdd_PairGrammar___init__ : Option Addr} {csl_PairGrammar___init__ ccs_PairGrammar___init__ : Array (Option Value)} {vs_PairGrammar___init__ : Array Value} {fi_PairGrammar___init__ : Str} {tf_PairGrammar___init__ : Tok} {cdD_PairGrammar___init__ : ClassData}
    {od__law_row an__law_row : Option Addr} {sl__law_row : Array (Option Value)} {oc__law_row dc__law_row pm__law_row ct__law_row kV__law_row : Value}
    {cd__law_row : Value}
    {od__law_same an__law_same : Option Addr} {sl__law_same : Array (Option Value)} {oc__law_same dc__law_same pm__law_same ct__law_same kV__law_same : Value}
    {cd__law_same : Value}
    {od__law_text an__law_text : Option Addr} {sl__law_text : Array (Option Value)} {oc__law_text dc__law_text pm__law_text ct__law_text kV__law_text : Value}
    {cd__law_text : Value}
    {od__law_join an__law_join : Option Addr} {sl__law_join : Array (Option Value)} {oc__law_join dc__law_join pm__law_join ct__law_join kV__law_join : Value}
    {cd__law_join : Value}
    {od__law_letters an__law_letters : Option Addr} {sl__law_letters : Array (Option Value)} {oc__law_letters dc__law_letters pm__law_letters ct__law_letters kV__law_letters : Value}
    {cd__law_letters : Value}
    {od__law_fits an__law_fits : Option Addr} {sl__law_fits : Array (Option Value)} {oc__law_fits dc__law_fits pm__law_fits ct__law_fits kV__law_fits : Value}
    {cd__law_fits : Value}
    {od__law_bad_place an__law_bad_place : Option Addr} {sl__law_bad_place : Array (Option Value)} {oc__law_bad_place dc__law_bad_place pm__law_bad_place ct__law_bad_place kV__law_bad_place : Value}
    {cd__law_bad_place : Value}
    {od__law_good_rule an__law_good_rule : Option Addr} {sl__law_good_rule : Array (Option Value)} {oc__law_good_rule dc__law_good_rule pm__law_good_rule ct__law_good_rule kV__law_good_rule : Value}
    {cd__law_good_rule : Value}
    {od__law_bad_rule an__law_bad_rule : Option Addr} {sl__law_bad_rule : Array (Option Value)} {oc__law_bad_rule dc__law_bad_rule pm__law_bad_rule ct__law_bad_rule kV__law_bad_rule : Value}
    {cd__law_bad_rule : Value}
    {od__law_is_valid an__law_is_valid : Option Addr} {sl__law_is_valid : Array (Option Value)} {oc__law_is_valid dc__law_is_valid pm__law_is_valid ct__law_is_valid kV__law_is_valid : Value}
    {cd__law_is_valid : Value}
    {od__law_due an__law_due : Option Addr} {sl__law_due : Array (Option Value)} {oc__law_due dc__law_due pm__law_due ct__law_due kV__law_due : Value}
    {cd__law_due : Value}
    {od__law_made an__law_made : Option Addr} {sl__law_made : Array (Option Value)} {oc__law_made dc__law_made pm__law_made ct__law_made kV__law_made : Value}
    {cd__law_made : Value}
    {od__law_drawn_holds an__law_drawn_holds : Option Addr} {sl__law_drawn_holds : Array (Option Value)} {oc__law_drawn_holds dc__law_drawn_holds pm__law_drawn_holds ct__law_drawn_holds kV__law_drawn_holds : Value}
    {cd__law_drawn_holds : Value}
    {od__law_limits_hold an__law_limits_hold : Option Addr} {sl__law_limits_hold : Array (Option Value)} {oc__law_limits_hold dc__law_limits_hold pm__law_limits_hold ct__law_limits_hold kV__law_limits_hold : Value}
    {cd__law_limits_hold : Value}
    {od__law_checked an__law_checked : Option Addr} {sl__law_checked : Array (Option Value)} {oc__law_checked dc__law_checked pm__law_checked ct__law_checked kV__law_checked : Value}
    {cd__law_checked : Value}
    {od__law_texts_hold an__law_texts_hold : Option Addr} {sl__law_texts_hold : Array (Option Value)} {oc__law_texts_hold dc__law_texts_hold pm__law_texts_hold ct__law_texts_hold kV__law_texts_hold : Value}
    {cd__law_texts_hold : Value}
    {od__law_pairs_hold an__law_pairs_hold : Option Addr} {sl__law_pairs_hold : Array (Option Value)} {oc__law_pairs_hold dc__law_pairs_hold pm__law_pairs_hold ct__law_pairs_hold kV__law_pairs_hold : Value}
    {cd__law_pairs_hold : Value}
    {od_law an_law : Option Addr} {sl_law : Array (Option Value)} {oc_law dc_law pm_law ct_law kV_law : Value}
    {cd_law : Value}
    {en_BadText eq_BadText : Str} {eN_BadText : Addr} {eb_BadText em_BadText es_BadText : List Value} {et_BadText : List Str} {ea_BadText : Bool} {ec_BadText : Option Bool} {ed_BadText : Option Addr} {e0_BadText e1_BadText e2_BadText e3_BadText e5_BadText : Option Value}
    {od_BadText___init__ an_BadText___init__ : Option Addr} {sl_BadText___init__ : Array (Option Value)} {oc_BadText___init__ dc_BadText___init__ pm_BadText___init__ ct_BadText___init__ kV_BadText___init__ : Value}
    {ca_BadText___init__ cc_BadText___init__ : Addr} {cl_BadText___init__ ccl_BadText___init__ : Value} {cld_BadText___init__ cdd_BadText___init__ : Option Addr} {csl_BadText___init__ ccs_BadText___init__ : Array (Option Value)} {vs_BadText___init__ : Array Value} {fi_BadText___init__ : Str} {tf_BadText___init__ : Tok} {cdD_BadText___init__ : ClassData}
    {en_TooMany eq_TooMany : Str} {eN_TooMany : Addr} {eb_TooMany em_TooMany es_TooMany : List Value} {et_TooMany : List Str} {ea_TooMany : Bool} {ec_TooMany : Option Bool} {ed_TooMany : Option Addr} {e0_TooMany e1_TooMany e2_TooMany e3_TooMany e5_TooMany : Option Value}
    {od_TooMany___init__ an_TooMany___init__ : Option Addr} {sl_TooMany___init__ : Array (Option Value)} {oc_TooMany___init__ dc_TooMany___init__ pm_TooMany___init__ ct_TooMany___init__ kV_TooMany___init__ : Value}
    {ca_TooMany___init__ cc_TooMany___init__ : Addr} {cl_TooMany___init__ ccl_TooMany___init__ : Value} {cld_TooMany___init__ cdd_TooMany___init__ : Option Addr} {csl_TooMany___init__ ccs_TooMany___init__ : Array (Option Value)} {vs_TooMany___init__ : Array Value} {fi_TooMany___init__ : Str} {tf_TooMany___init__ : Tok} {cdD_TooMany___init__ : ClassData}
    {en_BadRule eq_BadRule : Str} {eN_BadRule : Addr} {eb_BadRule em_BadRule es_BadRule : List Value} {et_BadRule : List Str} {ea_BadRule : Bool} {ec_BadRule : Option Bool} {ed_BadRule : Option Addr} {e0_BadRule e1_BadRule e2_BadRule e3_BadRule e5_BadRule : Option Value}
    {od_BadRule___init__ an_BadRule___init__ : Option Addr} {sl_BadRule___init__ : Array (Option Value)} {oc_BadRule___init__ dc_BadRule___init__ pm_BadRule___init__ ct_BadRule___init__ kV_BadRule___init__ : Value}
    {ca_BadRule___init__ cc_BadRule___init__ : Addr} {cl_BadRule___init__ ccl_BadRule___init__ : Value} {cld_BadRule___init__ cdd_BadRule___init__ : Option Addr} {csl_BadRule___init__ ccs_BadRule___init__ : Array (Option Value)} {vs_BadRule___init__ : Array Value} {fi_BadRule___init__ : Str} {tf_BadRule___init__ : Tok} {cdD_BadRule___init__ : ClassData}
    {vt_LETTERS : Tok}
    {vt_MOST_LEAF : Tok}
    {vt_MOST_NAMES : Tok}
    {vt_MOST_RULES : Tok}
    {vt_RULE_KINDS_0 vt_RULE_KINDS_1 vt_RULE_KINDS_2 vt_RULE_KINDS_3 : Tok} {vo_RULE_KINDS : Option Addr} {vn_RULE_KINDS : Nat} {vs_RULE_KINDS : Array (Option Value)}
    {kt_KIND : Tok}
    (gc_Fault : PySem.W.nsIn K mainGlobals "Fault" = some (some (.ref c_Fault)))
    (gc_BadText : PySem.W.nsIn K mainGlobals "BadText" = some (some (.ref c_BadText)))
    (gc_TooMany : PySem.W.nsIn K mainGlobals "TooMany" = some (some (.ref c_TooMany)))
    (gc_BadRule : PySem.W.nsIn K mainGlobals "BadRule" = some (some (.ref c_BadRule)))
    (gc_Forms : PySem.W.nsIn K mainGlobals "Forms" = some (some (.ref c_Forms)))
    (gc_Grammar : PySem.W.nsIn K mainGlobals "Grammar" = some (some (.ref c_Grammar)))
    (gc_PairGrammar : PySem.W.nsIn K mainGlobals "PairGrammar" = some (some (.ref c_PairGrammar)))
    (a_bad_letter : PySem.W.nsIn K mainGlobals "bad_letter" = some (some (.ref f_bad_letter)))
    (l_bad_letter : K.lookup f_bad_letter = some ⟨oc_bad_letter, od_bad_letter, .func (PySem.W.fnOf "bad_letter" "bad_letter" (defArgs st_bad_letter) (defBody st_bad_letter) (defScope st_bad_letter) .none kV_bad_letter dc_bad_letter pm_bad_letter an_bad_letter cd_bad_letter ct_bad_letter), sl_bad_letter⟩)
    (c_bad_letter : PySem.W.codeIn K cd_bad_letter "bad_letter" = true)
    (k_bad_letter : PySem.W.keepIn K (.ref f_bad_letter) = true)
    (a_check_text : PySem.W.nsIn K mainGlobals "check_text" = some (some (.ref f_check_text)))
    (l_check_text : K.lookup f_check_text = some ⟨oc_check_text, od_check_text, .func (PySem.W.fnOf "check_text" "check_text" (defArgs st_check_text) (defBody st_check_text) (defScope st_check_text) (.ref td_check_text) kV_check_text dc_check_text pm_check_text an_check_text cd_check_text ct_check_text), sl_check_text⟩)
    (c_check_text : PySem.W.codeIn K cd_check_text "check_text" = true)
    (t_check_text : K.lookup td_check_text = some ⟨tc_check_text, to_check_text, .seq #[.int 60 tk_check_text] tn_check_text, ts_check_text⟩)
    (k_check_text : PySem.W.keepIn K (.ref f_check_text) = true)
    (a_pair_fits : PySem.W.nsIn K mainGlobals "pair_fits" = some (some (.ref f_pair_fits)))
    (l_pair_fits : K.lookup f_pair_fits = some ⟨oc_pair_fits, od_pair_fits, .func (PySem.W.fnOf "pair_fits" "pair_fits" (defArgs st_pair_fits) (defBody st_pair_fits) (defScope st_pair_fits) .none kV_pair_fits dc_pair_fits pm_pair_fits an_pair_fits cd_pair_fits ct_pair_fits), sl_pair_fits⟩)
    (c_pair_fits : PySem.W.codeIn K cd_pair_fits "pair_fits" = true)
    (k_pair_fits : PySem.W.keepIn K (.ref f_pair_fits) = true)
    (a_Forms___init__ : PySem.W.findIn K (.ref c_Forms) "__init__" = some (some (.ref f_Forms___init__)))
    (l_Forms___init__ : K.lookup f_Forms___init__ = some ⟨oc_Forms___init__, od_Forms___init__, .func (PySem.W.fnOf "__init__" "Forms.__init__" (defArgs st_Forms___init__) (defBody st_Forms___init__) (defScope st_Forms___init__) .none kV_Forms___init__ dc_Forms___init__ pm_Forms___init__ an_Forms___init__ cd_Forms___init__ ct_Forms___init__), sl_Forms___init__⟩)
    (c_Forms___init__ : PySem.W.codeIn K cd_Forms___init__ "Forms.__init__" = true)
    (k_Forms___init__ : PySem.W.keepIn K (.ref f_Forms___init__) = true)
    (a_Grammar___init__ : PySem.W.findIn K (.ref c_Grammar) "__init__" = some (some (.ref f_Grammar___init__)))
    (l_Grammar___init__ : K.lookup f_Grammar___init__ = some ⟨oc_Grammar___init__, od_Grammar___init__, .func (PySem.W.fnOf "__init__" "Grammar.__init__" (defArgs st_Grammar___init__) (defBody st_Grammar___init__) (defScope st_Grammar___init__) .none kV_Grammar___init__ dc_Grammar___init__ pm_Grammar___init__ an_Grammar___init__ cd_Grammar___init__ ct_Grammar___init__), sl_Grammar___init__⟩)
    (c_Grammar___init__ : PySem.W.codeIn K cd_Grammar___init__ "Grammar.__init__" = true)
    (k_Grammar___init__ : PySem.W.keepIn K (.ref f_Grammar___init__) = true)
    (a_join_pairs : PySem.W.nsIn K mainGlobals "join_pairs" = some (some (.ref f_join_pairs)))
    (l_join_pairs : K.lookup f_join_pairs = some ⟨oc_join_pairs, od_join_pairs, .func (PySem.W.fnOf "join_pairs" "join_pairs" (defArgs st_join_pairs) (defBody st_join_pairs) (defScope st_join_pairs) .none kV_join_pairs dc_join_pairs pm_join_pairs an_join_pairs cd_join_pairs ct_join_pairs), sl_join_pairs⟩)
    (c_join_pairs : PySem.W.codeIn K cd_join_pairs "join_pairs" = true)
    (k_join_pairs : PySem.W.keepIn K (.ref f_join_pairs) = true)
    (a_is_leaf_text : PySem.W.nsIn K mainGlobals "is_leaf_text" = some (some (.ref f_is_leaf_text)))
    (l_is_leaf_text : K.lookup f_is_leaf_text = some ⟨oc_is_leaf_text, od_is_leaf_text, .func (PySem.W.fnOf "is_leaf_text" "is_leaf_text" (defArgs st_is_leaf_text) (defBody st_is_leaf_text) (defScope st_is_leaf_text) .none kV_is_leaf_text dc_is_leaf_text pm_is_leaf_text an_is_leaf_text cd_is_leaf_text ct_is_leaf_text), sl_is_leaf_text⟩)
    (c_is_leaf_text : PySem.W.codeIn K cd_is_leaf_text "is_leaf_text" = true)
    (k_is_leaf_text : PySem.W.keepIn K (.ref f_is_leaf_text) = true)
    (a_is_name : PySem.W.nsIn K mainGlobals "is_name" = some (some (.ref f_is_name)))
    (l_is_name : K.lookup f_is_name = some ⟨oc_is_name, od_is_name, .func (PySem.W.fnOf "is_name" "is_name" (defArgs st_is_name) (defBody st_is_name) (defScope st_is_name) .none kV_is_name dc_is_name pm_is_name an_is_name cd_is_name ct_is_name), sl_is_name⟩)
    (c_is_name : PySem.W.codeIn K cd_is_name "is_name" = true)
    (k_is_name : PySem.W.keepIn K (.ref f_is_name) = true)
    (a_is_pair_rule : PySem.W.nsIn K mainGlobals "is_pair_rule" = some (some (.ref f_is_pair_rule)))
    (l_is_pair_rule : K.lookup f_is_pair_rule = some ⟨oc_is_pair_rule, od_is_pair_rule, .func (PySem.W.fnOf "is_pair_rule" "is_pair_rule" (defArgs st_is_pair_rule) (defBody st_is_pair_rule) (defScope st_is_pair_rule) .none kV_is_pair_rule dc_is_pair_rule pm_is_pair_rule an_is_pair_rule cd_is_pair_rule ct_is_pair_rule), sl_is_pair_rule⟩)
    (c_is_pair_rule : PySem.W.codeIn K cd_is_pair_rule "is_pair_rule" = true)
    (k_is_pair_rule : PySem.W.keepIn K (.ref f_is_pair_rule) = true)
    (a_child_names : PySem.W.nsIn K mainGlobals "child_names" = some (some (.ref f_child_names)))
    (l_child_names : K.lookup f_child_names = some ⟨oc_child_names, od_child_names, .func (PySem.W.fnOf "child_names" "child_names" (defArgs st_child_names) (defBody st_child_names) (defScope st_child_names) .none kV_child_names dc_child_names pm_child_names an_child_names cd_child_names ct_child_names), sl_child_names⟩)
    (c_child_names : PySem.W.codeIn K cd_child_names "child_names" = true)
    (k_child_names : PySem.W.keepIn K (.ref f_child_names) = true)
    (a_PairGrammar___init__ : PySem.W.findIn K (.ref c_PairGrammar) "__init__" = some (some (.ref f_PairGrammar___init__)))
    (l_PairGrammar___init__ : K.lookup f_PairGrammar___init__ = some ⟨oc_PairGrammar___init__, od_PairGrammar___init__, .func (PySem.W.ksFn "__init__" "PairGrammar.__init__" (defArgs st_PairGrammar___init__) (defBody st_PairGrammar___init__) (defScope st_PairGrammar___init__) .none kV_PairGrammar___init__ dc_PairGrammar___init__ pm_PairGrammar___init__ an_PairGrammar___init__ (.ref ca_PairGrammar___init__) ct_PairGrammar___init__ cc_PairGrammar___init__), sl_PairGrammar___init__⟩)
    (c_PairGrammar___init__ : PySem.W.codeIn K (.ref ca_PairGrammar___init__) "PairGrammar.__init__" = true)
    (cc1_PairGrammar___init__ : K.lookup cc_PairGrammar___init__ = some ⟨cl_PairGrammar___init__, cld_PairGrammar___init__, .cell (some (.ref c_PairGrammar)), csl_PairGrammar___init__⟩)
    (cc2_PairGrammar___init__ : K.lookup ca_PairGrammar___init__ = some ⟨ccl_PairGrammar___init__, cdd_PairGrammar___init__, .fields vs_PairGrammar___init__, ccs_PairGrammar___init__⟩)
    (cc3_PairGrammar___init__ : vs_PairGrammar___init__[2]? = some (.str fi_PairGrammar___init__ tf_PairGrammar___init__))
    (cc4_PairGrammar___init__ : ((P.main.file : Str) == fi_PairGrammar___init__) = true)
    (cc5_PairGrammar___init__ : PySem.W.clsIn K c_PairGrammar = some cdD_PairGrammar___init__)
    (k_PairGrammar___init__ : PySem.W.keepIn K (.ref f_PairGrammar___init__) = true)
    (a__law_row : PySem.W.nsIn K mainGlobals "_law_row" = some (some (.ref f__law_row)))
    (l__law_row : K.lookup f__law_row = some ⟨oc__law_row, od__law_row, .func (PySem.W.fnOf "_law_row" "_law_row" (defArgs st__law_row) (defBody st__law_row) (defScope st__law_row) .none kV__law_row dc__law_row pm__law_row an__law_row cd__law_row ct__law_row), sl__law_row⟩)
    (c__law_row : PySem.W.codeIn K cd__law_row "_law_row" = true)
    (k__law_row : PySem.W.keepIn K (.ref f__law_row) = true)
    (a__law_same : PySem.W.nsIn K mainGlobals "_law_same" = some (some (.ref f__law_same)))
    (l__law_same : K.lookup f__law_same = some ⟨oc__law_same, od__law_same, .func (PySem.W.fnOf "_law_same" "_law_same" (defArgs st__law_same) (defBody st__law_same) (defScope st__law_same) .none kV__law_same dc__law_same pm__law_same an__law_same cd__law_same ct__law_same), sl__law_same⟩)
    (c__law_same : PySem.W.codeIn K cd__law_same "_law_same" = true)
    (k__law_same : PySem.W.keepIn K (.ref f__law_same) = true)
    (a__law_text : PySem.W.nsIn K mainGlobals "_law_text" = some (some (.ref f__law_text)))
    (l__law_text : K.lookup f__law_text = some ⟨oc__law_text, od__law_text, .func (PySem.W.fnOf "_law_text" "_law_text" (defArgs st__law_text) (defBody st__law_text) (defScope st__law_text) .none kV__law_text dc__law_text pm__law_text an__law_text cd__law_text ct__law_text), sl__law_text⟩)
    (c__law_text : PySem.W.codeIn K cd__law_text "_law_text" = true)
    (k__law_text : PySem.W.keepIn K (.ref f__law_text) = true)
    (a__law_join : PySem.W.nsIn K mainGlobals "_law_join" = some (some (.ref f__law_join)))
    (l__law_join : K.lookup f__law_join = some ⟨oc__law_join, od__law_join, .func (PySem.W.fnOf "_law_join" "_law_join" (defArgs st__law_join) (defBody st__law_join) (defScope st__law_join) .none kV__law_join dc__law_join pm__law_join an__law_join cd__law_join ct__law_join), sl__law_join⟩)
    (c__law_join : PySem.W.codeIn K cd__law_join "_law_join" = true)
    (k__law_join : PySem.W.keepIn K (.ref f__law_join) = true)
    (a__law_letters : PySem.W.nsIn K mainGlobals "_law_letters" = some (some (.ref f__law_letters)))
    (l__law_letters : K.lookup f__law_letters = some ⟨oc__law_letters, od__law_letters, .func (PySem.W.fnOf "_law_letters" "_law_letters" (defArgs st__law_letters) (defBody st__law_letters) (defScope st__law_letters) .none kV__law_letters dc__law_letters pm__law_letters an__law_letters cd__law_letters ct__law_letters), sl__law_letters⟩)
    (c__law_letters : PySem.W.codeIn K cd__law_letters "_law_letters" = true)
    (k__law_letters : PySem.W.keepIn K (.ref f__law_letters) = true)
    (a__law_fits : PySem.W.nsIn K mainGlobals "_law_fits" = some (some (.ref f__law_fits)))
    (l__law_fits : K.lookup f__law_fits = some ⟨oc__law_fits, od__law_fits, .func (PySem.W.fnOf "_law_fits" "_law_fits" (defArgs st__law_fits) (defBody st__law_fits) (defScope st__law_fits) .none kV__law_fits dc__law_fits pm__law_fits an__law_fits cd__law_fits ct__law_fits), sl__law_fits⟩)
    (c__law_fits : PySem.W.codeIn K cd__law_fits "_law_fits" = true)
    (k__law_fits : PySem.W.keepIn K (.ref f__law_fits) = true)
    (a__law_bad_place : PySem.W.nsIn K mainGlobals "_law_bad_place" = some (some (.ref f__law_bad_place)))
    (l__law_bad_place : K.lookup f__law_bad_place = some ⟨oc__law_bad_place, od__law_bad_place, .func (PySem.W.fnOf "_law_bad_place" "_law_bad_place" (defArgs st__law_bad_place) (defBody st__law_bad_place) (defScope st__law_bad_place) .none kV__law_bad_place dc__law_bad_place pm__law_bad_place an__law_bad_place cd__law_bad_place ct__law_bad_place), sl__law_bad_place⟩)
    (c__law_bad_place : PySem.W.codeIn K cd__law_bad_place "_law_bad_place" = true)
    (k__law_bad_place : PySem.W.keepIn K (.ref f__law_bad_place) = true)
    (a__law_good_rule : PySem.W.nsIn K mainGlobals "_law_good_rule" = some (some (.ref f__law_good_rule)))
    (l__law_good_rule : K.lookup f__law_good_rule = some ⟨oc__law_good_rule, od__law_good_rule, .func (PySem.W.fnOf "_law_good_rule" "_law_good_rule" (defArgs st__law_good_rule) (defBody st__law_good_rule) (defScope st__law_good_rule) .none kV__law_good_rule dc__law_good_rule pm__law_good_rule an__law_good_rule cd__law_good_rule ct__law_good_rule), sl__law_good_rule⟩)
    (c__law_good_rule : PySem.W.codeIn K cd__law_good_rule "_law_good_rule" = true)
    (k__law_good_rule : PySem.W.keepIn K (.ref f__law_good_rule) = true)
    (a__law_bad_rule : PySem.W.nsIn K mainGlobals "_law_bad_rule" = some (some (.ref f__law_bad_rule)))
    (l__law_bad_rule : K.lookup f__law_bad_rule = some ⟨oc__law_bad_rule, od__law_bad_rule, .func (PySem.W.fnOf "_law_bad_rule" "_law_bad_rule" (defArgs st__law_bad_rule) (defBody st__law_bad_rule) (defScope st__law_bad_rule) .none kV__law_bad_rule dc__law_bad_rule pm__law_bad_rule an__law_bad_rule cd__law_bad_rule ct__law_bad_rule), sl__law_bad_rule⟩)
    (c__law_bad_rule : PySem.W.codeIn K cd__law_bad_rule "_law_bad_rule" = true)
    (k__law_bad_rule : PySem.W.keepIn K (.ref f__law_bad_rule) = true)
    (a__law_is_valid : PySem.W.nsIn K mainGlobals "_law_is_valid" = some (some (.ref f__law_is_valid)))
    (l__law_is_valid : K.lookup f__law_is_valid = some ⟨oc__law_is_valid, od__law_is_valid, .func (PySem.W.fnOf "_law_is_valid" "_law_is_valid" (defArgs st__law_is_valid) (defBody st__law_is_valid) (defScope st__law_is_valid) .none kV__law_is_valid dc__law_is_valid pm__law_is_valid an__law_is_valid cd__law_is_valid ct__law_is_valid), sl__law_is_valid⟩)
    (c__law_is_valid : PySem.W.codeIn K cd__law_is_valid "_law_is_valid" = true)
    (k__law_is_valid : PySem.W.keepIn K (.ref f__law_is_valid) = true)
    (a__law_due : PySem.W.nsIn K mainGlobals "_law_due" = some (some (.ref f__law_due)))
    (l__law_due : K.lookup f__law_due = some ⟨oc__law_due, od__law_due, .func (PySem.W.fnOf "_law_due" "_law_due" (defArgs st__law_due) (defBody st__law_due) (defScope st__law_due) .none kV__law_due dc__law_due pm__law_due an__law_due cd__law_due ct__law_due), sl__law_due⟩)
    (c__law_due : PySem.W.codeIn K cd__law_due "_law_due" = true)
    (k__law_due : PySem.W.keepIn K (.ref f__law_due) = true)
    (a__law_made : PySem.W.nsIn K mainGlobals "_law_made" = some (some (.ref f__law_made)))
    (l__law_made : K.lookup f__law_made = some ⟨oc__law_made, od__law_made, .func (PySem.W.fnOf "_law_made" "_law_made" (defArgs st__law_made) (defBody st__law_made) (defScope st__law_made) .none kV__law_made dc__law_made pm__law_made an__law_made cd__law_made ct__law_made), sl__law_made⟩)
    (c__law_made : PySem.W.codeIn K cd__law_made "_law_made" = true)
    (k__law_made : PySem.W.keepIn K (.ref f__law_made) = true)
    (a__law_drawn_holds : PySem.W.nsIn K mainGlobals "_law_drawn_holds" = some (some (.ref f__law_drawn_holds)))
    (l__law_drawn_holds : K.lookup f__law_drawn_holds = some ⟨oc__law_drawn_holds, od__law_drawn_holds, .func (PySem.W.fnOf "_law_drawn_holds" "_law_drawn_holds" (defArgs st__law_drawn_holds) (defBody st__law_drawn_holds) (defScope st__law_drawn_holds) .none kV__law_drawn_holds dc__law_drawn_holds pm__law_drawn_holds an__law_drawn_holds cd__law_drawn_holds ct__law_drawn_holds), sl__law_drawn_holds⟩)
    (c__law_drawn_holds : PySem.W.codeIn K cd__law_drawn_holds "_law_drawn_holds" = true)
    (k__law_drawn_holds : PySem.W.keepIn K (.ref f__law_drawn_holds) = true)
    (a__law_limits_hold : PySem.W.nsIn K mainGlobals "_law_limits_hold" = some (some (.ref f__law_limits_hold)))
    (l__law_limits_hold : K.lookup f__law_limits_hold = some ⟨oc__law_limits_hold, od__law_limits_hold, .func (PySem.W.fnOf "_law_limits_hold" "_law_limits_hold" (defArgs st__law_limits_hold) (defBody st__law_limits_hold) (defScope st__law_limits_hold) .none kV__law_limits_hold dc__law_limits_hold pm__law_limits_hold an__law_limits_hold cd__law_limits_hold ct__law_limits_hold), sl__law_limits_hold⟩)
    (c__law_limits_hold : PySem.W.codeIn K cd__law_limits_hold "_law_limits_hold" = true)
    (k__law_limits_hold : PySem.W.keepIn K (.ref f__law_limits_hold) = true)
    (a__law_checked : PySem.W.nsIn K mainGlobals "_law_checked" = some (some (.ref f__law_checked)))
    (l__law_checked : K.lookup f__law_checked = some ⟨oc__law_checked, od__law_checked, .func (PySem.W.fnOf "_law_checked" "_law_checked" (defArgs st__law_checked) (defBody st__law_checked) (defScope st__law_checked) .none kV__law_checked dc__law_checked pm__law_checked an__law_checked cd__law_checked ct__law_checked), sl__law_checked⟩)
    (c__law_checked : PySem.W.codeIn K cd__law_checked "_law_checked" = true)
    (k__law_checked : PySem.W.keepIn K (.ref f__law_checked) = true)
    (a__law_texts_hold : PySem.W.nsIn K mainGlobals "_law_texts_hold" = some (some (.ref f__law_texts_hold)))
    (l__law_texts_hold : K.lookup f__law_texts_hold = some ⟨oc__law_texts_hold, od__law_texts_hold, .func (PySem.W.fnOf "_law_texts_hold" "_law_texts_hold" (defArgs st__law_texts_hold) (defBody st__law_texts_hold) (defScope st__law_texts_hold) .none kV__law_texts_hold dc__law_texts_hold pm__law_texts_hold an__law_texts_hold cd__law_texts_hold ct__law_texts_hold), sl__law_texts_hold⟩)
    (c__law_texts_hold : PySem.W.codeIn K cd__law_texts_hold "_law_texts_hold" = true)
    (k__law_texts_hold : PySem.W.keepIn K (.ref f__law_texts_hold) = true)
    (a__law_pairs_hold : PySem.W.nsIn K mainGlobals "_law_pairs_hold" = some (some (.ref f__law_pairs_hold)))
    (l__law_pairs_hold : K.lookup f__law_pairs_hold = some ⟨oc__law_pairs_hold, od__law_pairs_hold, .func (PySem.W.fnOf "_law_pairs_hold" "_law_pairs_hold" (defArgs st__law_pairs_hold) (defBody st__law_pairs_hold) (defScope st__law_pairs_hold) .none kV__law_pairs_hold dc__law_pairs_hold pm__law_pairs_hold an__law_pairs_hold cd__law_pairs_hold ct__law_pairs_hold), sl__law_pairs_hold⟩)
    (c__law_pairs_hold : PySem.W.codeIn K cd__law_pairs_hold "_law_pairs_hold" = true)
    (k__law_pairs_hold : PySem.W.keepIn K (.ref f__law_pairs_hold) = true)
    (a_law : PySem.W.nsIn K mainGlobals "law" = some (some (.ref f_law)))
    (l_law : K.lookup f_law = some ⟨oc_law, od_law, .func (PySem.W.fnOf "law" "law" (defArgs st_law) (defBody st_law) (defScope st_law) .none kV_law dc_law pm_law an_law cd_law ct_law), sl_law⟩)
    (c_law : PySem.W.codeIn K cd_law "law" = true)
    (k_law : PySem.W.keepIn K (.ref f_law) = true)
    (x_BadText : K.lookup c_BadText = some (excClassObj en_BadText eq_BadText c_BadText eN_BadText eb_BadText em_BadText true et_BadText es_BadText ea_BadText ec_BadText ed_BadText e0_BadText e1_BadText e2_BadText e3_BadText e5_BadText "ValueError.__new__"))
    (xr_BadText : PySem.HandSPX.refsVE em_BadText = true)
    (xs_BadText : PySem.W.findIn K (.ref c_BadText) "__setattr__" = some (some (.builtin "object.__setattr__")))
    (xg_BadText : PySem.W.findIn K (.ref c_BadText) "__getattribute__" = some (some (.builtin "BaseException.__getattribute__")))
    (xh_BadText : PySem.W.findIn K (.ref c_BadText) "__getattr__" = some none)
    (xn_BadText : PySem.W.findIn K (.ref c_BadText) "place" = some none)
    (a_BadText___init__ : PySem.W.findIn K (.ref c_BadText) "__init__" = some (some (.ref f_BadText___init__)))
    (xt_BadText : PySem.W.typeIn K (.ref f_BadText___init__) = some (.type "function"))
    (xk_BadText : PySem.W.keepIn K (.ref c_BadText) = true)
    (xb_BadText : PySem.W.subIn K (.ref c_BadText) (.type "BaseException") = some true)
    (xy_BadText : PySem.W.typeIn K (.ref c_BadText) = some (.type "type"))
    (xd_BadText : PySem.W.hasDictIn K c_BadText = true)
    (l_BadText___init__ : K.lookup f_BadText___init__ = some ⟨oc_BadText___init__, od_BadText___init__, .func (PySem.W.ksFn "__init__" "BadText.__init__" (defArgs st_BadText___init__) (defBody st_BadText___init__) (defScope st_BadText___init__) .none kV_BadText___init__ dc_BadText___init__ pm_BadText___init__ an_BadText___init__ (.ref ca_BadText___init__) ct_BadText___init__ cc_BadText___init__), sl_BadText___init__⟩)
    (c_BadText___init__ : PySem.W.codeIn K (.ref ca_BadText___init__) "BadText.__init__" = true)
    (cc1_BadText___init__ : K.lookup cc_BadText___init__ = some ⟨cl_BadText___init__, cld_BadText___init__, .cell (some (.ref c_BadText)), csl_BadText___init__⟩)
    (cc2_BadText___init__ : K.lookup ca_BadText___init__ = some ⟨ccl_BadText___init__, cdd_BadText___init__, .fields vs_BadText___init__, ccs_BadText___init__⟩)
    (cc3_BadText___init__ : vs_BadText___init__[2]? = some (.str fi_BadText___init__ tf_BadText___init__))
    (cc4_BadText___init__ : ((P.main.file : Str) == fi_BadText___init__) = true)
    (cc5_BadText___init__ : PySem.W.clsIn K c_BadText = some cdD_BadText___init__)
    (k_BadText___init__ : PySem.W.keepIn K (.ref f_BadText___init__) = true)
    (xu_BadText : PySem.W.ks_superIn K c_BadText c_BadText "__init__" = some (some (.builtin "ValueError.__init__")))
    (xv_BadText : PySem.W.subIn K (.ref c_BadText) (.type "ValueError") = some true)
    (xm_BadText : PySem.W.mroIn K c_BadText (.ref c_BadText) = some true)
    (x_TooMany : K.lookup c_TooMany = some (excClassObj en_TooMany eq_TooMany c_TooMany eN_TooMany eb_TooMany em_TooMany true et_TooMany es_TooMany ea_TooMany ec_TooMany ed_TooMany e0_TooMany e1_TooMany e2_TooMany e3_TooMany e5_TooMany "ValueError.__new__"))
    (xr_TooMany : PySem.HandSPX.refsVE em_TooMany = true)
    (xs_TooMany : PySem.W.findIn K (.ref c_TooMany) "__setattr__" = some (some (.builtin "object.__setattr__")))
    (xg_TooMany : PySem.W.findIn K (.ref c_TooMany) "__getattribute__" = some (some (.builtin "BaseException.__getattribute__")))
    (xh_TooMany : PySem.W.findIn K (.ref c_TooMany) "__getattr__" = some none)
    (xn_TooMany : PySem.W.findIn K (.ref c_TooMany) "limit" = some none)
    (a_TooMany___init__ : PySem.W.findIn K (.ref c_TooMany) "__init__" = some (some (.ref f_TooMany___init__)))
    (xt_TooMany : PySem.W.typeIn K (.ref f_TooMany___init__) = some (.type "function"))
    (xk_TooMany : PySem.W.keepIn K (.ref c_TooMany) = true)
    (xb_TooMany : PySem.W.subIn K (.ref c_TooMany) (.type "BaseException") = some true)
    (xy_TooMany : PySem.W.typeIn K (.ref c_TooMany) = some (.type "type"))
    (xd_TooMany : PySem.W.hasDictIn K c_TooMany = true)
    (l_TooMany___init__ : K.lookup f_TooMany___init__ = some ⟨oc_TooMany___init__, od_TooMany___init__, .func (PySem.W.ksFn "__init__" "TooMany.__init__" (defArgs st_TooMany___init__) (defBody st_TooMany___init__) (defScope st_TooMany___init__) .none kV_TooMany___init__ dc_TooMany___init__ pm_TooMany___init__ an_TooMany___init__ (.ref ca_TooMany___init__) ct_TooMany___init__ cc_TooMany___init__), sl_TooMany___init__⟩)
    (c_TooMany___init__ : PySem.W.codeIn K (.ref ca_TooMany___init__) "TooMany.__init__" = true)
    (cc1_TooMany___init__ : K.lookup cc_TooMany___init__ = some ⟨cl_TooMany___init__, cld_TooMany___init__, .cell (some (.ref c_TooMany)), csl_TooMany___init__⟩)
    (cc2_TooMany___init__ : K.lookup ca_TooMany___init__ = some ⟨ccl_TooMany___init__, cdd_TooMany___init__, .fields vs_TooMany___init__, ccs_TooMany___init__⟩)
    (cc3_TooMany___init__ : vs_TooMany___init__[2]? = some (.str fi_TooMany___init__ tf_TooMany___init__))
    (cc4_TooMany___init__ : ((P.main.file : Str) == fi_TooMany___init__) = true)
    (cc5_TooMany___init__ : PySem.W.clsIn K c_TooMany = some cdD_TooMany___init__)
    (k_TooMany___init__ : PySem.W.keepIn K (.ref f_TooMany___init__) = true)
    (xu_TooMany : PySem.W.ks_superIn K c_TooMany c_TooMany "__init__" = some (some (.builtin "ValueError.__init__")))
    (xv_TooMany : PySem.W.subIn K (.ref c_TooMany) (.type "ValueError") = some true)
    (xm_TooMany : PySem.W.mroIn K c_TooMany (.ref c_TooMany) = some true)
    (x_BadRule : K.lookup c_BadRule = some (excClassObj en_BadRule eq_BadRule c_BadRule eN_BadRule eb_BadRule em_BadRule true et_BadRule es_BadRule ea_BadRule ec_BadRule ed_BadRule e0_BadRule e1_BadRule e2_BadRule e3_BadRule e5_BadRule "ValueError.__new__"))
    (xr_BadRule : PySem.HandSPX.refsVE em_BadRule = true)
    (xs_BadRule : PySem.W.findIn K (.ref c_BadRule) "__setattr__" = some (some (.builtin "object.__setattr__")))
    (xg_BadRule : PySem.W.findIn K (.ref c_BadRule) "__getattribute__" = some (some (.builtin "BaseException.__getattribute__")))
    (xh_BadRule : PySem.W.findIn K (.ref c_BadRule) "__getattr__" = some none)
    (xn_BadRule : PySem.W.findIn K (.ref c_BadRule) "place" = some none)
    (a_BadRule___init__ : PySem.W.findIn K (.ref c_BadRule) "__init__" = some (some (.ref f_BadRule___init__)))
    (xt_BadRule : PySem.W.typeIn K (.ref f_BadRule___init__) = some (.type "function"))
    (xk_BadRule : PySem.W.keepIn K (.ref c_BadRule) = true)
    (xb_BadRule : PySem.W.subIn K (.ref c_BadRule) (.type "BaseException") = some true)
    (xy_BadRule : PySem.W.typeIn K (.ref c_BadRule) = some (.type "type"))
    (xd_BadRule : PySem.W.hasDictIn K c_BadRule = true)
    (l_BadRule___init__ : K.lookup f_BadRule___init__ = some ⟨oc_BadRule___init__, od_BadRule___init__, .func (PySem.W.ksFn "__init__" "BadRule.__init__" (defArgs st_BadRule___init__) (defBody st_BadRule___init__) (defScope st_BadRule___init__) .none kV_BadRule___init__ dc_BadRule___init__ pm_BadRule___init__ an_BadRule___init__ (.ref ca_BadRule___init__) ct_BadRule___init__ cc_BadRule___init__), sl_BadRule___init__⟩)
    (c_BadRule___init__ : PySem.W.codeIn K (.ref ca_BadRule___init__) "BadRule.__init__" = true)
    (cc1_BadRule___init__ : K.lookup cc_BadRule___init__ = some ⟨cl_BadRule___init__, cld_BadRule___init__, .cell (some (.ref c_BadRule)), csl_BadRule___init__⟩)
    (cc2_BadRule___init__ : K.lookup ca_BadRule___init__ = some ⟨ccl_BadRule___init__, cdd_BadRule___init__, .fields vs_BadRule___init__, ccs_BadRule___init__⟩)
    (cc3_BadRule___init__ : vs_BadRule___init__[2]? = some (.str fi_BadRule___init__ tf_BadRule___init__))
    (cc4_BadRule___init__ : ((P.main.file : Str) == fi_BadRule___init__) = true)
    (cc5_BadRule___init__ : PySem.W.clsIn K c_BadRule = some cdD_BadRule___init__)
    (k_BadRule___init__ : PySem.W.keepIn K (.ref f_BadRule___init__) = true)
    (xu_BadRule : PySem.W.ks_superIn K c_BadRule c_BadRule "__init__" = some (some (.builtin "ValueError.__init__")))
    (xv_BadRule : PySem.W.subIn K (.ref c_BadRule) (.type "ValueError") = some true)
    (xm_BadRule : PySem.W.mroIn K c_BadRule (.ref c_BadRule) = some true)
    (ec2 : PySem.W.specialIn K (.builtin "object.__class__") "__get__" = some (some (.builtin "getset_descriptor.__get__")))
    (ec3 : PySem.W.takesIn K (.builtin "object.__class__") = some true)
    (ec1_BadText : PySem.W.findIn K (.ref c_BadText) "__class__" = some (some (.builtin "object.__class__")))
    (ec4_BadText : PySem.W.mroIn K c_BadText (.type "object") = some true)
    (ec1_TooMany : PySem.W.findIn K (.ref c_TooMany) "__class__" = some (some (.builtin "object.__class__")))
    (ec4_TooMany : PySem.W.mroIn K c_TooMany (.type "object") = some true)
    (ec1_BadRule : PySem.W.findIn K (.ref c_BadRule) "__class__" = some (some (.builtin "object.__class__")))
    (ec4_BadRule : PySem.W.mroIn K c_BadRule (.type "object") = some true)
    (kt_BadText_BadText : PySem.W.kitOne K (.ref c_BadText) (.ref c_BadText) = some true)
    (kt_BadText_TooMany : PySem.W.kitOne K (.ref c_BadText) (.ref c_TooMany) = some false)
    (kt_BadText_ValueError : PySem.W.kitOne K (.ref c_BadText) (.type "ValueError") = some true)
    (kt_TooMany_TooMany : PySem.W.kitOne K (.ref c_TooMany) (.ref c_TooMany) = some true)
    (kt_TooMany_BadRule : PySem.W.kitOne K (.ref c_TooMany) (.ref c_BadRule) = some false)
    (kt_TooMany_ValueError : PySem.W.kitOne K (.ref c_TooMany) (.type "ValueError") = some true)
    (kt_BadRule_TooMany : PySem.W.kitOne K (.ref c_BadRule) (.ref c_TooMany) = some false)
    (kt_BadRule_BadRule : PySem.W.kitOne K (.ref c_BadRule) (.ref c_BadRule) = some true)
    (kt_BadRule_ValueError : PySem.W.kitOne K (.ref c_BadRule) (.type "ValueError") = some true)
    (xm_BadText_Fault : PySem.W.exmOne K (.ref c_BadText) (.ref c_Fault) = some true)
    (xm_TooMany_Fault : PySem.W.exmOne K (.ref c_TooMany) (.ref c_Fault) = some true)
    (xm_BadRule_Fault : PySem.W.exmOne K (.ref c_BadRule) (.ref c_Fault) = some true)
    (pg_Forms : PySem.W.plainGet K c_Forms Str.empty = true)
    (hd_Forms : PySem.W.hasDictIn K c_Forms = true)
    (po_Forms : PySem.W.plainOver K c_Forms = true)
    (sa_Forms : PySem.W.findIn K (.ref c_Forms) "__setattr__" = some (some (.builtin "object.__setattr__")))
    (mk_Forms : PySem.W.makesIn K c_Forms = true)
    (mi_Forms : PySem.W.isFn K (.ref f_Forms___init__) = true)
    (kc_Forms : PySem.W.keepIn K (.ref c_Forms) = true)
    (n_Forms_children : PySem.W.findIn K (.ref c_Forms) "children" = some none)
    (n_Forms_numbers : PySem.W.findIn K (.ref c_Forms) "numbers" = some none)
    (n_Forms_arity : PySem.W.findIn K (.ref c_Forms) "arity" = some none)
    (pg_Grammar : PySem.W.plainGet K c_Grammar Str.empty = true)
    (hd_Grammar : PySem.W.hasDictIn K c_Grammar = true)
    (po_Grammar : PySem.W.plainOver K c_Grammar = true)
    (sa_Grammar : PySem.W.findIn K (.ref c_Grammar) "__setattr__" = some (some (.builtin "object.__setattr__")))
    (mk_Grammar : PySem.W.makesIn K c_Grammar = true)
    (mi_Grammar : PySem.W.isFn K (.ref f_Grammar___init__) = true)
    (kc_Grammar : PySem.W.keepIn K (.ref c_Grammar) = true)
    (n_Grammar_names : PySem.W.findIn K (.ref c_Grammar) "names" = some none)
    (n_Grammar_rules : PySem.W.findIn K (.ref c_Grammar) "rules" = some none)
    (pg_PairGrammar : PySem.W.plainGet K c_PairGrammar Str.empty = true)
    (hd_PairGrammar : PySem.W.hasDictIn K c_PairGrammar = true)
    (po_PairGrammar : PySem.W.plainOver K c_PairGrammar = true)
    (sa_PairGrammar : PySem.W.findIn K (.ref c_PairGrammar) "__setattr__" = some (some (.builtin "object.__setattr__")))
    (mk_PairGrammar : PySem.W.makesIn K c_PairGrammar = true)
    (mi_PairGrammar : PySem.W.isFn K (.ref f_PairGrammar___init__) = true)
    (kc_PairGrammar : PySem.W.keepIn K (.ref c_PairGrammar) = true)
    (n_PairGrammar_names : PySem.W.findIn K (.ref c_PairGrammar) "names" = some none)
    (n_PairGrammar_rules : PySem.W.findIn K (.ref c_PairGrammar) "rules" = some none)
    (n_PairGrammar_forms : PySem.W.findIn K (.ref c_PairGrammar) "forms" = some none)
    (sm_PairGrammar : PySem.W.mroIn K c_PairGrammar (.ref c_PairGrammar) = some true)
    (st_PairGrammar : PySem.W.typeIn K (.ref f_Grammar___init__) = some (.type "function"))
    (sf_PairGrammar : PySem.W.fnIn K f_Grammar___init__ = true)
    (asup_PairGrammar : PySem.W.ks_superIn K c_PairGrammar c_PairGrammar "__init__" = some (some (.ref f_Grammar___init__)))
    (opn : PySem.W.nsIn K cStatics "thirdparty.any" = some none)
    (zsuper : PySem.W.nsIn K mainGlobals "super" = some none)
    (htop : (P.main.scope.names.lookup ("super" : Str)).isSome = false)
    (z_len : PySem.W.nsIn K mainGlobals "len" = some none)
    (z_int : PySem.W.nsIn K mainGlobals "int" = some none)
    (z_min : PySem.W.nsIn K mainGlobals "min" = some none)
    (z_list : PySem.W.nsIn K mainGlobals "list" = some none)
    (z_tuple : PySem.W.nsIn K mainGlobals "tuple" = some none)
    (z_isinstance : PySem.W.nsIn K mainGlobals "isinstance" = some none)
    (z_range : PySem.W.nsIn K mainGlobals "range" = some none)
    (z_enumerate : PySem.W.nsIn K mainGlobals "enumerate" = some none)
    (z_str : PySem.W.nsIn K mainGlobals "str" = some none)
    (z_bool : PySem.W.nsIn K mainGlobals "bool" = some none)
    (z_ValueError : PySem.W.nsIn K mainGlobals "ValueError" = some none)
    (z_sorted : PySem.W.nsIn K mainGlobals "sorted" = some none)
    (v_LETTERS : PySem.W.nsIn K mainGlobals "LETTERS" = some (some (.str "abcdefghijklmnopqrstuvwxyz" vt_LETTERS)))
    (v_MOST_LEAF : PySem.W.nsIn K mainGlobals "MOST_LEAF" = some (some (.int 12 vt_MOST_LEAF)))
    (v_MOST_NAMES : PySem.W.nsIn K mainGlobals "MOST_NAMES" = some (some (.int 300 vt_MOST_NAMES)))
    (v_MOST_RULES : PySem.W.nsIn K mainGlobals "MOST_RULES" = some (some (.int 900 vt_MOST_RULES)))
    (vg_RULE_KINDS : PySem.W.nsIn K mainGlobals "RULE_KINDS" = some (some (.ref v_RULE_KINDS)))
    (vl_RULE_KINDS : K.lookup v_RULE_KINDS = some ⟨.type "tuple", vo_RULE_KINDS, .seq #[.str "leaf" vt_RULE_KINDS_0, .str "wrap" vt_RULE_KINDS_1, .str "left" vt_RULE_KINDS_2, .str "right" vt_RULE_KINDS_3] vn_RULE_KINDS, vs_RULE_KINDS⟩)
    (yi1 : PySem.W.findIn K (.ref c_PairGrammar) "__class__" = some (some (.builtin "object.__class__")))
    (yi2 : PySem.W.specialIn K (.builtin "object.__class__") "__get__" = some (some (.builtin "getset_descriptor.__get__")))
    (yi3 : PySem.W.takesIn K (.builtin "object.__class__") = some true)
    (yi4 : PySem.W.mroIn K c_PairGrammar (.type "object") = some true)
    (y_kt_PairGrammar_Grammar : PySem.W.kitOne K (.ref c_PairGrammar) (.ref c_Grammar) = some true)
    (kc1 : PySem.W.findIn K (.ref c_PairGrammar) "KIND" = some (some (.str "pairs" kt_KIND)))
    (kc2 : PySem.W.specialIn K (.str "pairs" kt_KIND) "__get__" = some none)
    (kc3 : PySem.W.readsIn K c_PairGrammar (.type "type") = true)
    (kc4 : PySem.W.specialIn K (.ref c_PairGrammar) "__getattribute__" = some (some (.builtin "type.__getattribute__")))
    (kc5 : PySem.W.findCls K (.ref c_PairGrammar) (.type "type") "KIND" = some (.val (.str "pairs" kt_KIND)))
    : ∃ fd : FuncData, (∀ (s : Shared) (u : Value), BindsTo s fd ⟨[u], []⟩ [("script", u)]) ∧ ∀ base : Heap, K.In base → base.Ns mainGlobals mg → FnOk P w K mg base (L2.CX P w) 16 fa fd ["script"] (SpSc K 63 (fun ns p ds => ds = [.obj p]) (fun ns ds d => d = .bl true)) := by
  have e : fa = f_law := by
    have e2 := hfa.symm.trans (PySem.W.mg_of X G a_law)
    injection e2 with e3
    injection e3
  rw [e]
  have F_check_text : FunD K "check_text" "check_text" (defArgs st_check_text) (defBody st_check_text) (defScope st_check_text) [.int 60] [] f_check_text (PySem.W.fnOf "check_text" "check_text" (defArgs st_check_text) (defBody st_check_text) (defScope st_check_text) (.ref td_check_text) kV_check_text dc_check_text pm_check_text an_check_text cd_check_text ct_check_text) := ⟨⟨_, _, _, _, _, _, _, _, _, _, rfl, l_check_text, c_check_text, .inr ⟨by simp, td_check_text, _, _, _, rfl, t_check_text, rfl, .cons ⟨_, rfl⟩ .nil⟩, .inl rfl⟩, k_check_text⟩
  have b_check_text : Binds K (PySem.W.fnOf "check_text" "check_text" (defArgs st_check_text) (defBody st_check_text) (defScope st_check_text) (.ref td_check_text) kV_check_text dc_check_text pm_check_text an_check_text cd_check_text ct_check_text) ps_check_text [] := by
    obtain ⟨ds, hv, hb⟩ := F_check_text.binds1 (ps := ps_check_text) 2 1 (by simp) rfl fun T kV doc pm an cdv ct us its h1 h2 => by match us, its, h1, h2 with | [_, _], [_], _, _ => exact ⟨_, rfl, rfl⟩
    cases hv
    exact hb
  have T : Txt P K mg { f_bad_letter := f_bad_letter, d_bad_letter := (PySem.W.fnOf "bad_letter" "bad_letter" (defArgs st_bad_letter) (defBody st_bad_letter) (defScope st_bad_letter) .none kV_bad_letter dc_bad_letter pm_bad_letter an_bad_letter cd_bad_letter ct_bad_letter), f_check_text := f_check_text, d_check_text := (PySem.W.fnOf "check_text" "check_text" (defArgs st_check_text) (defBody st_check_text) (defScope st_check_text) (.ref td_check_text) kV_check_text dc_check_text pm_check_text an_check_text cd_check_text ct_check_text), f_pair_fits := f_pair_fits, d_pair_fits := (PySem.W.fnOf "pair_fits" "pair_fits" (defArgs st_pair_fits) (defBody st_pair_fits) (defScope st_pair_fits) .none kV_pair_fits dc_pair_fits pm_pair_fits an_pair_fits cd_pair_fits ct_pair_fits), f_Forms___init__ := f_Forms___init__, d_Forms___init__ := (PySem.W.fnOf "__init__" "Forms.__init__" (defArgs st_Forms___init__) (defBody st_Forms___init__) (defScope st_Forms___init__) .none kV_Forms___init__ dc_Forms___init__ pm_Forms___init__ an_Forms___init__ cd_Forms___init__ ct_Forms___init__), f_Grammar___init__ := f_Grammar___init__, d_Grammar___init__ := (PySem.W.fnOf "__init__" "Grammar.__init__" (defArgs st_Grammar___init__) (defBody st_Grammar___init__) (defScope st_Grammar___init__) .none kV_Grammar___init__ dc_Grammar___init__ pm_Grammar___init__ an_Grammar___init__ cd_Grammar___init__ ct_Grammar___init__), f_join_pairs := f_join_pairs, d_join_pairs := (PySem.W.fnOf "join_pairs" "join_pairs" (defArgs st_join_pairs) (defBody st_join_pairs) (defScope st_join_pairs) .none kV_join_pairs dc_join_pairs pm_join_pairs an_join_pairs cd_join_pairs ct_join_pairs), f_is_leaf_text := f_is_leaf_text, d_is_leaf_text := (PySem.W.fnOf "is_leaf_text" "is_leaf_text" (defArgs st_is_leaf_text) (defBody st_is_leaf_text) (defScope st_is_leaf_text) .none kV_is_leaf_text dc_is_leaf_text pm_is_leaf_text an_is_leaf_text cd_is_leaf_text ct_is_leaf_text), f_is_name := f_is_name, d_is_name := (PySem.W.fnOf "is_name" "is_name" (defArgs st_is_name) (defBody st_is_name) (defScope st_is_name) .none kV_is_name dc_is_name pm_is_name an_is_name cd_is_name ct_is_name), f_is_pair_rule := f_is_pair_rule, d_is_pair_rule := (PySem.W.fnOf "is_pair_rule" "is_pair_rule" (defArgs st_is_pair_rule) (defBody st_is_pair_rule) (defScope st_is_pair_rule) .none kV_is_pair_rule dc_is_pair_rule pm_is_pair_rule an_is_pair_rule cd_is_pair_rule ct_is_pair_rule), f_child_names := f_child_names, d_child_names := (PySem.W.fnOf "child_names" "child_names" (defArgs st_child_names) (defBody st_child_names) (defScope st_child_names) .none kV_child_names dc_child_names pm_child_names an_child_names cd_child_names ct_child_names), f_PairGrammar___init__ := f_PairGrammar___init__, d_PairGrammar___init__ := (PySem.W.ksFn "__init__" "PairGrammar.__init__" (defArgs st_PairGrammar___init__) (defBody st_PairGrammar___init__) (defScope st_PairGrammar___init__) .none kV_PairGrammar___init__ dc_PairGrammar___init__ pm_PairGrammar___init__ an_PairGrammar___init__ (.ref ca_PairGrammar___init__) ct_PairGrammar___init__ cc_PairGrammar___init__), f__law_row := f__law_row, d__law_row := (PySem.W.fnOf "_law_row" "_law_row" (defArgs st__law_row) (defBody st__law_row) (defScope st__law_row) .none kV__law_row dc__law_row pm__law_row an__law_row cd__law_row ct__law_row), f__law_same := f__law_same, d__law_same := (PySem.W.fnOf "_law_same" "_law_same" (defArgs st__law_same) (defBody st__law_same) (defScope st__law_same) .none kV__law_same dc__law_same pm__law_same an__law_same cd__law_same ct__law_same), f__law_text := f__law_text, d__law_text := (PySem.W.fnOf "_law_text" "_law_text" (defArgs st__law_text) (defBody st__law_text) (defScope st__law_text) .none kV__law_text dc__law_text pm__law_text an__law_text cd__law_text ct__law_text), f__law_join := f__law_join, d__law_join := (PySem.W.fnOf "_law_join" "_law_join" (defArgs st__law_join) (defBody st__law_join) (defScope st__law_join) .none kV__law_join dc__law_join pm__law_join an__law_join cd__law_join ct__law_join), f__law_letters := f__law_letters, d__law_letters := (PySem.W.fnOf "_law_letters" "_law_letters" (defArgs st__law_letters) (defBody st__law_letters) (defScope st__law_letters) .none kV__law_letters dc__law_letters pm__law_letters an__law_letters cd__law_letters ct__law_letters), f__law_fits := f__law_fits, d__law_fits := (PySem.W.fnOf "_law_fits" "_law_fits" (defArgs st__law_fits) (defBody st__law_fits) (defScope st__law_fits) .none kV__law_fits dc__law_fits pm__law_fits an__law_fits cd__law_fits ct__law_fits), f__law_bad_place := f__law_bad_place, d__law_bad_place := (PySem.W.fnOf "_law_bad_place" "_law_bad_place" (defArgs st__law_bad_place) (defBody st__law_bad_place) (defScope st__law_bad_place) .none kV__law_bad_place dc__law_bad_place pm__law_bad_place an__law_bad_place cd__law_bad_place ct__law_bad_place), f__law_good_rule := f__law_good_rule, d__law_good_rule := (PySem.W.fnOf "_law_good_rule" "_law_good_rule" (defArgs st__law_good_rule) (defBody st__law_good_rule) (defScope st__law_good_rule) .none kV__law_good_rule dc__law_good_rule pm__law_good_rule an__law_good_rule cd__law_good_rule ct__law_good_rule), f__law_bad_rule := f__law_bad_rule, d__law_bad_rule := (PySem.W.fnOf "_law_bad_rule" "_law_bad_rule" (defArgs st__law_bad_rule) (defBody st__law_bad_rule) (defScope st__law_bad_rule) .none kV__law_bad_rule dc__law_bad_rule pm__law_bad_rule an__law_bad_rule cd__law_bad_rule ct__law_bad_rule), f__law_is_valid := f__law_is_valid, d__law_is_valid := (PySem.W.fnOf "_law_is_valid" "_law_is_valid" (defArgs st__law_is_valid) (defBody st__law_is_valid) (defScope st__law_is_valid) .none kV__law_is_valid dc__law_is_valid pm__law_is_valid an__law_is_valid cd__law_is_valid ct__law_is_valid), f__law_due := f__law_due, d__law_due := (PySem.W.fnOf "_law_due" "_law_due" (defArgs st__law_due) (defBody st__law_due) (defScope st__law_due) .none kV__law_due dc__law_due pm__law_due an__law_due cd__law_due ct__law_due), f__law_made := f__law_made, d__law_made := (PySem.W.fnOf "_law_made" "_law_made" (defArgs st__law_made) (defBody st__law_made) (defScope st__law_made) .none kV__law_made dc__law_made pm__law_made an__law_made cd__law_made ct__law_made), f__law_drawn_holds := f__law_drawn_holds, d__law_drawn_holds := (PySem.W.fnOf "_law_drawn_holds" "_law_drawn_holds" (defArgs st__law_drawn_holds) (defBody st__law_drawn_holds) (defScope st__law_drawn_holds) .none kV__law_drawn_holds dc__law_drawn_holds pm__law_drawn_holds an__law_drawn_holds cd__law_drawn_holds ct__law_drawn_holds), f__law_limits_hold := f__law_limits_hold, d__law_limits_hold := (PySem.W.fnOf "_law_limits_hold" "_law_limits_hold" (defArgs st__law_limits_hold) (defBody st__law_limits_hold) (defScope st__law_limits_hold) .none kV__law_limits_hold dc__law_limits_hold pm__law_limits_hold an__law_limits_hold cd__law_limits_hold ct__law_limits_hold), f__law_checked := f__law_checked, d__law_checked := (PySem.W.fnOf "_law_checked" "_law_checked" (defArgs st__law_checked) (defBody st__law_checked) (defScope st__law_checked) .none kV__law_checked dc__law_checked pm__law_checked an__law_checked cd__law_checked ct__law_checked), f__law_texts_hold := f__law_texts_hold, d__law_texts_hold := (PySem.W.fnOf "_law_texts_hold" "_law_texts_hold" (defArgs st__law_texts_hold) (defBody st__law_texts_hold) (defScope st__law_texts_hold) .none kV__law_texts_hold dc__law_texts_hold pm__law_texts_hold an__law_texts_hold cd__law_texts_hold ct__law_texts_hold), f__law_pairs_hold := f__law_pairs_hold, d__law_pairs_hold := (PySem.W.fnOf "_law_pairs_hold" "_law_pairs_hold" (defArgs st__law_pairs_hold) (defBody st__law_pairs_hold) (defScope st__law_pairs_hold) .none kV__law_pairs_hold dc__law_pairs_hold pm__law_pairs_hold an__law_pairs_hold cd__law_pairs_hold ct__law_pairs_hold), f_law := f_law, d_law := (PySem.W.fnOf "law" "law" (defArgs st_law) (defBody st_law) (defScope st_law) .none kV_law dc_law pm_law an_law cd_law ct_law), c_Fault := c_Fault, c_BadText := c_BadText, f_BadText___init__ := f_BadText___init__, d_BadText___init__ := (PySem.W.ksFn "__init__" "BadText.__init__" (defArgs st_BadText___init__) (defBody st_BadText___init__) (defScope st_BadText___init__) .none kV_BadText___init__ dc_BadText___init__ pm_BadText___init__ an_BadText___init__ (.ref ca_BadText___init__) ct_BadText___init__ cc_BadText___init__), c_TooMany := c_TooMany, f_TooMany___init__ := f_TooMany___init__, d_TooMany___init__ := (PySem.W.ksFn "__init__" "TooMany.__init__" (defArgs st_TooMany___init__) (defBody st_TooMany___init__) (defScope st_TooMany___init__) .none kV_TooMany___init__ dc_TooMany___init__ pm_TooMany___init__ an_TooMany___init__ (.ref ca_TooMany___init__) ct_TooMany___init__ cc_TooMany___init__), c_BadRule := c_BadRule, f_BadRule___init__ := f_BadRule___init__, d_BadRule___init__ := (PySem.W.ksFn "__init__" "BadRule.__init__" (defArgs st_BadRule___init__) (defBody st_BadRule___init__) (defScope st_BadRule___init__) .none kV_BadRule___init__ dc_BadRule___init__ pm_BadRule___init__ an_BadRule___init__ (.ref ca_BadRule___init__) ct_BadRule___init__ cc_BadRule___init__), c_Forms := c_Forms, c_Grammar := c_Grammar, c_PairGrammar := c_PairGrammar, v_RULE_KINDS := v_RULE_KINDS } :=
    { g_bad_letter := PySem.W.mg_of X G a_bad_letter,
      F_bad_letter := ⟨⟨_, _, _, _, _, _, _, _, _, _, rfl, l_bad_letter, c_bad_letter, .inl ⟨rfl, rfl⟩, .inl rfl⟩, k_bad_letter⟩,
      b_bad_letter := Binds.all fun us hl => by match us, hl with | [_, _], _ => rfl,
      g_check_text := PySem.W.mg_of X G a_check_text,
      F_check_text := F_check_text,
      b_check_text := b_check_text,
      g_pair_fits := PySem.W.mg_of X G a_pair_fits,
      F_pair_fits := ⟨⟨_, _, _, _, _, _, _, _, _, _, rfl, l_pair_fits, c_pair_fits, .inl ⟨rfl, rfl⟩, .inl rfl⟩, k_pair_fits⟩,
      b_pair_fits := Binds.all fun us hl => by match us, hl with | [_, _], _ => rfl,
      F_Forms___init__ := ⟨⟨_, _, _, _, _, _, _, _, _, _, rfl, l_Forms___init__, c_Forms___init__, .inl ⟨rfl, rfl⟩, .inl rfl⟩, k_Forms___init__⟩,
      b_Forms___init__ := Binds.all fun us hl => by match us, hl with | [_, _], _ => rfl,
      F_Grammar___init__ := ⟨⟨_, _, _, _, _, _, _, _, _, _, rfl, l_Grammar___init__, c_Grammar___init__, .inl ⟨rfl, rfl⟩, .inl rfl⟩, k_Grammar___init__⟩,
      b_Grammar___init__ := Binds.all fun us hl => by match us, hl with | [_, _, _], _ => rfl,
      g_join_pairs := PySem.W.mg_of X G a_join_pairs,
      F_join_pairs := ⟨⟨_, _, _, _, _, _, _, _, _, _, rfl, l_join_pairs, c_join_pairs, .inl ⟨rfl, rfl⟩, .inl rfl⟩, k_join_pairs⟩,
      b_join_pairs := Binds.all fun us hl => by match us, hl with | [_, _, _], _ => rfl,
      g_is_leaf_text := PySem.W.mg_of X G a_is_leaf_text,
      F_is_leaf_text := ⟨⟨_, _, _, _, _, _, _, _, _, _, rfl, l_is_leaf_text, c_is_leaf_text, .inl ⟨rfl, rfl⟩, .inl rfl⟩, k_is_leaf_text⟩,
      b_is_leaf_text := Binds.all fun us hl => by match us, hl with | [_], _ => rfl,
      g_is_name := PySem.W.mg_of X G a_is_name,
      F_is_name := ⟨⟨_, _, _, _, _, _, _, _, _, _, rfl, l_is_name, c_is_name, .inl ⟨rfl, rfl⟩, .inl rfl⟩, k_is_name⟩,
      b_is_name := Binds.all fun us hl => by match us, hl with | [_, _], _ => rfl,
      g_is_pair_rule := PySem.W.mg_of X G a_is_pair_rule,
      F_is_pair_rule := ⟨⟨_, _, _, _, _, _, _, _, _, _, rfl, l_is_pair_rule, c_is_pair_rule, .inl ⟨rfl, rfl⟩, .inl rfl⟩, k_is_pair_rule⟩,
      b_is_pair_rule := Binds.all fun us hl => by match us, hl with | [_, _], _ => rfl,
      g_child_names := PySem.W.mg_of X G a_child_names,
      F_child_names := ⟨⟨_, _, _, _, _, _, _, _, _, _, rfl, l_child_names, c_child_names, .inl ⟨rfl, rfl⟩, .inl rfl⟩, k_child_names⟩,
      b_child_names := Binds.all fun us hl => by match us, hl with | [_], _ => rfl,
      F_PairGrammar___init__ := ⟨⟨_, _, _, _, _, _, _, _, _, _, _, _, _, _, _, _, _, _, _, rfl, l_PairGrammar___init__, c_PairGrammar___init__, cc1_PairGrammar___init__, cc2_PairGrammar___init__, cc3_PairGrammar___init__, cc4_PairGrammar___init__⟩, k_PairGrammar___init__, htop, PySem.W.mg_none_of X G zsuper, ⟨_, cc5_PairGrammar___init__⟩⟩,
      b_PairGrammar___init__ := Binds.all fun us hl => by match us, hl with | [_, _, _], _ => rfl,
      g__law_row := PySem.W.mg_of X G a__law_row,
      F__law_row := ⟨⟨_, _, _, _, _, _, _, _, _, _, rfl, l__law_row, c__law_row, .inl ⟨rfl, rfl⟩, .inl rfl⟩, k__law_row⟩,
      b__law_row := Binds.all fun us hl => by match us, hl with | [_, _], _ => rfl,
      g__law_same := PySem.W.mg_of X G a__law_same,
      F__law_same := ⟨⟨_, _, _, _, _, _, _, _, _, _, rfl, l__law_same, c__law_same, .inl ⟨rfl, rfl⟩, .inl rfl⟩, k__law_same⟩,
      b__law_same := Binds.all fun us hl => by match us, hl with | [_, _], _ => rfl,
      g__law_text := PySem.W.mg_of X G a__law_text,
      F__law_text := ⟨⟨_, _, _, _, _, _, _, _, _, _, rfl, l__law_text, c__law_text, .inl ⟨rfl, rfl⟩, .inl rfl⟩, k__law_text⟩,
      b__law_text := Binds.all fun us hl => by match us, hl with | [_], _ => rfl,
      g__law_join := PySem.W.mg_of X G a__law_join,
      F__law_join := ⟨⟨_, _, _, _, _, _, _, _, _, _, rfl, l__law_join, c__law_join, .inl ⟨rfl, rfl⟩, .inl rfl⟩, k__law_join⟩,
      b__law_join := Binds.all fun us hl => by match us, hl with | [_, _, _], _ => rfl,
      g__law_letters := PySem.W.mg_of X G a__law_letters,
      F__law_letters := ⟨⟨_, _, _, _, _, _, _, _, _, _, rfl, l__law_letters, c__law_letters, .inl ⟨rfl, rfl⟩, .inl rfl⟩, k__law_letters⟩,
      b__law_letters := Binds.all fun us hl => by match us, hl with | [_, _, _], _ => rfl,
      g__law_fits := PySem.W.mg_of X G a__law_fits,
      F__law_fits := ⟨⟨_, _, _, _, _, _, _, _, _, _, rfl, l__law_fits, c__law_fits, .inl ⟨rfl, rfl⟩, .inl rfl⟩, k__law_fits⟩,
      b__law_fits := Binds.all fun us hl => by match us, hl with | [_, _, _], _ => rfl,
      g__law_bad_place := PySem.W.mg_of X G a__law_bad_place,
      F__law_bad_place := ⟨⟨_, _, _, _, _, _, _, _, _, _, rfl, l__law_bad_place, c__law_bad_place, .inl ⟨rfl, rfl⟩, .inl rfl⟩, k__law_bad_place⟩,
      b__law_bad_place := Binds.all fun us hl => by match us, hl with | [_, _], _ => rfl,
      g__law_good_rule := PySem.W.mg_of X G a__law_good_rule,
      F__law_good_rule := ⟨⟨_, _, _, _, _, _, _, _, _, _, rfl, l__law_good_rule, c__law_good_rule, .inl ⟨rfl, rfl⟩, .inl rfl⟩, k__law_good_rule⟩,
      b__law_good_rule := Binds.all fun us hl => by match us, hl with | [_, _], _ => rfl,
      g__law_bad_rule := PySem.W.mg_of X G a__law_bad_rule,
      F__law_bad_rule := ⟨⟨_, _, _, _, _, _, _, _, _, _, rfl, l__law_bad_rule, c__law_bad_rule, .inl ⟨rfl, rfl⟩, .inl rfl⟩, k__law_bad_rule⟩,
      b__law_bad_rule := Binds.all fun us hl => by match us, hl with | [_, _, _], _ => rfl,
      g__law_is_valid := PySem.W.mg_of X G a__law_is_valid,
      F__law_is_valid := ⟨⟨_, _, _, _, _, _, _, _, _, _, rfl, l__law_is_valid, c__law_is_valid, .inl ⟨rfl, rfl⟩, .inl rfl⟩, k__law_is_valid⟩,
      b__law_is_valid := Binds.all fun us hl => by match us, hl with | [_, _], _ => rfl,
      g__law_due := PySem.W.mg_of X G a__law_due,
      F__law_due := ⟨⟨_, _, _, _, _, _, _, _, _, _, rfl, l__law_due, c__law_due, .inl ⟨rfl, rfl⟩, .inl rfl⟩, k__law_due⟩,
      b__law_due := Binds.all fun us hl => by match us, hl with | [_, _], _ => rfl,
      g__law_made := PySem.W.mg_of X G a__law_made,
      F__law_made := ⟨⟨_, _, _, _, _, _, _, _, _, _, rfl, l__law_made, c__law_made, .inl ⟨rfl, rfl⟩, .inl rfl⟩, k__law_made⟩,
      b__law_made := Binds.all fun us hl => by match us, hl with | [_, _], _ => rfl,
      g__law_drawn_holds := PySem.W.mg_of X G a__law_drawn_holds,
      F__law_drawn_holds := ⟨⟨_, _, _, _, _, _, _, _, _, _, rfl, l__law_drawn_holds, c__law_drawn_holds, .inl ⟨rfl, rfl⟩, .inl rfl⟩, k__law_drawn_holds⟩,
      b__law_drawn_holds := Binds.all fun us hl => by match us, hl with | [_, _], _ => rfl,
      g__law_limits_hold := PySem.W.mg_of X G a__law_limits_hold,
      F__law_limits_hold := ⟨⟨_, _, _, _, _, _, _, _, _, _, rfl, l__law_limits_hold, c__law_limits_hold, .inl ⟨rfl, rfl⟩, .inl rfl⟩, k__law_limits_hold⟩,
      b__law_limits_hold := Binds.all fun us hl => by match us, hl with | [_, _], _ => rfl,
      g__law_checked := PySem.W.mg_of X G a__law_checked,
      F__law_checked := ⟨⟨_, _, _, _, _, _, _, _, _, _, rfl, l__law_checked, c__law_checked, .inl ⟨rfl, rfl⟩, .inl rfl⟩, k__law_checked⟩,
      b__law_checked := Binds.all fun us hl => by match us, hl with | [_], _ => rfl,
      g__law_texts_hold := PySem.W.mg_of X G a__law_texts_hold,
      F__law_texts_hold := ⟨⟨_, _, _, _, _, _, _, _, _, _, rfl, l__law_texts_hold, c__law_texts_hold, .inl ⟨rfl, rfl⟩, .inl rfl⟩, k__law_texts_hold⟩,
      b__law_texts_hold := Binds.all fun us hl => by match us, hl with | [_], _ => rfl,
      g__law_pairs_hold := PySem.W.mg_of X G a__law_pairs_hold,
      F__law_pairs_hold := ⟨⟨_, _, _, _, _, _, _, _, _, _, rfl, l__law_pairs_hold, c__law_pairs_hold, .inl ⟨rfl, rfl⟩, .inl rfl⟩, k__law_pairs_hold⟩,
      b__law_pairs_hold := Binds.all fun us hl => by match us, hl with | [_, _], _ => rfl,
      g_law := PySem.W.mg_of X G a_law,
      F_law := ⟨⟨_, _, _, _, _, _, _, _, _, _, rfl, l_law, c_law, .inl ⟨rfl, rfl⟩, .inl rfl⟩, k_law⟩,
      b_law := Binds.all fun us hl => by match us, hl with | [_], _ => rfl,
      gc_Fault := PySem.W.mg_of X G gc_Fault,
      e_BadText := { gC := PySem.W.mg_of X G gc_BadText, cls := ⟨_, _, _, _, _, _, _, _, _, _, _, _, _, _, _, x_BadText, xr_BadText⟩, sa := xs_BadText, ga := xg_BadText, gg := xh_BadText, noN := xn_BadText, iC := a_BadText___init__, tC := xt_BadText, kC := xk_BadText, exC := xb_BadText, tyC := xy_BadText, hdC := xd_BadText, est := est_BadText, fn := ⟨_, ⟨⟨_, _, _, _, _, _, _, _, _, _, _, _, _, _, _, _, _, _, _, rfl, l_BadText___init__, c_BadText___init__, cc1_BadText___init__, cc2_BadText___init__, cc3_BadText___init__, cc4_BadText___init__⟩, k_BadText___init__, htop, PySem.W.mg_none_of X G zsuper, ⟨_, cc5_BadText___init__⟩⟩⟩, sup := xu_BadText, hB := xv_BadText, mro := xm_BadText, op := opn },
      e_TooMany := { gC := PySem.W.mg_of X G gc_TooMany, cls := ⟨_, _, _, _, _, _, _, _, _, _, _, _, _, _, _, x_TooMany, xr_TooMany⟩, sa := xs_TooMany, ga := xg_TooMany, gg := xh_TooMany, noN := xn_TooMany, iC := a_TooMany___init__, tC := xt_TooMany, kC := xk_TooMany, exC := xb_TooMany, tyC := xy_TooMany, hdC := xd_TooMany, est := est_TooMany, fn := ⟨_, ⟨⟨_, _, _, _, _, _, _, _, _, _, _, _, _, _, _, _, _, _, _, rfl, l_TooMany___init__, c_TooMany___init__, cc1_TooMany___init__, cc2_TooMany___init__, cc3_TooMany___init__, cc4_TooMany___init__⟩, k_TooMany___init__, htop, PySem.W.mg_none_of X G zsuper, ⟨_, cc5_TooMany___init__⟩⟩⟩, sup := xu_TooMany, hB := xv_TooMany, mro := xm_TooMany, op := opn },
      e_BadRule := { gC := PySem.W.mg_of X G gc_BadRule, cls := ⟨_, _, _, _, _, _, _, _, _, _, _, _, _, _, _, x_BadRule, xr_BadRule⟩, sa := xs_BadRule, ga := xg_BadRule, gg := xh_BadRule, noN := xn_BadRule, iC := a_BadRule___init__, tC := xt_BadRule, kC := xk_BadRule, exC := xb_BadRule, tyC := xy_BadRule, hdC := xd_BadRule, est := est_BadRule, fn := ⟨_, ⟨⟨_, _, _, _, _, _, _, _, _, _, _, _, _, _, _, _, _, _, _, rfl, l_BadRule___init__, c_BadRule___init__, cc1_BadRule___init__, cc2_BadRule___init__, cc3_BadRule___init__, cc4_BadRule___init__⟩, k_BadRule___init__, htop, PySem.W.mg_none_of X G zsuper, ⟨_, cc5_BadRule___init__⟩⟩⟩, sup := xu_BadRule, hB := xv_BadRule, mro := xm_BadRule, op := opn },
      xf_TooMany := ⟨xg_TooMany, xh_TooMany, xb_TooMany, xd_TooMany⟩,
      xn_TooMany_limit := xn_TooMany,
      xf_BadRule := ⟨xg_BadRule, xh_BadRule, xb_BadRule, xd_BadRule⟩,
      xn_BadRule_place := xn_BadRule,
      xf_BadText := ⟨xg_BadText, xh_BadText, xb_BadText, xd_BadText⟩,
      xn_BadText_place := xn_BadText,
      gc_Forms := PySem.W.mg_of X G gc_Forms,
      cl_Forms := ⟨pg_Forms, hd_Forms, po_Forms, sa_Forms⟩,
      mk_Forms := ⟨mk_Forms, a_Forms___init__, mi_Forms, kc_Forms⟩,
      n_Forms_children := n_Forms_children,
      n_Forms_numbers := n_Forms_numbers,
      n_Forms_arity := n_Forms_arity,
      gc_Grammar := PySem.W.mg_of X G gc_Grammar,
      cl_Grammar := ⟨pg_Grammar, hd_Grammar, po_Grammar, sa_Grammar⟩,
      mk_Grammar := ⟨mk_Grammar, a_Grammar___init__, mi_Grammar, kc_Grammar⟩,
      n_Grammar_names := n_Grammar_names,
      n_Grammar_rules := n_Grammar_rules,
      gc_PairGrammar := PySem.W.mg_of X G gc_PairGrammar,
      cl_PairGrammar := ⟨pg_PairGrammar, hd_PairGrammar, po_PairGrammar, sa_PairGrammar⟩,
      mk_PairGrammar := ⟨mk_PairGrammar, a_PairGrammar___init__, mi_PairGrammar, kc_PairGrammar⟩,
      n_PairGrammar_names := n_PairGrammar_names,
      n_PairGrammar_rules := n_PairGrammar_rules,
      n_PairGrammar_forms := n_PairGrammar_forms,
      su_PairGrammar := ⟨asup_PairGrammar, sm_PairGrammar, st_PairGrammar, sf_PairGrammar, opn⟩,
      z_len := PySem.W.mg_none_of X G z_len,
      z_int := PySem.W.mg_none_of X G z_int,
      z_min := PySem.W.mg_none_of X G z_min,
      z_list := PySem.W.mg_none_of X G z_list,
      z_tuple := PySem.W.mg_none_of X G z_tuple,
      z_isinstance := PySem.W.mg_none_of X G z_isinstance,
      z_range := PySem.W.mg_none_of X G z_range,
      z_enumerate := PySem.W.mg_none_of X G z_enumerate,
      z_str := PySem.W.mg_none_of X G z_str,
      z_bool := PySem.W.mg_none_of X G z_bool,
      z_ValueError := PySem.W.mg_none_of X G z_ValueError,
      z_sorted := PySem.W.mg_none_of X G z_sorted,
      v_LETTERS := ⟨_, PySem.W.mg_of X G v_LETTERS⟩,
      v_MOST_LEAF := ⟨_, PySem.W.mg_of X G v_MOST_LEAF⟩,
      v_MOST_NAMES := ⟨_, PySem.W.mg_of X G v_MOST_NAMES⟩,
      v_MOST_RULES := ⟨_, PySem.W.mg_of X G v_MOST_RULES⟩,
      v_RULE_KINDS := PySem.W.mg_of X G vg_RULE_KINDS,
      w_RULE_KINDS := fun H => .inr ⟨_, _, _, vl_RULE_KINDS, rfl, rfl, by rw [sizeLine_eq]; exact (by decide : 4 ≤ 16777216), .cons ⟨_, rfl⟩ <| .cons ⟨_, rfl⟩ <| .cons ⟨_, rfl⟩ <| .cons ⟨_, rfl⟩ <| .nil⟩,
      ec_BadText := ⟨xg_BadText, xh_BadText, xb_BadText, xd_BadText, ec1_BadText, ec2, ec3, ec4_BadText⟩,
      ec_TooMany := ⟨xg_TooMany, xh_TooMany, xb_TooMany, xd_TooMany, ec1_TooMany, ec2, ec3, ec4_TooMany⟩,
      ec_BadRule := ⟨xg_BadRule, xh_BadRule, xb_BadRule, xd_BadRule, ec1_BadRule, ec2, ec3, ec4_BadRule⟩,
      kt_BadText_BadText := kt_BadText_BadText,
      kt_BadText_TooMany := kt_BadText_TooMany,
      kt_BadText_ValueError := kt_BadText_ValueError,
      kt_TooMany_TooMany := kt_TooMany_TooMany,
      kt_TooMany_BadRule := kt_TooMany_BadRule,
      kt_TooMany_ValueError := kt_TooMany_ValueError,
      kt_BadRule_TooMany := kt_BadRule_TooMany,
      kt_BadRule_BadRule := kt_BadRule_BadRule,
      kt_BadRule_ValueError := kt_BadRule_ValueError,
      xm_BadText_Fault := xm_BadText_Fault,
      xm_TooMany_Fault := xm_TooMany_Fault,
      xm_BadRule_Fault := xm_BadRule_Fault,
      ic_PairGrammar := ⟨yi1, yi2, yi3, yi4⟩,
      dv1_check_text := F_check_text.binds1 (ps := ps_check_text) 1 0 (by simp) rfl fun T kV doc pm an cdv ct us its h1 h2 => by match us, its, h1, h2 with | [_], [_], _, _ => exact ⟨_, rfl, rfl⟩,
      kt_PairGrammar_Grammar := y_kt_PairGrammar_Grammar,
      con_PairGrammar_KIND := ⟨_, kc1, ⟨_, rfl⟩, kc2, by decide +kernel⟩,
      cval_PairGrammar_KIND := ⟨_, _, ⟨kc3, kc4⟩, kc5, ⟨_, rfl⟩⟩ }
  exact ⟨(PySem.W.fnOf "law" "law" (defArgs st_law) (defBody st_law) (defScope st_law) .none kV_law dc_law pm_law an_law cd_law ct_law), fun s u => .of_eq rfl, fun base _ _ => ok_all T⟩
theorem walk {l : PySem.W.OpenLaw} {q : Program} {loose : List Str} {XP : (Str → Option Value) → Heap → Prop} {YP : World → Heap → Prop} {d : DefRec} {K : Params → PySem.W.Frag} (hn : l.most = some 63) (hdf : d.params.defaults = [])
    (hY : ∀ (w : World) (h : Heap), YP w h → (K w.params).In h)
    (F : ∀ (w : World) (mg : Str → Option Value) (fa : Addr) (h : Heap), (K w.params).In h → h.Ns mainGlobals mg → mg d.name = some (.ref fa) →
      ∃ fd : FuncData, (∀ (s : Shared) (u : Value), BindsTo s fd ⟨[u], []⟩ [("script", u)]) ∧ ∀ base : Heap, (K w.params).In base → base.Ns mainGlobals mg → FnOk l.prog w (K w.params) mg base (L2.CX l.prog w) 16 fa fd ["script"] (SpSc (K w.params) 63 (fun ns p ds => ds = [.obj p]) (fun ns ds d => d = .bl true))) :
    PySem.W.WalkO q loose XP YP l.row.toRowW d [] (fun f vs => PySem.call f vs) :=
  L2.walk_of (n := 63) (k := 16) (x := "script") (CX := fun w => L2.CX l.prog w) (sp := fun w => SpSc (K w.params) 63 (fun ns p ds => ds = [.obj p]) (fun ns ds d => d = .bl true)) hn (by decide) hdf ⟨rfl, by decide, by decide⟩ hY F
    (fun _ H a ns hl _ hS => sp_script hS hl) (fun w H s e s' z => cx_none z)
end KB
open PySem PySem.W PyProof.Rows
set_option maxRecDepth 100000 in
set_option maxHeartbeats 0 in
theorem PySem.Challenge.cw_adjoinedtongues_k89_pair_rules_limits_an_holds : PySem.Challenge.rw_adjoinedtongues_k89_pair_rules_limits_an.Holds := by
  w_on; o_law; k_head; (case hw => w_witness2)
  k_fill
  refine KB.walk (l := PySem.Challenge.rw_adjoinedtongues_k89_pair_rules_limits_an) rfl rfl (fun w h Y => PySem.W.kIn_of Y) ?F
  case F =>
    intro w mg fa h KX G hmg
    refine' KB.all_mk KX G hmg ?gc_Fault ?gc_BadText ?gc_TooMany ?gc_BadRule ?gc_Forms ?gc_Grammar ?gc_PairGrammar ?a_bad_letter ?l_bad_letter ?c_bad_letter ?k_bad_letter ?a_check_text ?l_check_text ?c_check_text ?t_check_text ?k_check_text ?a_pair_fits ?l_pair_fits ?c_pair_fits ?k_pair_fits ?a_Forms___init__ ?l_Forms___init__ ?c_Forms___init__ ?k_Forms___init__ ?a_Grammar___init__ ?l_Grammar___init__ ?c_Grammar___init__ ?k_Grammar___init__ ?a_join_pairs ?l_join_pairs ?c_join_pairs ?k_join_pairs ?a_is_leaf_text ?l_is_leaf_text ?c_is_leaf_text ?k_is_leaf_text ?a_is_name ?l_is_name ?c_is_name ?k_is_name ?a_is_pair_rule ?l_is_pair_rule ?c_is_pair_rule ?k_is_pair_rule ?a_child_names ?l_child_names ?c_child_names ?k_child_names ?a_PairGrammar___init__ ?l_PairGrammar___init__ ?c_PairGrammar___init__ ?cc1_PairGrammar___init__ ?cc2_PairGrammar___init__ ?cc3_PairGrammar___init__ ?cc4_PairGrammar___init__ ?cc5_PairGrammar___init__ ?k_PairGrammar___init__ ?a__law_row ?l__law_row ?c__law_row ?k__law_row ?a__law_same ?l__law_same ?c__law_same ?k__law_same ?a__law_text ?l__law_text ?c__law_text ?k__law_text ?a__law_join ?l__law_join ?c__law_join ?k__law_join ?a__law_letters ?l__law_letters ?c__law_letters ?k__law_letters ?a__law_fits ?l__law_fits ?c__law_fits ?k__law_fits ?a__law_bad_place ?l__law_bad_place ?c__law_bad_place ?k__law_bad_place ?a__law_good_rule ?l__law_good_rule ?c__law_good_rule ?k__law_good_rule ?a__law_bad_rule ?l__law_bad_rule ?c__law_bad_rule ?k__law_bad_rule ?a__law_is_valid ?l__law_is_valid ?c__law_is_valid ?k__law_is_valid ?a__law_due ?l__law_due ?c__law_due ?k__law_due ?a__law_made ?l__law_made ?c__law_made ?k__law_made ?a__law_drawn_holds ?l__law_drawn_holds ?c__law_drawn_holds ?k__law_drawn_holds ?a__law_limits_hold ?l__law_limits_hold ?c__law_limits_hold ?k__law_limits_hold ?a__law_checked ?l__law_checked ?c__law_checked ?k__law_checked ?a__law_texts_hold ?l__law_texts_hold ?c__law_texts_hold ?k__law_texts_hold ?a__law_pairs_hold ?l__law_pairs_hold ?c__law_pairs_hold ?k__law_pairs_hold ?a_law ?l_law ?c_law ?k_law ?x_BadText ?xr_BadText ?xs_BadText ?xg_BadText ?xh_BadText ?xn_BadText ?a_BadText___init__ ?xt_BadText ?xk_BadText ?xb_BadText ?xy_BadText ?xd_BadText ?l_BadText___init__ ?c_BadText___init__ ?cc1_BadText___init__ ?cc2_BadText___init__ ?cc3_BadText___init__ ?cc4_BadText___init__ ?cc5_BadText___init__ ?k_BadText___init__ ?xu_BadText ?xv_BadText ?xm_BadText ?x_TooMany ?xr_TooMany ?xs_TooMany ?xg_TooMany ?xh_TooMany ?xn_TooMany ?a_TooMany___init__ ?xt_TooMany ?xk_TooMany ?xb_TooMany ?xy_TooMany ?xd_TooMany ?l_TooMany___init__ ?c_TooMany___init__ ?cc1_TooMany___init__ ?cc2_TooMany___init__ ?cc3_TooMany___init__ ?cc4_TooMany___init__ ?cc5_TooMany___init__ ?k_TooMany___init__ ?xu_TooMany ?xv_TooMany ?xm_TooMany ?x_BadRule ?xr_BadRule ?xs_BadRule ?xg_BadRule ?xh_BadRule ?xn_BadRule ?a_BadRule___init__ ?xt_BadRule ?xk_BadRule ?xb_BadRule ?xy_BadRule ?xd_BadRule ?l_BadRule___init__ ?c_BadRule___init__ ?cc1_BadRule___init__ ?cc2_BadRule___init__ ?cc3_BadRule___init__ ?cc4_BadRule___init__ ?cc5_BadRule___init__ ?k_BadRule___init__ ?xu_BadRule ?xv_BadRule ?xm_BadRule ?ec2 ?ec3 ?ec1_BadText ?ec4_BadText ?ec1_TooMany ?ec4_TooMany ?ec1_BadRule ?ec4_BadRule ?kt_BadText_BadText ?kt_BadText_TooMany ?kt_BadText_ValueError ?kt_TooMany_TooMany ?kt_TooMany_BadRule ?kt_TooMany_ValueError ?kt_BadRule_TooMany ?kt_BadRule_BadRule ?kt_BadRule_ValueError ?xm_BadText_Fault ?xm_TooMany_Fault ?xm_BadRule_Fault ?pg_Forms ?hd_Forms ?po_Forms ?sa_Forms ?mk_Forms ?mi_Forms ?kc_Forms ?n_Forms_children ?n_Forms_numbers ?n_Forms_arity ?pg_Grammar ?hd_Grammar ?po_Grammar ?sa_Grammar ?mk_Grammar ?mi_Grammar ?kc_Grammar ?n_Grammar_names ?n_Grammar_rules ?pg_PairGrammar ?hd_PairGrammar ?po_PairGrammar ?sa_PairGrammar ?mk_PairGrammar ?mi_PairGrammar ?kc_PairGrammar ?n_PairGrammar_names ?n_PairGrammar_rules ?n_PairGrammar_forms ?sm_PairGrammar ?st_PairGrammar ?sf_PairGrammar ?asup_PairGrammar ?opn ?zsuper ?htop ?z_len ?z_int ?z_min ?z_list ?z_tuple ?z_isinstance ?z_range ?z_enumerate ?z_str ?z_bool ?z_ValueError ?z_sorted ?v_LETTERS ?v_MOST_LEAF ?v_MOST_NAMES ?v_MOST_RULES ?vg_RULE_KINDS ?vl_RULE_KINDS ?yi1 ?yi2 ?yi3 ?yi4 ?y_kt_PairGrammar_Grammar ?kc1 ?kc2 ?kc3 ?kc4 ?kc5
    (case gc_Fault => k_is)
    (case gc_BadText => k_is)
    (case gc_TooMany => k_is)
    (case gc_BadRule => k_is)
    (case gc_Forms => k_is)
    (case gc_Grammar => k_is)
    (case gc_PairGrammar => k_is)
    (case a_bad_letter => k_is)
    (case l_bad_letter => k_is)
    (case c_bad_letter => k_is)
    (case k_bad_letter => k_is)
    (case a_check_text => k_is)
    (case l_check_text => k_is)
    (case c_check_text => k_is)
    (case t_check_text => k_is)
    (case k_check_text => k_is)
    (case a_pair_fits => k_is)
    (case l_pair_fits => k_is)
    (case c_pair_fits => k_is)
    (case k_pair_fits => k_is)
    (case a_Forms___init__ => k_is)
    (case l_Forms___init__ => k_is)
    (case c_Forms___init__ => k_is)
    (case k_Forms___init__ => k_is)
    (case a_Grammar___init__ => k_is)
    (case l_Grammar___init__ => k_is)
    (case c_Grammar___init__ => k_is)
    (case k_Grammar___init__ => k_is)
    (case a_join_pairs => k_is)
    (case l_join_pairs => k_is)
    (case c_join_pairs => k_is)
    (case k_join_pairs => k_is)
    (case a_is_leaf_text => k_is)
    (case l_is_leaf_text => k_is)
    (case c_is_leaf_text => k_is)
    (case k_is_leaf_text => k_is)
    (case a_is_name => k_is)
    (case l_is_name => k_is)
    (case c_is_name => k_is)
    (case k_is_name => k_is)
    (case a_is_pair_rule => k_is)
    (case l_is_pair_rule => k_is)
    (case c_is_pair_rule => k_is)
    (case k_is_pair_rule => k_is)
    (case a_child_names => k_is)
    (case l_child_names => k_is)
    (case c_child_names => k_is)
    (case k_child_names => k_is)
    (case a_PairGrammar___init__ => k_is)
    (case l_PairGrammar___init__ => k_is)
    (case c_PairGrammar___init__ => k_is)
    (case cc1_PairGrammar___init__ => k_is)
    (case cc2_PairGrammar___init__ => k_is)
    (case cc3_PairGrammar___init__ => first | rfl | k_is)
    (case cc4_PairGrammar___init__ => first | rfl | decide +kernel)
    (case cc5_PairGrammar___init__ => k_is)
    (case k_PairGrammar___init__ => k_is)
    (case a__law_row => k_is)
    (case l__law_row => k_is)
    (case c__law_row => k_is)
    (case k__law_row => k_is)
    (case a__law_same => k_is)
    (case l__law_same => k_is)
    (case c__law_same => k_is)
    (case k__law_same => k_is)
    (case a__law_text => k_is)
    (case l__law_text => k_is)
    (case c__law_text => k_is)
    (case k__law_text => k_is)
    (case a__law_join => k_is)
    (case l__law_join => k_is)
    (case c__law_join => k_is)
    (case k__law_join => k_is)
    (case a__law_letters => k_is)
    (case l__law_letters => k_is)
    (case c__law_letters => k_is)
    (case k__law_letters => k_is)
    (case a__law_fits => k_is)
    (case l__law_fits => k_is)
    (case c__law_fits => k_is)
    (case k__law_fits => k_is)
    (case a__law_bad_place => k_is)
    (case l__law_bad_place => k_is)
    (case c__law_bad_place => k_is)
    (case k__law_bad_place => k_is)
    (case a__law_good_rule => k_is)
    (case l__law_good_rule => k_is)
    (case c__law_good_rule => k_is)
    (case k__law_good_rule => k_is)
    (case a__law_bad_rule => k_is)
    (case l__law_bad_rule => k_is)
    (case c__law_bad_rule => k_is)
    (case k__law_bad_rule => k_is)
    (case a__law_is_valid => k_is)
    (case l__law_is_valid => k_is)
    (case c__law_is_valid => k_is)
    (case k__law_is_valid => k_is)
    (case a__law_due => k_is)
    (case l__law_due => k_is)
    (case c__law_due => k_is)
    (case k__law_due => k_is)
    (case a__law_made => k_is)
    (case l__law_made => k_is)
    (case c__law_made => k_is)
    (case k__law_made => k_is)
    (case a__law_drawn_holds => k_is)
    (case l__law_drawn_holds => k_is)
    (case c__law_drawn_holds => k_is)
    (case k__law_drawn_holds => k_is)
    (case a__law_limits_hold => k_is)
    (case l__law_limits_hold => k_is)
    (case c__law_limits_hold => k_is)
    (case k__law_limits_hold => k_is)
    (case a__law_checked => k_is)
    (case l__law_checked => k_is)
    (case c__law_checked => k_is)
    (case k__law_checked => k_is)
    (case a__law_texts_hold => k_is)
    (case l__law_texts_hold => k_is)
    (case c__law_texts_hold => k_is)
    (case k__law_texts_hold => k_is)
    (case a__law_pairs_hold => k_is)
    (case l__law_pairs_hold => k_is)
    (case c__law_pairs_hold => k_is)
    (case k__law_pairs_hold => k_is)
    (case a_law => k_is)
    (case l_law => k_is)
    (case c_law => k_is)
    (case k_law => k_is)
    (case x_BadText => k_is)
    (case xr_BadText => first | rfl | decide +kernel | k_is)
    (case xs_BadText => k_is)
    (case xg_BadText => k_is)
    (case xh_BadText => k_is)
    (case xn_BadText => k_is)
    (case a_BadText___init__ => k_is)
    (case xt_BadText => k_is)
    (case xk_BadText => k_is)
    (case xb_BadText => k_is)
    (case xy_BadText => k_is)
    (case xd_BadText => k_is)
    (case l_BadText___init__ => k_is)
    (case c_BadText___init__ => k_is)
    (case cc1_BadText___init__ => k_is)
    (case cc2_BadText___init__ => k_is)
    (case cc3_BadText___init__ => first | rfl | k_is)
    (case cc4_BadText___init__ => first | rfl | decide +kernel)
    (case cc5_BadText___init__ => k_is)
    (case k_BadText___init__ => k_is)
    (case xu_BadText => ks_is)
    (case xv_BadText => k_is)
    (case xm_BadText => k_is)
    (case x_TooMany => k_is)
    (case xr_TooMany => first | rfl | decide +kernel | k_is)
    (case xs_TooMany => k_is)
    (case xg_TooMany => k_is)
    (case xh_TooMany => k_is)
    (case xn_TooMany => k_is)
    (case a_TooMany___init__ => k_is)
    (case xt_TooMany => k_is)
    (case xk_TooMany => k_is)
    (case xb_TooMany => k_is)
    (case xy_TooMany => k_is)
    (case xd_TooMany => k_is)
    (case l_TooMany___init__ => k_is)
    (case c_TooMany___init__ => k_is)
    (case cc1_TooMany___init__ => k_is)
    (case cc2_TooMany___init__ => k_is)
    (case cc3_TooMany___init__ => first | rfl | k_is)
    (case cc4_TooMany___init__ => first | rfl | decide +kernel)
    (case cc5_TooMany___init__ => k_is)
    (case k_TooMany___init__ => k_is)
    (case xu_TooMany => ks_is)
    (case xv_TooMany => k_is)
    (case xm_TooMany => k_is)
    (case x_BadRule => k_is)
    (case xr_BadRule => first | rfl | decide +kernel | k_is)
    (case xs_BadRule => k_is)
    (case xg_BadRule => k_is)
    (case xh_BadRule => k_is)
    (case xn_BadRule => k_is)
    (case a_BadRule___init__ => k_is)
    (case xt_BadRule => k_is)
    (case xk_BadRule => k_is)
    (case xb_BadRule => k_is)
    (case xy_BadRule => k_is)
    (case xd_BadRule => k_is)
    (case l_BadRule___init__ => k_is)
    (case c_BadRule___init__ => k_is)
    (case cc1_BadRule___init__ => k_is)
    (case cc2_BadRule___init__ => k_is)
    (case cc3_BadRule___init__ => first | rfl | k_is)
    (case cc4_BadRule___init__ => first | rfl | decide +kernel)
    (case cc5_BadRule___init__ => k_is)
    (case k_BadRule___init__ => k_is)
    (case xu_BadRule => ks_is)
    (case xv_BadRule => k_is)
    (case xm_BadRule => k_is)
    (case ec2 => k_is)
    (case ec3 => k_is)
    (case ec1_BadText => k_is)
    (case ec4_BadText => k_is)
    (case ec1_TooMany => k_is)
    (case ec4_TooMany => k_is)
    (case ec1_BadRule => k_is)
    (case ec4_BadRule => k_is)
    (case kt_BadText_BadText => kit_is)
    (case kt_BadText_TooMany => kit_is)
    (case kt_BadText_ValueError => kit_is)
    (case kt_TooMany_TooMany => kit_is)
    (case kt_TooMany_BadRule => kit_is)
    (case kt_TooMany_ValueError => kit_is)
    (case kt_BadRule_TooMany => kit_is)
    (case kt_BadRule_BadRule => kit_is)
    (case kt_BadRule_ValueError => kit_is)
    (case xm_BadText_Fault => kts_exm)
    (case xm_TooMany_Fault => kts_exm)
    (case xm_BadRule_Fault => kts_exm)
    (case pg_Forms => k_is)
    (case hd_Forms => k_is)
    (case po_Forms => k_is)
    (case sa_Forms => k_is)
    (case mk_Forms => k_is)
    (case mi_Forms => k_is)
    (case kc_Forms => k_is)
    (case n_Forms_children => k_is)
    (case n_Forms_numbers => k_is)
    (case n_Forms_arity => k_is)
    (case pg_Grammar => k_is)
    (case hd_Grammar => k_is)
    (case po_Grammar => k_is)
    (case sa_Grammar => k_is)
    (case mk_Grammar => k_is)
    (case mi_Grammar => k_is)
    (case kc_Grammar => k_is)
    (case n_Grammar_names => k_is)
    (case n_Grammar_rules => k_is)
    (case pg_PairGrammar => k_is)
    (case hd_PairGrammar => k_is)
    (case po_PairGrammar => k_is)
    (case sa_PairGrammar => k_is)
    (case mk_PairGrammar => k_is)
    (case mi_PairGrammar => k_is)
    (case kc_PairGrammar => k_is)
    (case n_PairGrammar_names => k_is)
    (case n_PairGrammar_rules => k_is)
    (case n_PairGrammar_forms => k_is)
    (case sm_PairGrammar => k_is)
    (case st_PairGrammar => k_is)
    (case sf_PairGrammar => k_is)
    (case asup_PairGrammar => ks_is)
    (case opn => k_is)
    (case zsuper => k_is)
    (case htop => first | rfl | decide +kernel)
    (case z_len => k_is)
    (case z_int => k_is)
    (case z_min => k_is)
    (case z_list => k_is)
    (case z_tuple => k_is)
    (case z_isinstance => k_is)
    (case z_range => k_is)
    (case z_enumerate => k_is)
    (case z_str => k_is)
    (case z_bool => k_is)
    (case z_ValueError => k_is)
    (case z_sorted => k_is)
    (case v_LETTERS => k_is)
    (case v_MOST_LEAF => k_is)
    (case v_MOST_NAMES => k_is)
    (case v_MOST_RULES => k_is)
    (case vg_RULE_KINDS => k_is)
    (case vl_RULE_KINDS => k_is)
    (case yi1 => k_is)
    (case yi2 => k_is)
    (case yi3 => k_is)
    (case yi4 => k_is)
    (case y_kt_PairGrammar_Grammar => kit_is)
    (case kc1 => k_is)
    (case kc2 => k_is)
    (case kc3 => k_is)
    (case kc4 => k_is)
    (case kc5 => k_is)
