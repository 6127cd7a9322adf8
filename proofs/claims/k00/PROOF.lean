import PyProof.Rows.All
import Wide.All
import OpenK.AllK
import Wide.FinOn
import HandS.ForMost
import HandS.ForExc
import HandS.TupAny
import HandS.IsInst
import HandS.Deep
import HandS.Wide
import HandS.Walk
import HandS.Flow
import HandS.Zip
import HandS.More
import HandS.Text
import HandS.Style
import KE.GoesMore
import KE.GoesEnum
import KE.GoesZip
import HandS.TupLe
import PySem.Challenge.RW_testsenough_k00_is_test
set_option Elab.async false
set_option linter.all false
set_option maxRecDepth 100000
set_option maxHeartbeats 8000000
/-! RF: values as trees, owned objects by slot, a body as a function of its slots. -/
namespace RF
open PySem PySem.Spec PyProof.Rows L2

/-- a value as a tree -/
inductive D where
  | non | bl (b : Bool) | int (i : Int) | str (s : Str)
  | tup (xs : List D) | lst (xs : List D) | dct (ks : List Key) (xs : List D)
  /-- a list that is read alone (the script) -/
  | rls (xs : List D)
/-- what an owned object holds -/
inductive Ob where
  | lst (xs : List D) | dct (ks : List Key) (xs : List D) | ins (C : Addr) (ns : List Str) (xs : List D)
/-- a slot: unset, a value, an object of the frame's own (true: handed in, to be handed back) -/
inductive SV where
  | un | va (d : D) | ow (f : Bool) (o : Ob)
/-- a result: a value, or a new object that nothing else reaches -/
inductive RV where
  | va (d : D) | ow (o : Ob)
abbrev Env := List SV
structure Exc where
  cls : Addr
  ns : List Str
  xs : List D
inductive R (α : Type) where
  | fail | ok (a : α) (ρ : Env) | ex (x : Exc) (ρ : Env)
abbrev M (α : Type) := Env → R α
inductive Fl where
  | nx | bk | ct | rt (r : RV)

/-! ### values and heaps -/
mutual
def Rep (K : PySem.W.Frag) (H : Hp) : D → V → Prop
  | .non, v => v = .non
  | .bl b, v => v = .bl b
  | .int i, v => v = .int i
  | .str s, v => v = .str s ∧ PyData.strOk s = true
  | .tup ds, v => ∃ a vs, v = .ref a ∧ SqT K H a vs ∧ RepL K H ds vs
  | .lst ds, v => ∃ a vs, v = .ref a ∧ H a = some (.lst vs) ∧ RepL K H ds vs
  | .rls ds, v => ∃ a vs, v = .ref a ∧ SqL K H a vs ∧ RepL K H ds vs
  | .dct ks ds, v => ∃ a kvs, v = .ref a ∧ H a = some (.dK kvs) ∧ kvs.map (·.1) = ks ∧ RepL K H ds (kvs.map (·.2))
def RepL (K : PySem.W.Frag) (H : Hp) : List D → List V → Prop
  | [], vs => vs = []
  | d :: ds, vs => ∃ v r, vs = v :: r ∧ Rep K H d v ∧ RepL K H ds r
end
abbrev Inc (H H' : Hp) : Prop := ∀ b o, H b = some o → H' b = some o
theorem Inc.rd {H H' : Hp} (e : Inc H H') {a : Addr} {u : HO} (h : Rd H a u) : Rd H' a u := by
  rcases h with h | ⟨o, h⟩
  · exact .inl (e a _ h)
  · exact .inr ⟨o, e a _ h⟩
theorem Inc.sl {K : PySem.W.Frag} {H H' : Hp} (e : Inc H H') {a : Addr} {xs : List V} (h : SqL K H a xs) : SqL K H' a xs := h.imp (Inc.rd e) id
theorem Inc.st {K : PySem.W.Frag} {H H' : Hp} (e : Inc H H') {a : Addr} {xs : List V} (h : SqT K H a xs) : SqT K H' a xs := h.imp (Inc.rd e) id
mutual
theorem Rep.mono {K : PySem.W.Frag} {H H' : Hp} (e : Inc H H') : ∀ (d : D) {v : V}, Rep K H d v → Rep K H' d v
  | .non, _, h => h
  | .bl _, _, h => h
  | .int _, _, h => h
  | .str _, _, h => h
  | .tup ds, _, ⟨a, vs, h1, h2, h3⟩ => ⟨a, vs, h1, Inc.st e h2, RepL.mono e ds h3⟩
  | .lst ds, _, ⟨a, vs, h1, h2, h3⟩ => ⟨a, vs, h1, e a _ h2, RepL.mono e ds h3⟩
  | .rls ds, _, ⟨a, vs, h1, h2, h3⟩ => ⟨a, vs, h1, Inc.sl e h2, RepL.mono e ds h3⟩
  | .dct ks ds, _, ⟨a, kvs, h1, h2, h3, h4⟩ => ⟨a, kvs, h1, e a _ h2, h3, RepL.mono e ds h4⟩
theorem RepL.mono {K : PySem.W.Frag} {H H' : Hp} (e : Inc H H') : ∀ (ds : List D) {vs : List V}, RepL K H ds vs → RepL K H' ds vs
  | [], _, h => h
  | d :: ds, _, ⟨v, r, h1, h2, h3⟩ => ⟨v, r, h1, Rep.mono e d h2, RepL.mono e ds h3⟩
end
theorem RepL.nil {K : PySem.W.Frag} {H : Hp} : RepL K H [] [] := rfl
theorem RepL.cons {K : PySem.W.Frag} {H : Hp} {d : D} {v : V} {ds : List D} {vs : List V} (h : Rep K H d v) (t : RepL K H ds vs) : RepL K H (d :: ds) (v :: vs) := ⟨v, vs, rfl, h, t⟩
theorem RepL.length {K : PySem.W.Frag} {H : Hp} : ∀ {ds : List D} {vs : List V}, RepL K H ds vs → vs.length = ds.length
  | [], _, h => by rw [show _ = [] from h] <;> rfl
  | d :: ds, _, ⟨v, r, e, _, t⟩ => by rw [e, List.length_cons, List.length_cons, RepL.length t]
theorem RepL.get {K : PySem.W.Frag} {H : Hp} : ∀ {ds : List D} {vs : List V} {i : Nat} {d : D}, RepL K H ds vs → ds[i]? = some d → ∃ v, vs[i]? = some v ∧ Rep K H d v
  | [], _, _, _, _, e => by simp at e
  | d :: ds, _, 0, _, ⟨v, r, e, h, _⟩, q => by
    have q' : d = _ := Option.some.inj q
    subst q' e
    exact ⟨v, rfl, h⟩
  | d :: ds, _, i + 1, _, ⟨v, r, e, _, t⟩, q => by
    subst e
    have z := RepL.get (ds := ds) (vs := r) (i := i) t (by simpa using q)
    simpa using z
theorem RepL.getV {K : PySem.W.Frag} {H : Hp} {ds : List D} {vs : List V} {i : Nat} {v : V} (h : RepL K H ds vs) (e : vs[i]? = some v) : ∃ d, ds[i]? = some d ∧ Rep K H d v := by
  have hl := h.length
  obtain ⟨hi, _⟩ := List.getElem?_eq_some_iff.mp e
  obtain ⟨d, hd⟩ : ∃ d, ds[i]? = some d := ⟨ds[i]'(by omega), List.getElem?_eq_getElem (by omega)⟩
  obtain ⟨v', e', r⟩ := h.get hd
  rw [e] at e'
  cases e'
  exact ⟨d, hd, r⟩
theorem RepL.append {K : PySem.W.Frag} {H : Hp} : ∀ {ds es : List D} {vs ws : List V}, RepL K H ds vs → RepL K H es ws → RepL K H (ds ++ es) (vs ++ ws)
  | [], _, _, _, h, k => by rw [show _ = [] from h]; exact k
  | d :: ds, _, _, _, ⟨v, r, e, h, t⟩, k => by subst e; exact ⟨v, _, rfl, h, RepL.append t k⟩
theorem RepL.take {K : PySem.W.Frag} {H : Hp} : ∀ (n : Nat) {ds : List D} {vs : List V}, RepL K H ds vs → RepL K H (ds.take n) (vs.take n)
  | 0, _, _, _ => rfl
  | _ + 1, [], _, h => by rw [show _ = [] from h]; rfl
  | n + 1, d :: ds, _, ⟨v, r, e, h, t⟩ => by subst e; exact ⟨v, _, rfl, h, RepL.take n t⟩
theorem RepL.drop {K : PySem.W.Frag} {H : Hp} : ∀ (n : Nat) {ds : List D} {vs : List V}, RepL K H ds vs → RepL K H (ds.drop n) (vs.drop n)
  | 0, _, _, h => h
  | _ + 1, [], _, h => by rw [show _ = [] from h]; rfl
  | n + 1, d :: ds, _, ⟨v, r, e, h, t⟩ => by subst e; exact RepL.drop n t
theorem RepL.set {K : PySem.W.Frag} {H : Hp} : ∀ (i : Nat) {ds : List D} {vs : List V} {d : D} {v : V}, RepL K H ds vs → Rep K H d v → RepL K H (ds.set i d) (vs.set i v)
  | _, [], _, _, _, h, _ => by rw [show _ = [] from h]; rfl
  | 0, d :: ds, _, _, _, ⟨v, r, e, h, t⟩, q => by subst e; exact ⟨_, _, rfl, q, t⟩
  | i + 1, d :: ds, _, _, _, ⟨v, r, e, h, t⟩, q => by subst e; exact ⟨_, _, rfl, h, RepL.set i t q⟩
theorem RepL.of {K : PySem.W.Frag} {H : Hp} : ∀ {ds : List D} {vs : List V}, ds.length = vs.length → (∀ (i : Nat) d v, ds[i]? = some d → vs[i]? = some v → Rep K H d v) → RepL K H ds vs
  | [], [], _, _ => rfl
  | [], _ :: _, h, _ => by simp at h
  | _ :: _, [], h, _ => by simp at h
  | d :: ds, v :: vs, h, f => ⟨v, vs, rfl, f 0 d v rfl rfl, RepL.of (by simpa using h) fun i d v a b => f (i + 1) d v a b⟩
theorem RepL.ints {K : PySem.W.Frag} {H : Hp} : ∀ (ns : List Int), RepL K H (ns.map D.int) (ns.map V.int)
  | [] => rfl
  | n :: ns => ⟨_, _, rfl, rfl, RepL.ints ns⟩

def ObR (K : PySem.W.Frag) (H : Hp) (o : Ob) (u : Option HO) : Prop := match o with
  | .lst ds => ∃ vs, u = some (.lst vs) ∧ RepL K H ds vs
  | .dct ks ds => ∃ kvs, u = some (.dK kvs) ∧ kvs.map (·.1) = ks ∧ RepL K H ds (kvs.map (·.2))
  | .ins C ns ds => ∃ dx fs, u = some (.ins C dx fs) ∧ fs.map (·.1) = ns ∧ RepL K H ds (fs.map (·.2))
theorem ObR.mono {K : PySem.W.Frag} {H H' : Hp} (e : Inc H H') {o : Ob} {u : Option HO} (h : ObR K H o u) : ObR K H' o u := by
  cases o with
  | lst ds => obtain ⟨vs, a, b⟩ := h; exact ⟨vs, a, b.mono e⟩
  | dct ks ds => obtain ⟨vs, a, b, c⟩ := h; exact ⟨vs, a, b, c.mono e⟩
  | ins C ns ds => obtain ⟨dx, fs, a, b, c⟩ := h; exact ⟨dx, fs, a, b, c.mono e⟩
theorem ObR.there {K : PySem.W.Frag} {H : Hp} {o : Ob} {u : Option HO} (h : ObR K H o u) : u ≠ none := by
  cases o with
  | lst ds => obtain ⟨vs, a, b⟩ := h; rw [a]; simp
  | dct ks ds => obtain ⟨vs, a, b, c⟩ := h; rw [a]; simp
  | ins C ns ds => obtain ⟨dx, fs, a, b, c⟩ := h; rw [a]; simp
def Ob.toD : Ob → Option D
  | .lst ds => some (.lst ds)
  | .dct ks ds => some (.dct ks ds)
  | .ins _ _ _ => none
/-- an object that is seen is a value -/
theorem ObR.rep {K : PySem.W.Frag} {H H' : Hp} {o : Ob} {a : Addr} {d : D} (h : ObR K H o (H' a)) (e : o.toD = some d) (i : Inc H H') : Rep K H' d (.ref a) := by
  cases o with
  | lst ds =>
    cases e
    obtain ⟨vs, q, r⟩ := h
    exact ⟨a, vs, rfl, q, r.mono i⟩
  | dct ks ds =>
    cases e
    obtain ⟨kvs, q, r1, r⟩ := h
    exact ⟨a, kvs, rfl, q, r1, r.mono i⟩
  | ins C ns ds => cases e

/-- the objects that the frame owns -/
def Own (env : Env) (σ : L2.St) (a : Addr) : Prop := ∃ (i : Nat) (f : Bool) (o : Ob), env[i]? = some (.ow f o) ∧ σ[i]? = some (some (.ref a))
open Classical in
/-- the heap but for what is hidden (Z) or owned -/
noncomputable def hid (H : Hp) (Z : Addr → Prop) (env : Env) (σ : L2.St) : Hp := fun a => if Z a ∨ Own env σ a then none else H a
theorem hid_some {H : Hp} {Z : Addr → Prop} {env : Env} {σ : L2.St} {a : Addr} {o : HO} : hid H Z env σ a = some o ↔ H a = some o ∧ ¬ Z a ∧ ¬ Own env σ a := by
  unfold hid
  constructor
  · intro h
    split at h
    · cases h
    · rename_i n
      exact ⟨h, fun z => n (.inl z), fun z => n (.inr z)⟩
  · rintro ⟨h, h1, h2⟩
    rw [if_neg (fun z => z.elim h1 h2)]
    exact h
theorem hid_congr {H : Hp} {Z Z' : Addr → Prop} {env env' : Env} {σ σ' : L2.St} (h : ∀ b, (Z' b ∨ Own env' σ' b) ↔ (Z b ∨ Own env σ b)) : hid H Z' env' σ' = hid H Z env σ := by
  funext b
  unfold hid
  by_cases q : Z b ∨ Own env σ b
  · rw [if_pos q, if_pos ((h b).mpr q)]
  · rw [if_neg q, if_neg (fun z => q ((h b).mp z))]
theorem hid_inc {H : Hp} {Z : Addr → Prop} {env : Env} {σ : L2.St} : Inc (hid H Z env σ) H := fun b o h => (hid_some.mp h).1
/-- less hidden, more seen -/
theorem hid_le {H H' : Hp} {Z Z' : Addr → Prop} {env env' : Env} {σ σ' : L2.St} (hH : ∀ b o, H b = some o → ¬ Z b → ¬ Own env σ b → H' b = some o) (hz : ∀ b, Z' b → H b ≠ none → Z b ∨ Own env σ b) (ho : ∀ b, Own env' σ' b → H b ≠ none → Z b ∨ Own env σ b) :
    Inc (hid H Z env σ) (hid H' Z' env' σ') := fun b o h => by
  obtain ⟨h1, h2, h3⟩ := hid_some.mp h
  have hn : H b ≠ none := by rw [h1]; simp
  exact hid_some.mpr ⟨hH b o h1 h2 h3, fun z => (hz b z hn).elim h2 h3, fun z => (ho b z hn).elim h2 h3⟩

/-- the state of a frame: B what stood at its entry, H the heap, Z what is hidden -/
structure Ok (K : PySem.W.Frag) (B H : Hp) (Z : Addr → Prop) (env : Env) (σ : L2.St) : Prop where
  len : σ.length = env.length
  va : ∀ (i : Nat) (d : D), env[i]? = some (.va d) → ∃ v, σ[i]? = some (some v) ∧ Rep K (hid H Z env σ) d v
  ow : ∀ (i : Nat) (f : Bool) (o : Ob), env[i]? = some (.ow f o) → ∃ a, σ[i]? = some (some (.ref a)) ∧ ¬ Z a ∧ ObR K (hid H Z env σ) o (H a) ∧ (f = false → B a = none)
  inj : ∀ (i j : Nat) (f g : Bool) (o u : Ob) (a : Addr), env[i]? = some (.ow f o) → env[j]? = some (.ow g u) → σ[i]? = some (some (.ref a)) → σ[j]? = some (some (.ref a)) → i = j
  zt : ∀ a, Z a → H a ≠ none
  nn : ∀ a, B a ≠ none → H a ≠ none
theorem Ok.ownT {K : PySem.W.Frag} {B H : Hp} {Z : Addr → Prop} {env : Env} {σ : L2.St} (k : Ok K B H Z env σ) {a : Addr} (h : Own env σ a) : H a ≠ none ∧ ¬ Z a := by
  obtain ⟨i, f, o, e, s⟩ := h
  obtain ⟨b, s', z, r, _⟩ := k.ow i f o e
  rw [s] at s'
  cases s'
  exact ⟨r.there, z⟩
/-- from one state to a later one -/
structure Fr (H : Hp) (Z : Addr → Prop) (env : Env) (σ : L2.St) (H' : Hp) (Z' : Addr → Prop) (env' : Env) (σ' : L2.St) : Prop where
  inc : Inc (hid H Z env σ) (hid H' Z' env' σ')
  z : ∀ a o, Z a → H a = some o → H' a = some o
  zz : ∀ a, Z a → Z' a
  nn : ∀ a, H a ≠ none → H' a ≠ none
  io : ∀ (i : Nat) (o : Ob), env[i]? = some (.ow true o) → (∃ o', env'[i]? = some (.ow true o')) ∧ σ'[i]? = σ[i]?
theorem Fr.refl {H : Hp} {Z : Addr → Prop} {env : Env} {σ : L2.St} : Fr H Z env σ H Z env σ := ⟨fun _ _ h => h, fun _ _ _ h => h, fun _ h => h, fun _ h => h, fun _ o h => ⟨⟨o, h⟩, rfl⟩⟩
theorem Fr.trans {H H1 H2 : Hp} {Z Z1 Z2 : Addr → Prop} {env env1 env2 : Env} {σ σ1 σ2 : L2.St} (a : Fr H Z env σ H1 Z1 env1 σ1) (b : Fr H1 Z1 env1 σ1 H2 Z2 env2 σ2) : Fr H Z env σ H2 Z2 env2 σ2 :=
  ⟨fun x o h => b.inc x o (a.inc x o h), fun x o h e => b.z x o (a.zz x h) (a.z x o h e), fun x h => b.zz x (a.zz x h), fun x h => b.nn x (a.nn x h), fun i o h => by
    obtain ⟨⟨o', h'⟩, e⟩ := a.io i o h
    obtain ⟨h2, e2⟩ := b.io i o' h'
    exact ⟨h2, e2.trans e⟩⟩

/-- what a result hides beside Z -/
def zx (Z : Addr → Prop) : RV → V → Addr → Prop
  | .va _, _ => Z
  | .ow _, v => fun b => Z b ∨ v = .ref b
def RvR (K : PySem.W.Frag) (B : Hp) (Z : Addr → Prop) (Hh H : Hp) : RV → V → Prop
  | .va d, v => Rep K Hh d v
  | .ow o, v => ∃ a, v = .ref a ∧ ¬ Z a ∧ B a = none ∧ ObR K Hh o (H a)
/-- an exception's class and fields -/
def XOk (K : PySem.W.Frag) (Hh : Hp) (x : Exc) (c : Value) (d : Option Addr) (H : Hp) : Prop :=
  c = .ref x.cls ∧ (x.ns ≠ [] → ∃ p fs, d = some p ∧ H p = some (.xd fs) ∧ fs.map (·.1) = x.ns ∧ RepL K Hh x.xs (fs.map (·.2)))

/-- behind an expression -/
def EPost (K : PySem.W.Frag) (W : WX) (B : Hp) (Z : Addr → Prop) (env : Env) (σ : L2.St) (H : Hp) (r : R RV) (Q : VK) : Prop := match r with
  | .fail => False
  | .ok rv env' => ∀ v H', Ok K B H' (zx Z rv v) env' σ → Fr H Z env σ H' (zx Z rv v) env' σ → RvR K B Z (hid H' (zx Z rv v) env' σ) H' rv v → Q v H'
  | .ex x env' => ∀ c d H', Ok K B H' Z env' σ → Fr H Z env σ H' Z env' σ → XOk K (hid H' Z env' σ) x c d H' → W c d σ H'
/-- behind an expression that is taken as a value -/
def DPost (K : PySem.W.Frag) (W : WX) (B : Hp) (Z : Addr → Prop) (env : Env) (σ : L2.St) (H : Hp) (r : R D) (Q : VK) : Prop := match r with
  | .fail => False
  | .ok d env' => ∀ v H', Ok K B H' Z env' σ → Fr H Z env σ H' Z env' σ → Rep K (hid H' Z env' σ) d v → Q v H'
  | .ex x env' => ∀ c d H', Ok K B H' Z env' σ → Fr H Z env σ H' Z env' σ → XOk K (hid H' Z env' σ) x c d H' → W c d σ H'
def SE (X : Cx) (W : WX) (e : Expr) (f : M RV) : Prop := ∃ t, PE X e t ∧ ∀ B Z env σ H Q, Ok X.K B H Z env σ → EPost X.K W B Z env σ H (f env) Q → t σ H Q
def SD (X : Cx) (W : WX) (e : Expr) (f : M D) : Prop := ∃ t, PE X e t ∧ ∀ B Z env σ H Q, Ok X.K B H Z env σ → DPost X.K W B Z env σ H (f env) Q → t σ H Q

def bnd {α β : Type} (m : M α) (k : α → M β) : M β := fun ρ => match m ρ with
  | .ok a ρ' => k a ρ'
  | .fail => .fail
  | .ex x ρ' => .ex x ρ'
/-- the result as a value -/
def asD (r : R RV) : R D := match r with
  | .fail => .fail
  | .ok (.va d) ρ => .ok d ρ
  | .ok (.ow o) ρ => match o.toD with
    | some d => .ok d ρ
    | none => .fail
  | .ex x ρ => .ex x ρ
def cD (f : M RV) : M D := fun ρ => asD (f ρ)
def cV (f : M D) : M RV := fun ρ => match f ρ with
  | .fail => .fail
  | .ok d ρ => .ok (.va d) ρ
  | .ex x ρ => .ex x ρ

section
variable {K : PySem.W.Frag} {B H : Hp} {Z : Addr → Prop} {env : Env} {σ : L2.St} {W : WX}
/-- more is seen -/
theorem Ok.unz {Z' : Addr → Prop} (k : Ok K B H Z' env σ) (h : ∀ a, Z a → Z' a) : Ok K B H Z env σ := by
  have i : Inc (hid H Z' env σ) (hid H Z env σ) := hid_le (fun _ _ e _ _ => e) (fun b z _ => .inl (h b z)) fun b z _ => .inr z
  refine ⟨k.len, fun j d e => ?_, fun j f o e => ?_, k.inj, fun a z => k.zt a (h a z), k.nn⟩
  · obtain ⟨v, a, b⟩ := k.va j d e
    exact ⟨v, a, b.mono i⟩
  · obtain ⟨a, q1, q2, q3, q4⟩ := k.ow j f o e
    exact ⟨a, q1, fun z => q2 (h a z), q3.mono i, q4⟩
theorem hid_unz {Z' : Addr → Prop} (h : ∀ a, Z a → Z' a) : Inc (hid H Z' env σ) (hid H Z env σ) := hid_le (fun _ _ e _ _ => e) (fun b z _ => .inl (h b z)) fun b z _ => .inr z
theorem zx_le (rv : RV) (v : V) : ∀ a, Z a → zx Z rv v a := fun a z => by
  cases rv with
  | va d => exact z
  | ow o => exact .inl z
/-- a result as a value -/
theorem RvR.rep {rv : RV} {v : V} {d : D} {ρ : Env} (k : Ok K B H (zx Z rv v) env σ) (r : RvR K B Z (hid H (zx Z rv v) env σ) H rv v) (e : asD (.ok rv ρ) = .ok d ρ) : Rep K (hid H Z env σ) d v := by
  cases rv with
  | va d' =>
    cases e
    exact r
  | ow o =>
    obtain ⟨a, rfl, nz, nb, q⟩ := r
    have e' : o.toD = some d := by
      unfold asD at e
      simp only at e
      split at e
      · rename_i d' h'
        cases e
        exact h'
      · cases e
    have hv : hid H Z env σ a = H a := by
      have no : ¬ Own env σ a := fun z => (k.ownT z).2 (.inr rfl)
      unfold hid
      rw [if_neg (fun z => z.elim nz no)]
    rw [← hv] at q
    exact q.rep e' (hid_unz (zx_le (.ow o) (.ref a)))
theorem Fr.unz {H' : Hp} {Z' : Addr → Prop} {env' : Env} {σ' : L2.St} (f : Fr H Z env σ H' Z' env' σ') (h : ∀ a, Z a → Z' a) : Fr H Z env σ H' Z env' σ' :=
  ⟨fun b o e => hid_unz h b o (f.inc b o e), f.z, fun _ z => z, f.nn, f.io⟩
theorem EPost.of_d {r : R RV} {Q : VK} (h : DPost K W B Z env σ H (asD r) Q) : EPost K W B Z env σ H r Q := by
  cases r with
  | fail => exact h
  | ex x ρ => exact h
  | ok rv ρ =>
    intro v H' k f q
    cases e : asD (.ok rv ρ) with
    | fail => rw [e] at h; exact h.elim
    | ex x ρ' => cases rv with
      | va d => cases e
      | ow o => unfold asD at e; simp only at e; split at e <;> cases e
    | ok d ρ' =>
      have e2 : ρ' = ρ := by
        cases rv with
        | va d => cases e; rfl
        | ow o => unfold asD at e; simp only at e; split at e <;> cases e; rfl
      subst e2
      rw [e] at h
      exact h v H' (k.unz (zx_le rv v)) (f.unz (zx_le rv v)) (RvR.rep k q e)
theorem DPost.of_e {r : R D} {Q : VK} (h : EPost K W B Z env σ H (match r with | .fail => .fail | .ok d ρ => .ok (.va d) ρ | .ex x ρ => .ex x ρ) Q) : DPost K W B Z env σ H r Q := by
  cases r with
  | fail => exact h
  | ex x ρ => exact h
  | ok d ρ => exact fun v H' k f q => h v H' k f q
/-- seen from an earlier state -/
theorem EPost.since {H1 : Hp} {env1 : Env} {r : R RV} {Q : VK} (f : Fr H Z env σ H1 Z env1 σ) (h : EPost K W B Z env σ H r Q) : EPost K W B Z env1 σ H1 r Q := by
  cases r with
  | fail => exact h
  | ex x ρ => exact fun c d H' k g q => h c d H' k (f.trans g) q
  | ok rv ρ => exact fun v H' k g q => h v H' k (f.trans g) q
theorem DPost.since {H1 : Hp} {env1 : Env} {r : R D} {Q : VK} (f : Fr H Z env σ H1 Z env1 σ) (h : DPost K W B Z env σ H r Q) : DPost K W B Z env1 σ H1 r Q := by
  cases r with
  | fail => exact h
  | ex x ρ => exact fun c d H' k g q => h c d H' k (f.trans g) q
  | ok rv ρ => exact fun v H' k g q => h v H' k (f.trans g) q
end
theorem SE.d {X : Cx} {W : WX} {e : Expr} {f : M RV} (h : SE X W e f) : SD X W e (cD f) := by
  obtain ⟨t, p, s⟩ := h
  exact ⟨t, p, fun B Z env σ H Q k q => s B Z env σ H Q k (EPost.of_d q)⟩
theorem SD.e {X : Cx} {W : WX} {e : Expr} {f : M D} (h : SD X W e f) : SE X W e (cV f) := by
  obtain ⟨t, p, s⟩ := h
  refine ⟨t, p, fun B Z env σ H Q k q => s B Z env σ H Q k (DPost.of_e ?_)⟩
  have e : cV f env = (match f env with | .fail => .fail | .ok d ρ => .ok (.va d) ρ | .ex x ρ => .ex x ρ) := rfl
  rw [e] at q
  exact q
end RF

namespace RF
open PySem PySem.Spec PyProof.Rows L2

section
variable {K : PySem.W.Frag} {B H H' : Hp} {Z Z' : Addr → Prop} {env : Env} {σ : L2.St} {W : WX}
/-- the heap has grown; what is hidden beside is new -/
theorem Ok.grow (k : Ok K B H Z env σ) (i : Inc H H') (z1 : ∀ a, Z a → Z' a) (z2 : ∀ a, Z' a → Z a ∨ H a = none) (z3 : ∀ a, Z' a → H' a ≠ none) : Ok K B H' Z' env σ ∧ Fr H Z env σ H' Z' env σ := by
  have nn : ∀ a, H a ≠ none → H' a ≠ none := fun a h => by
    cases e : H a with
    | none => exact absurd e h
    | some o => rw [i a o e]; simp
  have hi : Inc (hid H Z env σ) (hid H' Z' env σ) := hid_le (fun b o e _ _ => i b o e) (fun b z h => .inl ((z2 b z).resolve_right h)) fun b z _ => .inr z
  have ownZ : ∀ a, Own env σ a → ¬ Z' a := fun a h z => (z2 a z).elim (k.ownT h).2 (k.ownT h).1
  refine ⟨⟨k.len, fun j d e => ?_, fun j f o e => ?_, k.inj, z3, fun a h => nn a (k.nn a h)⟩, ⟨hi, fun a o z e => i a o e, z1, nn, fun j o e => ⟨⟨o, e⟩, rfl⟩⟩⟩
  · obtain ⟨v, a, b⟩ := k.va j d e
    exact ⟨v, a, b.mono hi⟩
  · obtain ⟨a, q1, q2, q3, q4⟩ := k.ow j f o e
    refine ⟨a, q1, ownZ a ⟨j, f, o, e, q1⟩, ?_, q4⟩
    cases ha : H a with
    | none => exact absurd ha q3.there
    | some u =>
      rw [i a u ha]
      rw [ha] at q3
      exact q3.mono hi
theorem inc_upd {p : Addr} {o : HO} (h : H p = none) : Inc H (upd H p o) := fun b u e => by rw [upd_ne (ne_of_none e h)]; exact e
/-- a new object, seen -/
theorem Ok.newV {p : Addr} {o : HO} (k : Ok K B H Z env σ) (h : H p = none) : Ok K B (upd H p o) Z env σ ∧ Fr H Z env σ (upd H p o) Z env σ ∧ Inc (hid H Z env σ) (hid (upd H p o) Z env σ) ∧ hid (upd H p o) Z env σ p = some o := by
  have nz : ¬ Z p := fun z => k.zt p z h
  have no : ¬ Own env σ p := fun z => (k.ownT z).1 h
  obtain ⟨a, b⟩ := k.grow (Z' := Z) (H' := upd H p o) (inc_upd h) (fun _ z => z) (fun _ z => .inl z) fun a z => by
    have ne : a ≠ p := fun e => by subst e; exact nz z
    rw [upd_ne ne]
    exact k.zt a z
  exact ⟨a, b, b.inc, hid_some.mpr ⟨upd_same, nz, no⟩⟩
/-- a new object, nobody's yet -/
theorem Ok.newO {p : Addr} {o : HO} {ob : Ob} (k : Ok K B H Z env σ) (h : H p = none) (r : ObR K (hid H Z env σ) ob (some o)) :
    Ok K B (upd H p o) (zx Z (.ow ob) (.ref p)) env σ ∧ Fr H Z env σ (upd H p o) (zx Z (.ow ob) (.ref p)) env σ ∧ RvR K B Z (hid (upd H p o) (zx Z (.ow ob) (.ref p)) env σ) (upd H p o) (.ow ob) (.ref p) := by
  have nz : ¬ Z p := fun z => k.zt p z h
  obtain ⟨a, b⟩ := k.grow (Z' := zx Z (.ow ob) (.ref p)) (H' := upd H p o) (inc_upd h) (fun _ z => .inl z) (fun a z => z.imp id fun e => by cases e; exact h) fun a z => by
    by_cases e : a = p
    · subst e; rw [upd_same]; simp
    · rw [upd_ne e]
      rcases z with z | z
      · exact k.zt a z
      · cases z; exact absurd rfl e
  refine ⟨a, b, p, rfl, nz, ?_, ?_⟩
  · cases e : B p with
    | none => rfl
    | some u => exact absurd h (k.nn p (by rw [e]; simp))
  · rw [upd_same]
    exact r.mono b.inc
/-- an owned object becomes a value -/
theorem Ok.freeze {i : Nat} {o : Ob} {d : D} (k : Ok K B H Z env σ) (e : env[i]? = some (.ow false o)) (h : o.toD = some d) :
    Ok K B H Z (env.set i (.va d)) σ ∧ Fr H Z env σ H Z (env.set i (.va d)) σ ∧ ∃ a, σ[i]? = some (some (.ref a)) ∧ Rep K (hid H Z (env.set i (.va d)) σ) d (.ref a) := by
  obtain ⟨a, s, nz, r, _⟩ := k.ow i false o e
  have hi : i < env.length := (List.getElem?_eq_some_iff.mp e).1
  have own : ∀ b, Own (env.set i (.va d)) σ b → Own env σ b := fun b ⟨j, f, u, e1, e2⟩ => by
    by_cases q : j = i
    · subst q
      rw [List.getElem?_set_self hi] at e1
      cases e1
    · rw [List.getElem?_set_ne (Ne.symm q)] at e1
      exact ⟨j, f, u, e1, e2⟩
  have hi1 : Inc (hid H Z env σ) (hid H Z (env.set i (.va d)) σ) := hid_le (fun _ _ e _ _ => e) (fun _ z _ => .inl z) fun b z _ => .inr (own b z)
  have na : ¬ Own (env.set i (.va d)) σ a := fun ⟨j, f, u, e1, e2⟩ => by
    by_cases q : j = i
    · subst q
      rw [List.getElem?_set_self hi] at e1
      cases e1
    · rw [List.getElem?_set_ne (Ne.symm q)] at e1
      exact q (k.inj j i f false u o a e1 e e2 s)
  have ha : hid H Z (env.set i (.va d)) σ a = H a := by
    unfold hid
    rw [if_neg (fun z => z.elim nz na)]
  have rd : Rep K (hid H Z (env.set i (.va d)) σ) d (.ref a) := by
    rw [← ha] at r
    exact r.rep h hi1
  refine ⟨⟨by rw [List.length_set]; exact k.len, fun j d' e1 => ?_, fun j f u e1 => ?_, fun j1 j2 f g u1 u2 b e1 e2 s1 s2 => ?_, k.zt, k.nn⟩, ⟨hi1, fun _ _ _ h => h, fun _ h => h, fun _ h => h, fun j u e1 => ?_⟩, a, s, rd⟩
  · by_cases q : j = i
    · subst q
      rw [List.getElem?_set_self hi] at e1
      cases e1
      exact ⟨_, s, rd⟩
    · rw [List.getElem?_set_ne (Ne.symm q)] at e1
      obtain ⟨v, x, y⟩ := k.va j d' e1
      exact ⟨v, x, y.mono hi1⟩
  · by_cases q : j = i
    · subst q
      rw [List.getElem?_set_self hi] at e1
      cases e1
    · rw [List.getElem?_set_ne (Ne.symm q)] at e1
      obtain ⟨b, x, y, z, w⟩ := k.ow j f u e1
      exact ⟨b, x, y, z.mono hi1, w⟩
  · have get : ∀ (j : Nat) (f : Bool) (u : Ob), (env.set i (.va d))[j]? = some (.ow f u) → env[j]? = some (.ow f u) := fun j f u e => by
      by_cases q : j = i
      · subst q
        rw [List.getElem?_set_self hi] at e
        cases e
      · rw [List.getElem?_set_ne (Ne.symm q)] at e
        exact e
    exact k.inj j1 j2 f g u1 u2 b (get _ _ _ e1) (get _ _ _ e2) s1 s2
  · refine ⟨⟨u, ?_⟩, rfl⟩
    have q : j ≠ i := fun q => by subst q; rw [e] at e1; cases e1
    rw [List.getElem?_set_ne (Ne.symm q)]
    exact e1
end

/-! ### constants and names -/
def cC (d : D) : M RV := fun ρ => .ok (.va d) ρ
def cVar (i : Nat) : M RV := fun ρ => match ρ[i]? with
  | some (.va d) => .ok (.va d) ρ
  | some (.ow false o) => match o.toD with
    | some d => .ok (.va d) (ρ.set i (.va d))
    | none => .fail
  | _ => .fail
section
variable {X : Cx} {W : WX} {pos : Pos}
theorem e_c {e : Expr} {v : V} {d : D} (h : PE X e (tC v)) (r : ∀ H, Rep X.K H d v) : SE X W e (cC d) :=
  ⟨_, h, fun B Z env σ H Q k q => q v H k Fr.refl (r _)⟩
theorem e_int {i j} : SE X W (.Constant (.int i) j pos) (cC (.int i)) := e_c pe_int fun _ => rfl
theorem e_bl {i j} : SE X W (.Constant (.bool i) j pos) (cC (.bl i)) := e_c pe_bl fun _ => rfl
theorem e_non {j} : SE X W (.Constant .none j pos) (cC .non) := e_c pe_non fun _ => rfl
theorem e_str {i j} (h : PyData.strOk i = true := by decide +kernel) : SE X W (.Constant (.str i) j pos) (cC (.str i)) := e_c pe_str fun _ => ⟨rfl, h⟩
theorem e_var (i : Nat) {x : Str} (hN : X.N[i]? = some x := by rfl) (hv : Vis X.env.scope x := by first | exact Or.inl rfl | exact Or.inr (Or.inl rfl) | exact Or.inr (Or.inr rfl)) (hd : (x == ("__debug__" : Str)) = false := by decide)
    (hcd : (x == ("__classdict__" : Str)) = false := by decide) : SE X W (.Name x pos) (cVar i) := by
  refine ⟨_, pe_var hN hv hd hcd, fun B Z env σ H Q k q => ?_⟩
  cases e : env[i]? with
  | none => simp only [cVar, e, EPost] at q
  | some s =>
    cases s with
    | un => simp only [cVar, e, EPost] at q
    | va d =>
      simp only [cVar, e] at q
      obtain ⟨v, h1, h2⟩ := k.va i d e
      exact ⟨v, h1, q v H k Fr.refl h2⟩
    | ow f o =>
      cases f with
      | true => simp only [cVar, e, EPost] at q
      | false =>
        cases h : o.toD with
        | none => simp only [cVar, e, h, EPost] at q
        | some d =>
          simp only [cVar, e, h] at q
          obtain ⟨k', f', a, h1, h2⟩ := k.freeze e h
          exact ⟨_, h1, q _ H k' f' h2⟩
end

/-! ### operands: a value ahead, or a name that is read behind the others -/
inductive Op where
  | ev (f : M D) | lv (i : Nat)
def rd (ρ : Env) (i : Nat) : Option D := match ρ[i]? with
  | some (.va d) => some d
  | some (.ow _ o) => o.toD
  | _ => none
def st1 : Op → M (Option D)
  | .ev f => fun ρ => match f ρ with
    | .ok d ρ' => .ok (some d) ρ'
    | .fail => .fail
    | .ex x ρ' => .ex x ρ'
  | .lv i => fun ρ => match rd ρ i with
    | some _ => .ok none ρ
    | none => .fail
def fin1 : Op → Option D → Env → Option D
  | .ev _, x, _ => x
  | .lv i, _, ρ => rd ρ i
def SO (X : Cx) (W : WX) (e : Expr) : Op → Prop
  | .ev f => SD X W e f
  | .lv i => PE X e (tVar i)
theorem SE.o {X : Cx} {W : WX} {e : Expr} {f : M RV} (h : SE X W e f) : SO X W e (.ev (cD f)) := h.d
theorem o_var {X : Cx} {W : WX} {pos : Pos} (i : Nat) {x : Str} (hN : X.N[i]? = some x := by rfl) (hv : Vis X.env.scope x := by first | exact Or.inl rfl | exact Or.inr (Or.inl rfl) | exact Or.inr (Or.inr rfl)) (hd : (x == ("__debug__" : Str)) = false := by decide)
    (hcd : (x == ("__classdict__" : Str)) = false := by decide) : SO X W (.Name x pos) (.lv i) := pe_var hN hv hd hcd
/-- a value whose list is read off the whole heap -/
def RepT (K : PySem.W.Frag) (H Hh : Hp) (d : D) (v : V) : Prop := match d with
  | .lst ds => ∃ a vs, v = .ref a ∧ H a = some (.lst vs) ∧ RepL K Hh ds vs
  | .dct ks ds => ∃ a kvs, v = .ref a ∧ H a = some (.dK kvs) ∧ kvs.map (·.1) = ks ∧ RepL K Hh ds (kvs.map (·.2))
  | _ => Rep K Hh d v
theorem Rep.t {K : PySem.W.Frag} {H Hh : Hp} (i : Inc Hh H) {d : D} {v : V} (h : Rep K Hh d v) : RepT K H Hh d v := by
  cases d with
  | lst ds => obtain ⟨a, vs, h1, h2, h3⟩ := h; exact ⟨a, vs, h1, i a _ h2, h3⟩
  | dct ks ds => obtain ⟨a, vs, h1, h2, h3⟩ := h; exact ⟨a, vs, h1, i a _ h2, h3⟩
  | _ => exact h
def Pre1 (K : PySem.W.Frag) (Hh : Hp) (σ : L2.St) (v : V) : Op → Option D → Prop
  | .ev _, some d => Rep K Hh d v
  | .ev _, none => False
  | .lv i, _ => σ[i]? = some (some v)
/-- behind an operand -/
def OPost (K : PySem.W.Frag) (W : WX) (B : Hp) (Z : Addr → Prop) (env : Env) (σ : L2.St) (H : Hp) (o : Op) (r : R (Option D)) (Q : VK) : Prop := match r with
  | .fail => False
  | .ok x env' => ∀ v H', Ok K B H' Z env' σ → Fr H Z env σ H' Z env' σ → Pre1 K (hid H' Z env' σ) σ v o x → Q v H'
  | .ex x env' => ∀ c d H', Ok K B H' Z env' σ → Fr H Z env σ H' Z env' σ → XOk K (hid H' Z env' σ) x c d H' → W c d σ H'
theorem SO.run {X : Cx} {W : WX} {e : Expr} {o : Op} (h : SO X W e o) : ∃ t, PE X e t ∧ ∀ B Z env σ H Q, Ok X.K B H Z env σ → OPost X.K W B Z env σ H o (st1 o env) Q → t σ H Q := by
  cases o with
  | ev f =>
    obtain ⟨t, p, s⟩ := h
    refine ⟨t, p, fun B Z env σ H Q k q => s B Z env σ H Q k ?_⟩
    cases e : f env with
    | fail => simp only [st1, e, OPost] at q
    | ok d ρ => simp only [st1, e, OPost] at q; exact q
    | ex x ρ => simp only [st1, e, OPost] at q; exact q
  | lv i =>
    refine ⟨_, h, fun B Z env σ H Q k q => ?_⟩
    cases e : env[i]? with
    | none => simp only [st1, rd, e, OPost] at q
    | some s =>
      cases s with
      | un => simp only [st1, rd, e, OPost] at q
      | va d =>
        simp only [st1, rd, e, OPost] at q
        obtain ⟨v, h1, h2⟩ := k.va i d e
        exact ⟨v, h1, q v H k Fr.refl h1⟩
      | ow f o =>
        cases h : o.toD with
        | none => simp only [st1, rd, e, h, OPost] at q
        | some d =>
          simp only [st1, rd, e, h, OPost] at q
          obtain ⟨a, h1, h2⟩ := k.ow i f o e
          exact ⟨_, h1, q _ H k Fr.refl h1⟩
theorem Pre1.fin {K : PySem.W.Frag} {B H H' : Hp} {Z : Addr → Prop} {env env' : Env} {σ : L2.St} {v : V} {o : Op} {x : Option D} {d : D} (p : Pre1 K (hid H Z env σ) σ v o x) (f : Fr H Z env σ H' Z env' σ) (k : Ok K B H' Z env' σ) (e : fin1 o x env' = some d) :
    RepT K H' (hid H' Z env' σ) d v := by
  cases o with
  | ev g =>
    cases x with
    | none => exact p.elim
    | some d' =>
      cases e
      have p' : Rep K (hid H Z env σ) d v := p
      exact (p'.mono f.inc).t hid_inc
  | lv i =>
    have p : σ[i]? = some (some v) := p
    simp only [fin1, rd] at e
    cases q : env'[i]? with
    | none => rw [q] at e; cases e
    | some s =>
      rw [q] at e
      cases s with
      | un => cases e
      | va d' =>
        cases e
        obtain ⟨v', h1, h2⟩ := k.va i d q
        rw [p] at h1
        cases h1
        exact h2.t hid_inc
      | ow f o =>
        obtain ⟨a, h1, _, h2, _⟩ := k.ow i f o q
        rw [p] at h1
        cases h1
        cases o with
        | lst ds => cases e; obtain ⟨vs, x, y⟩ := h2; exact ⟨a, vs, rfl, x, y⟩
        | dct ks ds => cases e; obtain ⟨vs, x, y⟩ := h2; exact ⟨a, vs, rfl, x, y⟩
        | ins C ns ds => cases e
theorem OPost.since {K : PySem.W.Frag} {W : WX} {B H H1 : Hp} {Z : Addr → Prop} {env env1 : Env} {σ : L2.St} {o : Op} {r : R (Option D)} {Q : VK} (f : Fr H Z env σ H1 Z env1 σ) (h : OPost K W B Z env σ H o r Q) : OPost K W B Z env1 σ H1 o r Q := by
  cases r with
  | fail => exact h
  | ex x ρ => exact fun c d H' k g q => h c d H' k (f.trans g) q
  | ok rv ρ => exact fun v H' k g q => h v H' k (f.trans g) q

/-! ### two operands -/
def opt {α : Type} (x : Option α) (ρ : Env) : R α := match x with
  | some a => .ok a ρ
  | none => .fail
def ap2 (g : D → D → Option RV) (x y : Option D) : Option RV := match x, y with
  | some d, some e => g d e
  | _, _ => none
def cOp (g : D → D → Option RV) (a b : Op) : M RV := bnd (st1 a) fun x => bnd (st1 b) fun y => fun ρ => opt (ap2 g (fin1 a x ρ) (fin1 b y ρ)) ρ
/-- a reading by values keeps to a function on trees -/
def OpOk (K : PySem.W.Frag) (r : R2) (g : D → D → Option RV) : Prop := ∀ B Z env σ H x y d e rv (Q : VK), Ok K B H Z env σ → RepT K H (hid H Z env σ) d x → RepT K H (hid H Z env σ) e y → g d e = some rv →
  (∀ v H', Ok K B H' (zx Z rv v) env σ → Fr H Z env σ H' (zx Z rv v) env σ → RvR K B Z (hid H' (zx Z rv v) env σ) H' rv v → Q v H') → r x y H Q
theorem bnd_ok {α β : Type} {m : M α} {k : α → M β} {ρ ρ' : Env} {a : α} (h : m ρ = .ok a ρ') : bnd m k ρ = k a ρ' := by
  unfold bnd
  rw [h]
theorem bnd_fail {α β : Type} {m : M α} {k : α → M β} {ρ : Env} (h : m ρ = .fail) : bnd m k ρ = .fail := by
  unfold bnd
  rw [h]
theorem bnd_ex {α β : Type} {m : M α} {k : α → M β} {ρ ρ' : Env} {x : Exc} (h : m ρ = .ex x ρ') : bnd m k ρ = .ex x ρ' := by
  unfold bnd
  rw [h]
theorem two {X : Cx} {W : WX} {a b : Expr} {oa ob : Op} {g : D → D → Option RV} {r : R2} (ha : SO X W a oa) (hb : SO X W b ob) (ok : OpOk X.K r g) :
    ∃ ta tb, PE X a ta ∧ PE X b tb ∧ ∀ B Z env σ H Q, Ok X.K B H Z env σ → EPost X.K W B Z env σ H (cOp g oa ob env) Q → tOp r ta tb σ H Q := by
  obtain ⟨ta, pa, sa⟩ := ha.run
  obtain ⟨tb, pb, sb⟩ := hb.run
  refine ⟨ta, tb, pa, pb, fun B Z env σ H Q k q => sa B Z env σ H _ k ?_⟩
  unfold cOp at q
  cases e1 : st1 oa env with
  | fail => rw [bnd_fail e1] at q; exact q
  | ex x ρ => rw [bnd_ex e1] at q; exact q
  | ok x ρ =>
    rw [bnd_ok e1] at q
    intro v H1 k1 f1 p1
    refine sb B Z ρ σ H1 _ k1 ?_
    cases e2 : st1 ob ρ with
    | fail => rw [bnd_fail e2] at q; exact q
    | ex y ρ2 => rw [bnd_ex e2] at q; exact fun c d H' k' f' w => q c d H' k' (f1.trans f') w
    | ok y ρ2 =>
      rw [bnd_ok e2] at q
      intro u H2 k2 f2 p2
      cases e3 : fin1 oa x ρ2 with
      | none => simp only [e3, ap2, opt, EPost] at q
      | some d =>
        cases e4 : fin1 ob y ρ2 with
        | none => simp only [e3, e4, ap2, opt, EPost] at q
        | some e =>
          cases e5 : g d e with
          | none => simp only [e3, e4, ap2, e5, opt, EPost] at q
          | some rv =>
            simp only [e3, e4, ap2, e5, opt] at q
            exact ok B Z ρ2 σ H2 v u d e rv Q k2 (p1.fin f2 k2 e3) (p2.fin Fr.refl k2 e4) e5 fun v' H' k' f' r' => q v' H' k' ((f1.trans f2).trans f') r'
end RF

namespace RF
open PySem PySem.Spec PyProof.Rows L2

/-! ### trees as the library's data -/
mutual
def pyd : D → PyData
  | .non => .none
  | .bl b => .bool b
  | .int i => .int i
  | .str s => .str s
  | .tup ds => .tuple (pydL ds)
  | .lst ds => .list (pydL ds)
  | .rls ds => .list (pydL ds)
  | .dct _ _ => .none
def pydL : List D → List PyData
  | [] => []
  | d :: ds => pyd d :: pydL ds
end
mutual
def plain : D → Bool
  | .tup ds => plainL ds
  | .lst ds => plainL ds
  | .rls ds => plainL ds
  | .dct _ _ => false
  | _ => true
def plainL : List D → Bool
  | [] => true
  | d :: ds => plain d && plainL ds
end
mutual
def dep : D → Nat
  | .tup ds => depL ds + 1
  | .lst ds => depL ds + 1
  | .rls ds => depL ds + 1
  | _ => 0
def depL : List D → Nat
  | [] => 0
  | d :: ds => max (dep d) (depL ds)
end
mutual
/-- == -/
def eqv : D → D → Bool
  | .non, .non => true
  | .bl a, .bl b => a == b
  | .bl a, .int j => (if a then 1 else 0) == j
  | .int i, .bl b => i == (if b then 1 else 0)
  | .int i, .int j => i == j
  | .str x, .str y => x == y
  | .lst xs, .lst ys => eqvL xs ys
  | .lst xs, .rls ys => eqvL xs ys
  | .rls xs, .lst ys => eqvL xs ys
  | .rls xs, .rls ys => eqvL xs ys
  | .tup xs, .tup ys => eqvL xs ys
  | _, _ => false
def eqvL : List D → List D → Bool
  | [], [] => true
  | x :: xs, y :: ys => eqv x y && eqvL xs ys
  | _, _ => false
end
mutual
theorem dep_eq : ∀ d : D, (pyd d).depth = dep d
  | .non => by simp only [pyd, dep, PyData.depth]
  | .bl b => by simp only [pyd, dep, PyData.depth]
  | .int i => by simp only [pyd, dep, PyData.depth]
  | .str s => by simp only [pyd, dep, PyData.depth]
  | .tup ds => by simp only [pyd, dep, PyData.depth, depL_eq ds]
  | .lst ds => by simp only [pyd, dep, PyData.depth, depL_eq ds]
  | .rls ds => by simp only [pyd, dep, PyData.depth, depL_eq ds]
  | .dct _ _ => by simp only [pyd, dep, PyData.depth]
theorem depL_eq : ∀ ds : List D, PyData.depthAll (pydL ds) = depL ds
  | [] => by simp only [pydL, depL, PyData.depthAll]
  | d :: ds => by simp only [pydL, depL, PyData.depthAll, dep_eq d, depL_eq ds]
end
mutual
theorem eqv_eq : ∀ (d e : D), plain d = true → plain e = true → PyData.eqv (pyd d) (pyd e) = eqv d e
  | d, .dct _ _, _, h => by simp [plain] at h
  | .dct _ _, e, h, _ => by simp [plain] at h
  | .tup xs, .tup ys, h, k => by simp only [pyd, PyData.eqv, eqv]; exact eqvL_eq xs ys (by simpa [plain] using h) (by simpa [plain] using k)
  | .lst xs, .lst ys, h, k => by simp only [pyd, PyData.eqv, eqv]; exact eqvL_eq xs ys (by simpa [plain] using h) (by simpa [plain] using k)
  | .lst xs, .rls ys, h, k => by simp only [pyd, PyData.eqv, eqv]; exact eqvL_eq xs ys (by simpa [plain] using h) (by simpa [plain] using k)
  | .rls xs, .lst ys, h, k => by simp only [pyd, PyData.eqv, eqv]; exact eqvL_eq xs ys (by simpa [plain] using h) (by simpa [plain] using k)
  | .rls xs, .rls ys, h, k => by simp only [pyd, PyData.eqv, eqv]; exact eqvL_eq xs ys (by simpa [plain] using h) (by simpa [plain] using k)
  | .non, .non, _, _ | .non, .bl _, _, _ | .non, .int _, _, _ | .non, .str _, _, _ | .non, .tup _, _, _ | .non, .lst _, _, _ | .non, .rls _, _, _ => by simp only [pyd, PyData.eqv, eqv]
  | .bl _, .non, _, _ | .bl _, .bl _, _, _ | .bl _, .int _, _, _ | .bl _, .str _, _, _ | .bl _, .tup _, _, _ | .bl _, .lst _, _, _ | .bl _, .rls _, _, _ => by simp only [pyd, PyData.eqv, eqv]
  | .int _, .non, _, _ | .int _, .bl _, _, _ | .int _, .int _, _, _ | .int _, .str _, _, _ | .int _, .tup _, _, _ | .int _, .lst _, _, _ | .int _, .rls _, _, _ => by simp only [pyd, PyData.eqv, eqv]
  | .str _, .non, _, _ | .str _, .bl _, _, _ | .str _, .int _, _, _ | .str _, .str _, _, _ | .str _, .tup _, _, _ | .str _, .lst _, _, _ | .str _, .rls _, _, _ => by simp only [pyd, PyData.eqv, eqv]
  | .tup _, .non, _, _ | .tup _, .bl _, _, _ | .tup _, .int _, _, _ | .tup _, .str _, _, _ | .tup _, .lst _, _, _ | .tup _, .rls _, _, _ => by simp only [pyd, PyData.eqv, eqv]
  | .lst _, .non, _, _ | .lst _, .bl _, _, _ | .lst _, .int _, _, _ | .lst _, .str _, _, _ | .lst _, .tup _, _, _ => by simp only [pyd, PyData.eqv, eqv]
  | .rls _, .non, _, _ | .rls _, .bl _, _, _ | .rls _, .int _, _, _ | .rls _, .str _, _, _ | .rls _, .tup _, _, _ => by simp only [pyd, PyData.eqv, eqv]
theorem eqvL_eq : ∀ (xs ys : List D), plainL xs = true → plainL ys = true → PyData.eqvAll (pydL xs) (pydL ys) = eqvL xs ys
  | [], [], _, _ => by simp only [pydL, PyData.eqvAll, eqvL]
  | [], _ :: _, _, _ => by simp only [pydL, PyData.eqvAll, eqvL]
  | _ :: _, [], _, _ => by simp only [pydL, PyData.eqvAll, eqvL]
  | x :: xs, y :: ys, h, k => by
    simp only [plainL, Bool.and_eq_true] at h k
    simp only [pydL, PyData.eqvAll, eqvL, eqv_eq x y h.1 k.1, eqvL_eq xs ys h.2 k.2]
end
mutual
theorem Rep.dp {K : PySem.W.Frag} {H : Hp} : ∀ (d : D) {v : V}, plain d = true → Rep K H d v → Dp K H v (pyd d)
  | .non, _, _, h => by rw [show _ = V.non from h]; exact .non
  | .bl b, _, _, h => by rw [show _ = V.bl b from h]; exact .bl b
  | .int i, _, _, h => by rw [show _ = V.int i from h]; exact .int i
  | .str s, _, _, h => by rw [show _ = V.str s from h.1]; exact .str s
  | .tup ds, _, p, h => by
    obtain ⟨a, vs, rfl, q, r⟩ := h
    rw [pyd]
    exact .tup q (RepL.dp ds (by simpa [plain] using p) r)
  | .lst ds, _, p, h => by
    obtain ⟨a, vs, rfl, q, r⟩ := h
    rw [pyd]
    exact .lst (.inl (.inl q)) (RepL.dp ds (by simpa [plain] using p) r)
  | .rls ds, _, p, h => by
    obtain ⟨a, vs, rfl, q, r⟩ := h
    rw [pyd]
    exact .lst q (RepL.dp ds (by simpa [plain] using p) r)
  | .dct _ _, _, p, _ => by simp [plain] at p
theorem RepL.dp {K : PySem.W.Frag} {H : Hp} : ∀ (ds : List D) {vs : List V}, plainL ds = true → RepL K H ds vs → DpAll K H vs (pydL ds)
  | [], _, _, h => by rw [show _ = [] from h, pydL]; exact .nil
  | d :: ds, _, p, h => by
    obtain ⟨v, r, rfl, h1, h2⟩ := h
    simp only [plainL, Bool.and_eq_true] at p
    rw [pydL]
    exact .cons (Rep.dp d p.1 h1) (RepL.dp ds p.2 h2)
end
mutual
theorem Rep.lay {K : PySem.W.Frag} {H : Hp} : ∀ (d : D) {v : V}, plain d = true → Rep K H d v → (pyd d).canLay0 = true
  | .non, _, _, h => by simp only [pyd, PyData.canLay0]
  | .bl b, _, _, h => by simp only [pyd, PyData.canLay0]
  | .int i, _, _, h => by simp only [pyd, PyData.canLay0]
  | .str s, _, _, h => by simp only [pyd, PyData.canLay0]; exact h.2
  | .tup ds, _, p, h => by
    obtain ⟨a, vs, rfl, q, r⟩ := h
    simp only [pyd, PyData.canLay0]
    exact RepL.lay ds (by simpa [plain] using p) r
  | .lst ds, _, p, h => by
    obtain ⟨a, vs, rfl, q, r⟩ := h
    simp only [pyd, PyData.canLay0]
    exact RepL.lay ds (by simpa [plain] using p) r
  | .rls ds, _, p, h => by
    obtain ⟨a, vs, rfl, q, r⟩ := h
    simp only [pyd, PyData.canLay0]
    exact RepL.lay ds (by simpa [plain] using p) r
  | .dct _ _, _, p, _ => by simp [plain] at p
theorem RepL.lay {K : PySem.W.Frag} {H : Hp} : ∀ (ds : List D) {vs : List V}, plainL ds = true → RepL K H ds vs → PyData.canLayAll0 (pydL ds) = true
  | [], _, _, h => by simp only [pydL, PyData.canLayAll0]
  | d :: ds, _, p, h => by
    obtain ⟨v, r, rfl, h1, h2⟩ := h
    simp only [plainL, Bool.and_eq_true] at p
    simp only [pydL, PyData.canLayAll0, Rep.lay d p.1 h1, RepL.lay ds p.2 h2, Bool.and_self]
end
theorem RepT.dp {K : PySem.W.Frag} {H Hh : Hp} (i : Inc Hh H) {d : D} {v : V} (p : plain d = true) (h : RepT K H Hh d v) : Dp K H v (pyd d) ∧ (pyd d).canLay0 = true := by
  cases d with
  | lst ds =>
    obtain ⟨a, vs, rfl, q, r⟩ := h
    have p' : plainL ds = true := by simpa [plain] using p
    rw [pyd]
    exact ⟨.lst (.inl (.inl q)) (RepL.dp ds p' (r.mono i)), by simp only [PyData.canLay0]; exact RepL.lay ds p' r⟩
  | dct _ _ => simp [plain] at p
  | non => exact ⟨Rep.dp _ p ((show Rep K Hh _ v from h).mono i), Rep.lay _ p (show Rep K Hh _ v from h)⟩
  | bl b => exact ⟨Rep.dp _ p ((show Rep K Hh _ v from h).mono i), Rep.lay _ p (show Rep K Hh _ v from h)⟩
  | int _ => exact ⟨Rep.dp _ p ((show Rep K Hh _ v from h).mono i), Rep.lay _ p (show Rep K Hh _ v from h)⟩
  | str _ => exact ⟨Rep.dp _ p ((show Rep K Hh _ v from h).mono i), Rep.lay _ p (show Rep K Hh _ v from h)⟩
  | tup _ => exact ⟨Rep.dp _ p ((show Rep K Hh _ v from h).mono i), Rep.lay _ p (show Rep K Hh _ v from h)⟩
  | rls _ => exact ⟨Rep.dp _ p ((show Rep K Hh _ v from h).mono i), Rep.lay _ p (show Rep K Hh _ v from h)⟩

/-! ### arithmetic -/
section
variable {K : PySem.W.Frag} {B H : Hp} {Z : Addr → Prop} {env : Env} {σ : L2.St} {Q : VK}
theorem fin_va {d : D} {v : V} (k : Ok K B H Z env σ) (r : Rep K (hid H Z env σ) d v) (q : ∀ v H', Ok K B H' (zx Z (.va d) v) env σ → Fr H Z env σ H' (zx Z (.va d) v) env σ → RvR K B Z (hid H' (zx Z (.va d) v) env σ) H' (.va d) v → Q v H') : Q v H :=
  q v H k Fr.refl r
/-- a new tuple -/
theorem fin_tup {ds : List D} {vs : List V} (k : Ok K B H Z env σ) (r : RepL K (hid H Z env σ) ds vs)
    (q : ∀ v H', Ok K B H' (zx Z (.va (.tup ds)) v) env σ → Fr H Z env σ H' (zx Z (.va (.tup ds)) v) env σ → RvR K B Z (hid H' (zx Z (.va (.tup ds)) v) env σ) H' (.va (.tup ds)) v → Q v H') :
    ∀ p, H p = none → Q (.ref p) (upd H p (.tup vs)) := fun p hp => by
  obtain ⟨a, b, c, e⟩ := k.newV (o := .tup vs) hp
  exact q _ _ a b ⟨p, vs, rfl, .inl (.inl e), r.mono c⟩
/-- a new list -/
theorem fin_lst {ds : List D} {vs : List V} (k : Ok K B H Z env σ) (r : RepL K (hid H Z env σ) ds vs)
    (q : ∀ v H', Ok K B H' (zx Z (.ow (.lst ds)) v) env σ → Fr H Z env σ H' (zx Z (.ow (.lst ds)) v) env σ → RvR K B Z (hid H' (zx Z (.ow (.lst ds)) v) env σ) H' (.ow (.lst ds)) v → Q v H') :
    ∀ p, H p = none → Q (.ref p) (upd H p (.lst vs)) := fun p hp => by
  obtain ⟨a, b, c⟩ := k.newO (o := .lst vs) (ob := .lst ds) hp ⟨vs, rfl, r⟩
  exact q _ _ a b c
end
def inI (g : Int → Int → Option D) : D → D → Option RV
  | .int i, .int j => (g i j).map .va
  | _, _ => none
def pureI (o : Option D) : Prop := ∀ d, o = some d → (∃ n, d = .int n) ∨ ∃ b, d = .bl b
def DtoV : D → V
  | .int n => .int n
  | .bl b => .bl b
  | _ => .non
theorem okI {K : PySem.W.Frag} {C : Int → Int → Prop} {h : Int → Int → V} {g : Int → Int → Option D} (hg : ∀ i j d, g i j = some d → C i j ∧ h i j = DtoV d ∧ ((∃ n, d = .int n) ∨ ∃ b, d = .bl b)) : OpOk K (rI C h) (inI g) := by
  intro B Z env σ H x y d e rv Q k rx ry hd q
  cases d with
  | int i =>
    cases e with
    | int j =>
      cases hx : g i j with
      | none => rw [inI, hx] at hd; cases hd
      | some d =>
        rw [inI, hx] at hd
        cases hd
        obtain ⟨c, e1, e2⟩ := hg i j d hx
        refine ⟨i, j, rx, ry, c, ?_⟩
        rw [e1]
        refine fin_va k ?_ q
        rcases e2 with ⟨n, rfl⟩ | ⟨b, rfl⟩ <;> rfl
    | _ => cases hd
  | _ => cases hd
theorem okI0 {K : PySem.W.Frag} {h : Int → Int → V} {g : Int → Int → Option D} (hg : ∀ i j d, g i j = some d → h i j = DtoV d ∧ ((∃ n, d = .int n) ∨ ∃ b, d = .bl b)) : OpOk K (rI0 h) (inI g) := by
  intro B Z env σ H x y d e rv Q k rx ry hd q
  obtain ⟨i, j, a, b, _, c⟩ := okI (K := K) (C := fun _ _ => True) (h := h) (g := g) (fun i j d e => ⟨trivial, hg i j d e⟩) B Z env σ H x y d e rv Q k rx ry hd q
  exact ⟨i, j, a, b, c⟩
def fst2 (f g : D → D → Option RV) : D → D → Option RV := fun x y => match f x y with
  | some r => some r
  | none => g x y
theorem OpOk.or {K : PySem.W.Frag} {r r' : R2} {f g : D → D → Option RV} (a : OpOk K r f) (b : OpOk K r' g) : OpOk K (fun x y H Q => r x y H Q ∨ r' x y H Q) (fst2 f g) := by
  intro B Z env σ H x y d e rv Q k rx ry hd q
  unfold fst2 at hd
  cases hf : f d e with
  | some z =>
    rw [hf] at hd
    exact .inl (a B Z env σ H x y d e rv Q k rx ry (hf.trans hd) q)
  | none =>
    rw [hf] at hd
    exact .inr (b B Z env σ H x y d e rv Q k rx ry hd q)
def gAddS : D → D → Option RV
  | .str a, .str b => if a.length + b.length ≤ sizeLine then some (.va (.str (a ++ b))) else none
  | _, _ => none
theorem strOk_append {a b : Str} (h : PyData.strOk a = true) (k : PyData.strOk b = true) : PyData.strOk (a ++ b) = true := by
  unfold PyData.strOk at h k ⊢
  show (a.cps ++ b.cps).all _ = true
  rw [Array.all_append, h, k]
  rfl
theorem okAddS {K : PySem.W.Frag} : OpOk K (fun x y H Q => ∃ i j, x = .str i ∧ y = .str j ∧ i.length + j.length ≤ sizeLine ∧ Q (.str (i ++ j)) H) gAddS := by
  intro B Z env σ H x y d e rv Q k rx ry hd q
  cases d with
  | str i =>
    cases e with
    | str j =>
      simp only [gAddS] at hd
      split at hd
      · rename_i h
        cases hd
        exact ⟨i, j, rx.1, ry.1, h, fin_va (d := .str (i ++ j)) k ⟨rfl, strOk_append rx.2 ry.2⟩ q⟩
      · cases hd
    | _ => cases hd
  | _ => cases hd
def gAddT : D → D → Option RV
  | .tup a, .tup b => if a.length + b.length ≤ sizeLine then some (.va (.tup (a ++ b))) else none
  | _, _ => none
theorem okAddT {K : PySem.W.Frag} : OpOk K (rCatA K) gAddT := by
  intro B Z env σ H x y d e rv Q k rx ry hd q
  cases d with
  | tup ds =>
    cases e with
    | tup es =>
      simp only [gAddT] at hd
      split at hd
      · rename_i h
        cases hd
        obtain ⟨a, vs, rfl, h1, h2⟩ := rx
        obtain ⟨b, ws, rfl, g1, g2⟩ := ry
        have l1 := h2.length
        have l2 := g2.length
        refine ⟨a, b, vs, ws, rfl, rfl, Inc.st hid_inc h1, Inc.st hid_inc g1, by omega, fun e => ?_, fun e1 e2 => ?_, fun e1 e2 => fin_tup k (h2.append g2) q⟩
        · have ed : ds = [] := List.eq_nil_of_length_eq_zero (by rw [← l1, e]; rfl)
          subst ed
          exact fin_va (d := .tup es) k ⟨b, ws, rfl, g1, g2⟩ q
        · have ed : es = [] := List.eq_nil_of_length_eq_zero (by rw [← l2, e2]; rfl)
          subst ed
          rw [List.append_nil] at q
          exact fin_va (d := .tup ds) k ⟨a, vs, rfl, h1, h2⟩ q
      · cases hd
    | _ => cases hd
  | _ => cases hd
def gAddL : D → D → Option RV
  | .lst a, .lst b => if a.length + b.length ≤ sizeLine then some (.ow (.lst (a ++ b))) else none
  | _, _ => none
theorem okAddL {K : PySem.W.Frag} : OpOk K rCat gAddL := by
  intro B Z env σ H x y d e rv Q k rx ry hd q
  cases d with
  | lst ds =>
    cases e with
    | lst es =>
      simp only [gAddL] at hd
      split at hd
      · rename_i h
        cases hd
        obtain ⟨a, vs, rfl, h1, h2⟩ := rx
        obtain ⟨b, ws, rfl, g1, g2⟩ := ry
        have l1 := h2.length
        have l2 := g2.length
        exact ⟨a, b, vs, ws, rfl, rfl, h1, g1, by omega, fin_lst k (h2.append g2) q⟩
      · cases hd
    | _ => cases hd
  | _ => cases hd
def dAdd : D → D → Option RV
  | .int i, .int j => some (.va (.int (i + j)))
  | .str a, .str b => if a.length + b.length ≤ sizeLine then some (.va (.str (a ++ b))) else none
  | .tup a, .tup b => if a.length + b.length ≤ sizeLine then some (.va (.tup (a ++ b))) else none
  | .lst a, .lst b => if a.length + b.length ≤ sizeLine then some (.ow (.lst (a ++ b))) else none
  | _, _ => none
theorem OpOk.imp {K : PySem.W.Frag} {r : R2} {f g : D → D → Option RV} (a : OpOk K r f) (h : ∀ d e rv, g d e = some rv → f d e = some rv) : OpOk K r g := by
  intro B Z env σ H x y d e rv Q k rx ry hd q
  exact a B Z env σ H x y d e rv Q k rx ry (h d e rv hd) q
section
variable {X : Cx} {W : WX} {pos : Pos} {a b : Expr} {oa ob : Op}
theorem e_bin {op : Operator} {r : R2} {g : D → D → Option RV} (ho : OpR X (binaryOp op) r) (ok : OpOk X.K r g) (ha : SO X W a oa) (hb : SO X W b ob) : SE X W (.BinOp a op b pos) (cOp g oa ob) := by
  obtain ⟨ta, tb, p1, p2, s⟩ := two ha hb ok
  exact ⟨_, pe_op ho p1 p2, s⟩
theorem e_add (ha : SO X W a oa) (hb : SO X W b ob) : SE X W (.BinOp a .Add b pos) (cOp dAdd oa ob) :=
  e_bin (op_add.or (op_add_str.or (op_catA.or op_cat))) ((okI0 (g := fun i j => some (.int (i + j))) fun i j d e => by cases e; exact ⟨rfl, .inl ⟨_, rfl⟩⟩).or (okAddS.or (okAddT.or okAddL)) |>.imp fun d e rv h => by
    cases d <;> cases e <;> first
      | (have h' : (none : Option RV) = some rv := h; cases h')
      | exact h
      | (simp only [dAdd] at h
         simp only [fst2, inI, gAddS, gAddT, gAddL]
         split at h
         · cases h; first | rfl | (rename_i q; simp [q])
         · cases h)) ha hb
def dSub : D → D → Option RV
  | .int i, .int j => some (.va (.int (i - j)))
  | _, _ => none
theorem e_sub (ha : SO X W a oa) (hb : SO X W b ob) : SE X W (.BinOp a .Sub b pos) (cOp dSub oa ob) :=
  e_bin op_sub ((okI0 (g := fun i j => some (.int (i - j))) fun i j d e => by cases e; exact ⟨rfl, .inl ⟨_, rfl⟩⟩).imp fun d e rv h => by
    cases d <;> cases e <;> first | (have h' : (none : Option RV) = some rv := h; cases h') | exact h) ha hb
/-- one factor below 2 ^ 64 -/
def dMul : D → D → Option RV
  | .int i, .int j => if (-(2 ^ 64) < i ∧ i < 2 ^ 64) ∨ (-(2 ^ 64) < j ∧ j < 2 ^ 64) then some (.va (.int (i * j))) else none
  | _, _ => none
theorem e_mul (ha : SO X W a oa) (hb : SO X W b ob) : SE X W (.BinOp a .Mult b pos) (cOp dMul oa ob) :=
  e_bin op_mul ((okI (g := fun i j => if (-(2 ^ 64) < i ∧ i < 2 ^ 64) ∨ (-(2 ^ 64) < j ∧ j < 2 ^ 64) then some (.int (i * j)) else none) fun i j d e => by
    split at e
    · rename_i c
      cases e
      exact ⟨c, rfl, .inl ⟨_, rfl⟩⟩
    · cases e).imp fun d e rv h => by
    cases d <;> cases e <;> first
      | (have h' : (none : Option RV) = some rv := h; cases h')
      | (simp only [dMul] at h
         simp only [inI]
         split at h
         · cases h; rename_i q; rw [if_pos q]; rfl
         · cases h)) ha hb
/-- a positive divisor of at most forty digits -/
def dFdiv : D → D → Option RV
  | .int i, .int j => if 0 < j ∧ j ≤ 10 ^ 40 then some (.va (.int (i / j))) else none
  | _, _ => none
theorem divW {i j : Int} (h : 0 < j ∧ j ≤ 10 ^ 40) : CDivW i j := wide_div (b := 200) h.1 (by
  have e : (10 : Int) ^ 40 < 2 ^ 200 := by decide
  have : (j.natAbs : Int) < 2 ^ 200 := by omega
  have e2 : ((2 ^ 200 : Nat) : Int) = 2 ^ 200 := by norm_cast
  omega) (by decide) (by decide)
theorem e_fdiv (ha : SO X W a oa) (hb : SO X W b ob) : SE X W (.BinOp a .FloorDiv b pos) (cOp dFdiv oa ob) :=
  e_bin op_fdivW ((okI (g := fun i j => if 0 < j ∧ j ≤ 10 ^ 40 then some (.int (i / j)) else none) fun i j d e => by
    split at e
    · rename_i c
      cases e
      exact ⟨divW c, rfl, .inl ⟨_, rfl⟩⟩
    · cases e).imp fun d e rv h => by
    cases d <;> cases e <;> first
      | (have h' : (none : Option RV) = some rv := h; cases h')
      | (simp only [dFdiv] at h
         simp only [inI]
         split at h
         · cases h; rename_i q; rw [if_pos q]; rfl
         · cases h)) ha hb
def dMod : D → D → Option RV
  | .int i, .int j => if 0 < j then some (.va (.int (i % j))) else none
  | _, _ => none
theorem e_mod (ha : SO X W a oa) (hb : SO X W b ob) : SE X W (.BinOp a .Mod b pos) (cOp dMod oa ob) :=
  e_bin op_mod ((okI (g := fun i j => if 0 < j then some (.int (i % j)) else none) fun i j d e => by
    split at e
    · rename_i c
      cases e
      exact ⟨c, rfl, .inl ⟨_, rfl⟩⟩
    · cases e).imp fun d e rv h => by
    cases d <;> cases e <;> first
      | (have h' : (none : Option RV) = some rv := h; cases h')
      | (simp only [dMod] at h
         simp only [inI]
         split at h
         · cases h; rename_i q; rw [if_pos q]; rfl
         · cases h)) ha hb
def dPow : D → D → Option RV
  | .int i, .int j => if 0 ≤ j ∧ j ≤ 1000000 ∧ i.natAbs < 2 ^ 64 then some (.va (.int (i ^ j.toNat))) else none
  | _, _ => none
theorem e_pow (ha : SO X W a oa) (hb : SO X W b ob) : SE X W (.BinOp a .Pow b pos) (cOp dPow oa ob) :=
  e_bin op_pow ((okI (g := fun i j => if 0 ≤ j ∧ j ≤ 1000000 ∧ i.natAbs < 2 ^ 64 then some (.int (i ^ j.toNat)) else none) fun i j d e => by
    split at e
    · rename_i c
      cases e
      exact ⟨c, rfl, .inl ⟨_, rfl⟩⟩
    · cases e).imp fun d e rv h => by
    cases d <;> cases e <;> first
      | (have h' : (none : Option RV) = some rv := h; cases h')
      | (simp only [dPow] at h
         simp only [inI]
         split at h
         · cases h; rename_i q; rw [if_pos q]; rfl
         · cases h)) ha hb
end
end RF

namespace RF
open PySem PySem.Spec PyProof.Rows L2

/-! ### comparisons -/
def CmpOk (X : Cx) (op : CmpOp) (g : D → D → Option RV) : Prop := ∃ r, OpR X (compareOp op) r ∧ OpOk X.K r g
section
variable {X : Cx} {W : WX} {pos : Pos} {a b c : Expr} {oa ob oc : Op} {op op' : CmpOp} {g g' : D → D → Option RV}
theorem e_cmp (k : CmpOk X op g) (ha : SO X W a oa) (hb : SO X W b ob) (hm : behindInMarks op b = false := by first | exact nomark _ | rfl) : SE X W (.Compare a [op] [b] pos) (cOp g oa ob) := by
  obtain ⟨r, ho, ok⟩ := k
  obtain ⟨ta, tb, p1, p2, s⟩ := two ha hb ok
  exact ⟨_, pe_cmpR ho p1 p2 hm, s⟩
def rEqM (K : PySem.W.Frag) : R2 := fun x y H Q => ∃ d e, Dp K H x d ∧ Dp K H y e ∧ d.canLay0 = true ∧ e.canLay0 = true ∧ min d.depth e.depth ≤ 64 ∧ Q (.bl (PyData.eqv d e)) H
def rNeM (K : PySem.W.Frag) : R2 := fun x y H Q => ∃ d e, Dp K H x d ∧ Dp K H y e ∧ d.canLay0 = true ∧ e.canLay0 = true ∧ min d.depth e.depth ≤ 64 ∧ Q (.bl (!PyData.eqv d e)) H
theorem op_eqM (hu : X.A.units + 64 < cLine) : OpR X (compareOp .Eq) (rEqM X.K) := by
  intro pins s σ H x y v u Q I rx ry h
  obtain ⟨d, e, hd, he, ld, le, hm, q⟩ := h
  obtain ⟨as, r1⟩ := Dp.reads I d x v hd rx
  obtain ⟨bs, r2⟩ := Dp.reads I e y u he ry
  exact SeqAt.compareEq_reads r1 r2 ld le (by omega) ⟨.bl _, H, I, rfl, q⟩
theorem op_neM (hu : X.A.units + 64 < cLine) : OpR X (compareOp .NotEq) (rNeM X.K) := by
  intro pins s σ H x y v u Q I rx ry h
  obtain ⟨d, e, hd, he, ld, le, hm, q⟩ := h
  obtain ⟨as, r1⟩ := Dp.reads I d x v hd rx
  obtain ⟨bs, r2⟩ := Dp.reads I e y u he ry
  exact SeqAt.compareNe_reads r1 r2 ld le (by omega) ⟨.bl _, H, I, rfl, q⟩
def gEq (neg : Bool) (d e : D) : Option RV := if plain d = true ∧ plain e = true ∧ min (dep d) (dep e) ≤ 64 then some (.va (.bl (if neg then !eqv d e else eqv d e))) else none
def dEq : D → D → Option RV
  | .int i, .int j => some (.va (.bl (i == j)))
  | .str i, .str j => some (.va (.bl (i == j)))
  | d, e => gEq false d e
def dNe : D → D → Option RV
  | .int i, .int j => some (.va (.bl (!(i == j))))
  | .str i, .str j => some (.va (.bl (!(i == j))))
  | d, e => gEq true d e
theorem dEq_g {d e : D} {rv : RV} (h : dEq d e = some rv) : gEq false d e = some rv := by
  cases d <;> cases e <;> first
    | exact h
    | (simp only [dEq] at h; cases h; simp [gEq, plain, dep, eqv])
theorem dNe_g {d e : D} {rv : RV} (h : dNe d e = some rv) : gEq true d e = some rv := by
  cases d <;> cases e <;> first
    | exact h
    | (simp only [dNe] at h; cases h; simp [gEq, plain, dep, eqv])
theorem okEq {K : PySem.W.Frag} : OpOk K (rEqM K) dEq := by
  intro B Z env σ H x y d e rv Q k rx ry hd q
  have h := dEq_g hd
  unfold gEq at h
  split at h
  · rename_i c
    cases h
    obtain ⟨p1, p2⟩ := RepT.dp hid_inc c.1 rx
    obtain ⟨p3, p4⟩ := RepT.dp hid_inc c.2.1 ry
    refine ⟨_, _, p1, p3, p2, p4, by rw [dep_eq, dep_eq]; exact c.2.2, ?_⟩
    rw [eqv_eq d e c.1 c.2.1]
    exact fin_va (d := .bl _) k rfl q
  · cases h
theorem okNe {K : PySem.W.Frag} : OpOk K (rNeM K) dNe := by
  intro B Z env σ H x y d e rv Q k rx ry hd q
  have h := dNe_g hd
  unfold gEq at h
  split at h
  · rename_i c
    cases h
    obtain ⟨p1, p2⟩ := RepT.dp hid_inc c.1 rx
    obtain ⟨p3, p4⟩ := RepT.dp hid_inc c.2.1 ry
    refine ⟨_, _, p1, p3, p2, p4, by rw [dep_eq, dep_eq]; exact c.2.2, ?_⟩
    rw [eqv_eq d e c.1 c.2.1]
    exact fin_va (d := .bl _) k rfl q
  · cases h
theorem k_eq (hu : X.A.units + 64 < cLine) : CmpOk X .Eq dEq := ⟨_, op_eqM hu, okEq⟩
theorem k_ne (hu : X.A.units + 64 < cLine) : CmpOk X .NotEq dNe := ⟨_, op_neM hu, okNe⟩
def gI (p : Int → Int → Bool) : D → D → Option RV
  | .int i, .int j => some (.va (.bl (p i j)))
  | _, _ => none
theorem okCI {K : PySem.W.Frag} (p : Int → Int → Bool) : OpOk K (rI0 fun i j => .bl (p i j)) (gI p) :=
  (okI0 (g := fun i j => some (.bl (p i j))) fun i j d e => by cases e; exact ⟨rfl, .inr ⟨_, rfl⟩⟩).imp fun d e rv h => by
    cases d <;> cases e <;> first | (have h' : (none : Option RV) = some rv := h; cases h') | exact h
def dLt : D → D → Option RV
  | .int i, .int j => some (.va (.bl (decide (i < j))))
  | .str i, .str j => some (.va (.bl (decide (i.cps.toList < j.cps.toList))))
  | _, _ => none
def gLtS : D → D → Option RV
  | .str i, .str j => some (.va (.bl (decide (i.cps.toList < j.cps.toList))))
  | _, _ => none
theorem okLtS {K : PySem.W.Frag} : OpOk K (fun x y H Q => ∃ i j, x = .str i ∧ y = .str j ∧ Q (.bl (decide (i.cps.toList < j.cps.toList))) H) gLtS := by
  intro B Z env σ H x y d e rv Q k rx ry hd q
  cases d with
  | str i =>
    cases e with
    | str j =>
      cases hd
      exact ⟨i, j, rx.1, ry.1, fin_va (d := .bl _) k rfl q⟩
    | _ => cases hd
  | _ => cases hd
theorem k_lt : CmpOk X .Lt dLt := ⟨_, op_lt.or op_lt_str, ((okCI fun i j => decide (i < j)).or okLtS).imp fun d e rv h => by
    cases d <;> cases e <;> first | (have h' : (none : Option RV) = some rv := h; cases h') | exact h⟩
def dLe : D → D → Option RV := gI fun i j => decide (i ≤ j)
def dGt : D → D → Option RV := gI fun i j => decide (j < i)
def dGe : D → D → Option RV := gI fun i j => decide (j ≤ i)
theorem k_le : CmpOk X .LtE dLe := ⟨_, op_le, okCI _⟩
theorem k_gt : CmpOk X .Gt dGt := ⟨_, op_gt, okCI _⟩
theorem k_ge : CmpOk X .GtE dGe := ⟨_, op_ge, okCI _⟩
/-! is -/
def isNon : D → Bool
  | .non => true
  | _ => false
def dIs (neg : Bool) : D → D → Option RV
  | d, .non => some (.va (.bl (if neg then !isNon d else isNon d)))
  | _, _ => none
theorem decNon {K : PySem.W.Frag} {H Hh : Hp} {d : D} {v : V} (h : RepT K H Hh d v) : decide (v = .non) = isNon d := by
  cases d with
  | non => rw [show v = V.non from h]; rfl
  | bl b => rw [show v = V.bl b from h]; rfl
  | int b => rw [show v = V.int b from h]; rfl
  | str b => rw [show v = V.str b from h.1]; rfl
  | tup b => obtain ⟨a, vs, rfl, _⟩ := h; rfl
  | lst b => obtain ⟨a, vs, rfl, _⟩ := h; rfl
  | rls b => obtain ⟨a, vs, rfl, _⟩ := h; rfl
  | dct b c => obtain ⟨a, vs, rfl, _⟩ := h; rfl
theorem k_is : CmpOk X .Is (dIs false) := ⟨_, op_isN, by
  intro B Z env σ H x y d e rv Q k rx ry hd q
  cases e with
  | non =>
    simp only [dIs] at hd
    cases hd
    refine ⟨ry, ?_⟩
    rw [decNon rx]
    exact fin_va (d := .bl _) k rfl q
  | _ => cases hd⟩
theorem k_isnot : CmpOk X .IsNot (dIs true) := ⟨_, op_notN, by
  intro B Z env σ H x y d e rv Q k rx ry hd q
  cases e with
  | non =>
    simp only [dIs] at hd
    cases hd
    refine ⟨ry, ?_⟩
    rw [decNon rx]
    exact fin_va (d := .bl _) k rfl q
  | _ => cases hd⟩
/-! in -/
def seqD : D → Option (List D)
  | .lst ds => some ds
  | .tup ds => some ds
  | .rls ds => some ds
  | _ => none
def inD (x : D) (ds : List D) : Bool := ds.any fun z => eqv z x
def strIn (i j : Str) : Bool := !(Builtin.Str.occurrences j i 0 j.length 1).isEmpty
def dIn (neg : Bool) : D → D → Option RV
  | .str i, .str j => some (.va (.bl (if neg then !strIn i j else strIn i j)))
  | x, y => match seqD y with
    | some ds => if plain x = true ∧ plainL ds = true ∧ min (depL ds) (dep x) ≤ 64 then some (.va (.bl (if neg then !inD x ds else inD x ds))) else none
    | none => none
def rInM (K : PySem.W.Frag) (neg : Bool) : R2 := fun x y H Q => ∃ d ds, Dp K H x d ∧ (Dp K H y (.list ds) ∨ Dp K H y (.tuple ds)) ∧ d.canLay0 = true ∧ PyData.canLayAll0 ds = true ∧ min (PyData.depthAll ds) d.depth ≤ 64 ∧ Q (.bl (if neg then !ds.any fun z => PyData.eqv z d else ds.any fun z => PyData.eqv z d)) H
theorem op_inM (hu : X.A.units + 65 < cLine) : OpR X (compareOp .In) (rInM X.K false) := by
  intro pins s σ H x y v u Q I rx ry h
  obtain ⟨d, ds, hd, he, ld, le, hm, q⟩ := h
  obtain ⟨as, r1⟩ := Dp.reads I d x v hd rx
  rcases he with he | he
  · obtain ⟨bs, r2⟩ := Dp.reads I _ y u he ry
    exact SeqAt.in_list_reads r2 r1 le ld (by omega) ⟨.bl _, H, I, rfl, q⟩
  · obtain ⟨bs, r2⟩ := Dp.reads I _ y u he ry
    exact SeqAt.in_tuple_reads r2 r1 le ld (by omega) ⟨.bl _, H, I, rfl, q⟩
theorem op_notInM (hu : X.A.units + 65 < cLine) : OpR X (compareOp .NotIn) (rInM X.K true) := by
  intro pins s σ H x y v u Q I rx ry h
  obtain ⟨d, ds, hd, he, ld, le, hm, q⟩ := h
  obtain ⟨as, r1⟩ := Dp.reads I d x v hd rx
  rcases he with he | he
  · obtain ⟨bs, r2⟩ := Dp.reads I _ y u he ry
    exact SeqAt.notIn_list_reads r2 r1 le ld (by omega) ⟨.bl _, H, I, rfl, q⟩
  · obtain ⟨bs, r2⟩ := Dp.reads I _ y u he ry
    exact SeqAt.notIn_tuple_reads r2 r1 le ld (by omega) ⟨.bl _, H, I, rfl, q⟩
theorem pydL_map : ∀ ds : List D, pydL ds = ds.map pyd
  | [] => rfl
  | d :: ds => by rw [pydL, List.map_cons, pydL_map ds]
theorem any_eqv {x : D} (hx : plain x = true) : ∀ ds : List D, plainL ds = true → ((pydL ds).any fun z => PyData.eqv z (pyd x)) = inD x ds
  | [], _ => by simp [pydL, inD]
  | d :: ds, h => by
    simp only [plainL, Bool.and_eq_true] at h
    have ih := any_eqv hx ds h.2
    unfold inD at ih ⊢
    rw [pydL, List.any_cons, List.any_cons, ih, eqv_eq d x h.1 hx]
theorem RepT.seq {K : PySem.W.Frag} {H Hh : Hp} (i : Inc Hh H) {d : D} {v : V} {ds : List D} (e : seqD d = some ds) (p : plainL ds = true) (h : RepT K H Hh d v) : (Dp K H v (.list (pydL ds)) ∨ Dp K H v (.tuple (pydL ds))) ∧ PyData.canLayAll0 (pydL ds) = true := by
  cases d with
  | lst es =>
    cases e
    obtain ⟨a, b⟩ := RepT.dp i (by simpa [plain] using p) h
    simp only [pyd, PyData.canLay0] at a b
    exact ⟨.inl a, b⟩
  | tup es =>
    cases e
    obtain ⟨a, b⟩ := RepT.dp i (by simpa [plain] using p) h
    simp only [pyd, PyData.canLay0] at a b
    exact ⟨.inr a, b⟩
  | rls es =>
    cases e
    obtain ⟨a, b⟩ := RepT.dp i (by simpa [plain] using p) h
    simp only [pyd, PyData.canLay0] at a b
    exact ⟨.inl a, b⟩
  | _ => cases e
def gInQ (neg : Bool) (x y : D) : Option RV := match seqD y with
    | some ds => if plain x = true ∧ plainL ds = true ∧ min (depL ds) (dep x) ≤ 64 then some (.va (.bl (if neg then !inD x ds else inD x ds))) else none
    | none => none
theorem okInQ {K : PySem.W.Frag} (neg : Bool) : OpOk K (rInM K neg) (gInQ neg) := by
  intro B Z env σ H x y d e rv Q k rx ry hd q
  unfold gInQ at hd
  cases he : seqD e with
  | none => rw [he] at hd; cases hd
  | some ds =>
    rw [he] at hd
    simp only at hd
    split at hd
    · rename_i c
      cases hd
      obtain ⟨p1, p2⟩ := RepT.dp hid_inc c.1 rx
      obtain ⟨p3, p4⟩ := RepT.seq hid_inc he c.2.1 ry
      refine ⟨_, _, p1, p3, p2, p4, by rw [depL_eq, dep_eq]; exact c.2.2, ?_⟩
      rw [any_eqv c.1 ds c.2.1]
      exact fin_va (d := .bl _) k rfl q
    · cases hd
def gInS (neg : Bool) : D → D → Option RV
  | .str i, .str j => some (.va (.bl (if neg then !strIn i j else strIn i j)))
  | _, _ => none
theorem k_in (hu : X.A.units + 65 < cLine) : CmpOk X .In (dIn false) := ⟨_, op_in_str.or (op_inM hu), (OpOk.or (f := gInS false) (by
  intro B Z env σ H x y d e rv Q k rx ry hd q
  cases d with
  | str i =>
    cases e with
    | str j =>
      cases hd
      exact ⟨i, j, rx.1, ry.1, fin_va (d := .bl _) k rfl q⟩
    | _ => cases hd
  | _ => cases hd) (okInQ false)).imp fun d e rv h => by
    cases d <;> cases e <;> exact h⟩
theorem k_notin (hu : X.A.units + 65 < cLine) : CmpOk X .NotIn (dIn true) := ⟨_, op_notin_str.or (op_notInM hu), (OpOk.or (f := gInS true) (by
  intro B Z env σ H x y d e rv Q k rx ry hd q
  cases d with
  | str i =>
    cases e with
    | str j =>
      cases hd
      exact ⟨i, j, rx.1, ry.1, fin_va (d := .bl _) k rfl q⟩
    | _ => cases hd
  | _ => cases hd) (okInQ true)).imp fun d e rv h => by
    cases d <;> cases e <;> exact h⟩
end

/-! ### tests -/
def TPost (K : PySem.W.Frag) (W : WX) (B : Hp) (Z : Addr → Prop) (env : Env) (σ : L2.St) (H : Hp) (r : R Bool) (Q : Bool → Hp → Prop) : Prop := match r with
  | .fail => False
  | .ok b env' => ∀ H', Ok K B H' Z env' σ → Fr H Z env σ H' Z env' σ → Q b H'
  | .ex x env' => ∀ c d H', Ok K B H' Z env' σ → Fr H Z env σ H' Z env' σ → XOk K (hid H' Z env' σ) x c d H' → W c d σ H'
def ST (X : Cx) (W : WX) (e : Expr) (f : M Bool) : Prop := ∃ t, PT X e t ∧ ∀ B Z env σ H Q, Ok X.K B H Z env σ → TPost X.K W B Z env σ H (f env) Q → t σ H Q
theorem TPost.since {K : PySem.W.Frag} {W : WX} {B H H1 : Hp} {Z : Addr → Prop} {env env1 : Env} {σ : L2.St} {r : R Bool} {Q : Bool → Hp → Prop} (f : Fr H Z env σ H1 Z env1 σ) (h : TPost K W B Z env σ H r Q) : TPost K W B Z env1 σ H1 r Q := by
  cases r with
  | fail => exact h
  | ex x ρ => exact fun c d H' k g q => h c d H' k (f.trans g) q
  | ok rv ρ => exact fun H' k g => h H' k (f.trans g)
def truthD : D → Option Bool
  | .non => some false
  | .bl b => some b
  | .int i => some (i != 0)
  | .str s => if s.length ≤ sizeLine then some ((s.length : Int) != 0) else none
  | .tup ds => some (!ds.isEmpty)
  | .lst ds => some (!ds.isEmpty)
  | .rls ds => some (!ds.isEmpty)
  | .dct ks _ => some (!ks.isEmpty)
theorem isEmpty_len {α β : Type} {xs : List α} {ys : List β} (h : xs.length = ys.length) : xs.isEmpty = ys.isEmpty := by
  cases xs <;> cases ys <;> first | rfl | (simp at h)
theorem RepT.tru {K : PySem.W.Frag} {H Hh : Hp} (i : Inc Hh H) {d : D} {v : V} {b : Bool} (e : truthD d = some b) (h : RepT K H Hh d v) : TruV K v H b := by
  cases d with
  | non => cases e; rw [show v = V.non from h]; rfl
  | bl b => cases e; rw [show v = V.bl b from h]; rfl
  | int b => cases e; rw [show v = V.int b from h]; rfl
  | str s =>
    rw [show v = V.str s from h.1]
    simp only [truthD] at e
    split at e
    · rename_i c
      cases e
      exact ⟨c, rfl⟩
    · cases e
  | tup ds =>
    cases e
    obtain ⟨a, vs, rfl, h1, h2⟩ := h
    exact .inr (.inl ⟨vs, Inc.st i h1, by rw [isEmpty_len h2.length]⟩)
  | lst ds =>
    cases e
    obtain ⟨a, vs, rfl, h1, h2⟩ := h
    exact .inl ⟨vs, .inl (.inl h1), by rw [isEmpty_len h2.length]⟩
  | rls ds =>
    cases e
    obtain ⟨a, vs, rfl, h1, h2⟩ := h
    exact .inl ⟨vs, Inc.sl i h1, by rw [isEmpty_len h2.length]⟩
  | dct ks ds =>
    cases e
    obtain ⟨a, kvs, rfl, h1, h2, h3⟩ := h
    refine .inr (.inr ⟨kvs, h1, ?_⟩)
    rw [← h2]
    cases kvs <;> rfl
/-- a value by its truth -/
def cT (o : Op) : M Bool := bnd (st1 o) fun x => fun ρ => opt ((fin1 o x ρ).bind truthD) ρ
theorem t_any {X : Cx} {W : WX} {e : Expr} {o : Op} (h : SO X W e o) (he : ∀ whole, isTrue e X.env whole = (do let v ← whole; standAt e.pos; holding [v] (truthy v)) := by intro _; rfl) : ST X W e (cT o) := by
  obtain ⟨t, p, s⟩ := h.run
  refine ⟨_, pt_truth p he, fun B Z env σ H Q k q => s B Z env σ H _ k ?_⟩
  unfold cT at q
  cases e1 : st1 o env with
  | fail => rw [bnd_fail e1] at q; exact q
  | ex x ρ => rw [bnd_ex e1] at q; exact q
  | ok x ρ =>
    rw [bnd_ok e1] at q
    intro v H1 k1 f1 p1
    cases e2 : fin1 o x ρ with
    | none => simp only [e2, Option.bind, opt, TPost] at q
    | some d =>
      cases e3 : truthD d with
      | none => simp only [e2, e3, Option.bind, opt, TPost] at q
      | some b =>
        simp only [e2, e3, Option.bind, opt] at q
        exact ⟨b, RepT.tru hid_inc e3 (p1.fin Fr.refl k1 e2), q H1 k1 f1⟩
/-- a comparison as a test -/
def cB (f : M RV) : M Bool := fun ρ => match f ρ with
  | .ok (.va (.bl b)) ρ' => .ok b ρ'
  | .ex x ρ' => .ex x ρ'
  | _ => .fail
theorem EPost.of_b {K : PySem.W.Frag} {W : WX} {B H : Hp} {Z : Addr → Prop} {env : Env} {σ : L2.St} {f : M RV} {Q : Bool → Hp → Prop} (h : TPost K W B Z env σ H (cB f env) Q) : EPost K W B Z env σ H (f env) fun x H' => ∃ k, x = .bl k ∧ Q k H' := by
  unfold cB at h
  cases e : f env with
  | fail => rw [e] at h; exact h
  | ex x ρ => rw [e] at h; exact h
  | ok rv ρ =>
    rw [e] at h
    cases rv with
    | ow o => exact h.elim
    | va d =>
      cases d with
      | bl b => exact fun v H' k f r => ⟨b, r, h H' k f⟩
      | _ => exact h.elim
theorem t_cmp {X : Cx} {W : WX} {pos : Pos} {a b : Expr} {oa ob : Op} {op : CmpOp} {g : D → D → Option RV} (k : CmpOk X op g) (ha : SO X W a oa) (hb : SO X W b ob) (hm : behindInMarks op b = false := by first | exact nomark _ | rfl) : ST X W (.Compare a [op] [b] pos) (cB (cOp g oa ob)) := by
  obtain ⟨r, ho, ok⟩ := k
  obtain ⟨ta, tb, p1, p2, s⟩ := two ha hb ok
  exact ⟨_, pt_cmpR ho p1 p2 hm, fun B Z env σ H Q k q => s B Z env σ H _ k (EPost.of_b q)⟩
def cNotT (f : M Bool) : M Bool := fun ρ => match f ρ with
  | .ok b ρ' => .ok (!b) ρ'
  | .ex x ρ' => .ex x ρ'
  | .fail => .fail
theorem t_not {X : Cx} {W : WX} {a : Expr} {f : M Bool} {pos : Pos} (h : ST X W a f) : ST X W (.UnaryOp .Not a pos) (cNotT f) := by
  obtain ⟨t, p, s⟩ := h
  refine ⟨_, pt_not p, fun B Z env σ H Q k q => s B Z env σ H _ k ?_⟩
  unfold cNotT at q
  cases e : f env with
  | fail => rw [e] at q; exact q
  | ex x ρ => rw [e] at q; exact q
  | ok b ρ => rw [e] at q; exact q
/-- and, or -/
def cAndT (f g : M Bool) : M Bool := bnd f fun b => if b then g else fun ρ => .ok false ρ
def cOrT (f g : M Bool) : M Bool := bnd f fun b => if b then fun ρ => .ok true ρ else g
def SW (X : Cx) (W : WX) (e : Expr) (f : M Bool) : Prop := ∃ t, PW X e t ∧ ∀ B Z env σ H Q, Ok X.K B H Z env σ → TPost X.K W B Z env σ H (f env) Q → t σ H Q
section
variable {X : Cx} {W : WX} {a b : Expr} {rest : List Expr} {f g : M Bool} {pos : Pos}
theorem SW.t {e : Expr} (h : SW X W e f) : ST X W e f := by
  obtain ⟨t, p, s⟩ := h
  exact ⟨t, p.pt, s⟩
theorem w_and1 (h : ST X W a f) : SW X W (.BoolOp .And [a] pos) f := by
  obtain ⟨t, p, s⟩ := h
  exact ⟨t, pw_and1 p, s⟩
theorem w_or1 (h : ST X W a f) : SW X W (.BoolOp .Or [a] pos) f := by
  obtain ⟨t, p, s⟩ := h
  exact ⟨t, pw_or1 p, s⟩
theorem w_and (h : ST X W a f) (h2 : SW X W (.BoolOp .And (b :: rest) pos) g) : SW X W (.BoolOp .And (a :: b :: rest) pos) (cAndT f g) := by
  obtain ⟨t, p, s⟩ := h
  obtain ⟨t2, p2, s2⟩ := h2
  refine ⟨_, pw_and p p2, fun B Z env σ H Q k q => s B Z env σ H _ k ?_⟩
  unfold cAndT at q
  cases e : f env with
  | fail => rw [bnd_fail e] at q; exact q
  | ex x ρ => rw [bnd_ex e] at q; exact q
  | ok x ρ =>
    rw [bnd_ok e] at q
    intro H1 k1 f1
    cases x with
    | true => exact s2 B Z ρ σ H1 Q k1 (TPost.since f1 q)
    | false => exact q H1 k1 f1
theorem w_or (h : ST X W a f) (h2 : SW X W (.BoolOp .Or (b :: rest) pos) g) : SW X W (.BoolOp .Or (a :: b :: rest) pos) (cOrT f g) := by
  obtain ⟨t, p, s⟩ := h
  obtain ⟨t2, p2, s2⟩ := h2
  refine ⟨_, pw_or p p2, fun B Z env σ H Q k q => s B Z env σ H _ k ?_⟩
  unfold cOrT at q
  cases e : f env with
  | fail => rw [bnd_fail e] at q; exact q
  | ex x ρ => rw [bnd_ex e] at q; exact q
  | ok x ρ =>
    rw [bnd_ok e] at q
    intro H1 k1 f1
    cases x with
    | true => exact q H1 k1 f1
    | false => exact s2 B Z ρ σ H1 Q k1 (TPost.since f1 q)
end
/-! as values -/
def cAndV (f g : M D) : M D := bnd f fun d => match truthD d with
  | some true => g
  | some false => fun ρ => .ok d ρ
  | none => fun _ => .fail
def cOrV (f g : M D) : M D := bnd f fun d => match truthD d with
  | some false => g
  | some true => fun ρ => .ok d ρ
  | none => fun _ => .fail
section
variable {X : Cx} {W : WX} {a b : Expr} {rest : List Expr} {f g : M D} {pos : Pos}
theorem d_one {op : BoolOp} (h : SD X W a f) : SD X W (.BoolOp op [a] pos) f := by
  obtain ⟨t, p, s⟩ := h
  exact ⟨t, pe_one p, s⟩
theorem d_and (h : SD X W a f) (h2 : SD X W (.BoolOp .And (b :: rest) pos) g) : SD X W (.BoolOp .And (a :: b :: rest) pos) (cAndV f g) := by
  obtain ⟨t, p, s⟩ := h
  obtain ⟨t2, p2, s2⟩ := h2
  refine ⟨_, pe_andT p p2, fun B Z env σ H Q k q => s B Z env σ H _ k ?_⟩
  unfold cAndV at q
  cases e : f env with
  | fail => rw [bnd_fail e] at q; exact q
  | ex x ρ => rw [bnd_ex e] at q; exact q
  | ok d ρ =>
    rw [bnd_ok e] at q
    intro v H1 k1 f1 r1
    cases e2 : truthD d with
    | none => rw [e2] at q; exact q.elim
    | some c =>
      rw [e2] at q
      refine ⟨c, RepT.tru hid_inc e2 (r1.t hid_inc), ?_⟩
      cases c with
      | true => exact s2 B Z ρ σ H1 Q k1 (DPost.since f1 q)
      | false => exact q v H1 k1 f1 r1
theorem d_or (h : SD X W a f) (h2 : SD X W (.BoolOp .Or (b :: rest) pos) g) : SD X W (.BoolOp .Or (a :: b :: rest) pos) (cOrV f g) := by
  obtain ⟨t, p, s⟩ := h
  obtain ⟨t2, p2, s2⟩ := h2
  refine ⟨_, pe_orT p p2, fun B Z env σ H Q k q => s B Z env σ H _ k ?_⟩
  unfold cOrV at q
  cases e : f env with
  | fail => rw [bnd_fail e] at q; exact q
  | ex x ρ => rw [bnd_ex e] at q; exact q
  | ok d ρ =>
    rw [bnd_ok e] at q
    intro v H1 k1 f1 r1
    cases e2 : truthD d with
    | none => rw [e2] at q; exact q.elim
    | some c =>
      rw [e2] at q
      refine ⟨c, RepT.tru hid_inc e2 (r1.t hid_inc), ?_⟩
      cases c with
      | false => exact s2 B Z ρ σ H1 Q k1 (DPost.since f1 q)
      | true => exact q v H1 k1 f1 r1
/-- not, as a value -/
def cNot (o : Op) : M RV := bnd (st1 o) fun x => fun ρ => opt (((fin1 o x ρ).bind truthD).map fun b => .va (.bl (!b))) ρ
theorem e_not {o : Op} (h : SO X W a o) : SE X W (.UnaryOp .Not a pos) (cNot o) := by
  obtain ⟨t, p, s⟩ := h.run
  refine ⟨_, pe_notT p, fun B Z env σ H Q k q => s B Z env σ H _ k ?_⟩
  unfold cNot at q
  cases e1 : st1 o env with
  | fail => rw [bnd_fail e1] at q; exact q
  | ex x ρ => rw [bnd_ex e1] at q; exact q
  | ok x ρ =>
    rw [bnd_ok e1] at q
    intro v H1 k1 f1 p1
    cases e2 : fin1 o x ρ with
    | none => simp only [e2, Option.bind, Option.map, opt, EPost] at q
    | some d =>
      cases e3 : truthD d with
      | none => simp only [e2, e3, Option.bind, Option.map, opt, EPost] at q
      | some b =>
        simp only [e2, e3, Option.bind, Option.map, opt] at q
        exact ⟨b, RepT.tru hid_inc e3 (p1.fin Fr.refl k1 e2), q _ H1 k1 f1 rfl⟩
/-- -x -/
def cNeg (o : Op) : M RV := bnd (st1 o) fun x => fun ρ => opt (match fin1 o x ρ with | some (.int i) => some (.va (.int (-i))) | _ => none) ρ
theorem e_neg {o : Op} (h : SO X W a o) : SE X W (.UnaryOp .USub a pos) (cNeg o) := by
  obtain ⟨t, p, s⟩ := h.run
  refine ⟨_, pe_un un_neg p, fun B Z env σ H Q k q => s B Z env σ H _ k ?_⟩
  unfold cNeg at q
  cases e1 : st1 o env with
  | fail => rw [bnd_fail e1] at q; exact q
  | ex x ρ => rw [bnd_ex e1] at q; exact q
  | ok x ρ =>
    rw [bnd_ok e1] at q
    intro v H1 k1 f1 p1
    cases e2 : fin1 o x ρ with
    | none => simp only [e2, opt, EPost] at q
    | some d =>
      cases d with
      | int i =>
        simp only [e2, opt] at q
        exact ⟨i, p1.fin Fr.refl k1 e2, q _ H1 k1 f1 rfl⟩
      | _ => simp only [e2, opt, EPost] at q
/-- a if t else b -/
def cIf {α : Type} (c : M Bool) (f g : M α) : M α := bnd c fun b => if b then f else g
theorem e_if {t : Expr} {c : M Bool} {f g : M RV} (hc : ST X W t c) (ha : SE X W a f) (hb : SE X W b g) : SE X W (.IfExp t a b pos) (cIf c f g) := by
  obtain ⟨tt, p, s⟩ := hc
  obtain ⟨t1, p1, s1⟩ := ha
  obtain ⟨t2, p2, s2⟩ := hb
  refine ⟨_, pe_ifExp p p1 p2, fun B Z env σ H Q k q => s B Z env σ H _ k ?_⟩
  unfold cIf at q
  cases e : c env with
  | fail => rw [bnd_fail e] at q; exact q
  | ex x ρ => rw [bnd_ex e] at q; exact q
  | ok d ρ =>
    rw [bnd_ok e] at q
    intro H1 k1 f1
    cases d with
    | true => exact s1 B Z ρ σ H1 Q k1 (EPost.since f1 q)
    | false => exact s2 B Z ρ σ H1 Q k1 (EPost.since f1 q)
end
end RF

namespace RF
open PySem PySem.Spec PyProof.Rows L2

/-! ### argument lists -/
def pre : List Op → M (List (Option D))
  | [] => fun ρ => .ok [] ρ
  | o :: os => bnd (st1 o) fun x => bnd (pre os) fun xs => fun ρ => .ok (x :: xs) ρ
def finL : List Op → List (Option D) → Env → Option (List D)
  | [], _, _ => some []
  | o :: os, x :: xs, ρ => match fin1 o x ρ, finL os xs ρ with
    | some d, some ds => some (d :: ds)
    | _, _ => none
  | _ :: _, [], _ => none
def PreL (K : PySem.W.Frag) (Hh : Hp) (σ : L2.St) : List V → List Op → List (Option D) → Prop
  | [], [], [] => True
  | v :: vs, o :: os, x :: xs => Pre1 K Hh σ v o x ∧ PreL K Hh σ vs os xs
  | _, _, _ => False
def RepTL (K : PySem.W.Frag) (H Hh : Hp) : List D → List V → Prop
  | [], vs => vs = []
  | d :: ds, vs => ∃ v r, vs = v :: r ∧ RepT K H Hh d v ∧ RepTL K H Hh ds r
theorem Pre1.later {K : PySem.W.Frag} {Hh Hh' : Hp} {σ : L2.St} {v : V} {o : Op} {x : Option D} (i : Inc Hh Hh') (p : Pre1 K Hh σ v o x) : Pre1 K Hh' σ v o x := by
  cases o with
  | lv i => exact p
  | ev f =>
    cases x with
    | none => exact p
    | some d => exact Rep.mono i d p
theorem PreL.fin {K : PySem.W.Frag} {B H : Hp} {Z : Addr → Prop} {env : Env} {σ : L2.St} (k : Ok K B H Z env σ) : ∀ {vs : List V} {os : List Op} {xs : List (Option D)} {ds : List D}, PreL K (hid H Z env σ) σ vs os xs → finL os xs env = some ds → RepTL K H (hid H Z env σ) ds vs
  | [], [], [], _, _, e => by cases e; rfl
  | v :: vs, o :: os, x :: xs, ds, ⟨p, q⟩, e => by
    simp only [finL] at e
    cases h1 : fin1 o x env with
    | none => rw [h1] at e; cases e
    | some d =>
      cases h2 : finL os xs env with
      | none => rw [h1, h2] at e; cases e
      | some r =>
        rw [h1, h2] at e
        cases e
        exact ⟨v, vs, rfl, p.fin Fr.refl k h1, PreL.fin k q h2⟩
  | [], [], _ :: _, _, p, _ => p.elim
  | [], _ :: _, _, _, p, _ => p.elim
  | _ :: _, [], _, _, p, _ => p.elim
  | _ :: _, _ :: _, [], _, p, _ => p.elim
def APost (K : PySem.W.Frag) (W : WX) (B : Hp) (Z : Addr → Prop) (env : Env) (σ : L2.St) (H : Hp) (os : List Op) (r : R (List (Option D))) (Q : List V → Hp → Prop) : Prop := match r with
  | .fail => False
  | .ok xs env' => ∀ vs H', Ok K B H' Z env' σ → Fr H Z env σ H' Z env' σ → PreL K (hid H' Z env' σ) σ vs os xs → Q vs H'
  | .ex x env' => ∀ c d H', Ok K B H' Z env' σ → Fr H Z env σ H' Z env' σ → XOk K (hid H' Z env' σ) x c d H' → W c d σ H'
def SA (X : Cx) (W : WX) (es : List Expr) (os : List Op) : Prop := ∃ ta, PA X es ta ∧ ∀ B Z env σ H Q, Ok X.K B H Z env σ → APost X.K W B Z env σ H os (pre os env) Q → ta σ H Q
theorem a_nil {X : Cx} {W : WX} : SA X W [] [] := ⟨_, pa_nil, fun B Z env σ H Q k q => q [] H k Fr.refl trivial⟩
theorem a_cons {X : Cx} {W : WX} {e : Expr} {es : List Expr} {o : Op} {os : List Op} (h : SO X W e o) (hr : SA X W es os) (hs : starEach (e :: es) X.env = (false, eval e X.env) :: starEach es X.env := by rfl) : SA X W (e :: es) (o :: os) := by
  obtain ⟨t, p, s⟩ := h.run
  obtain ⟨ta, pa, sa⟩ := hr
  refine ⟨_, pa_cons p pa hs, fun B Z env σ H Q k q => s B Z env σ H _ k ?_⟩
  simp only [pre] at q
  cases e1 : st1 o env with
  | fail => rw [bnd_fail e1] at q; exact q
  | ex x ρ => rw [bnd_ex e1] at q; exact q
  | ok x ρ =>
    rw [bnd_ok e1] at q
    intro v H1 k1 f1 p1
    refine sa B Z ρ σ H1 _ k1 ?_
    cases e2 : pre os ρ with
    | fail => rw [bnd_fail e2] at q; exact q
    | ex y ρ2 => rw [bnd_ex e2] at q; exact fun c d H' k' f' w => q c d H' k' (f1.trans f') w
    | ok xs ρ2 =>
      rw [bnd_ok e2] at q
      exact fun vs H2 k2 f2 p2 => q (v :: vs) H2 k2 (f1.trans f2) ⟨p1.later f2.inc, p2⟩
/-- built-ins by their values -/
def CallOk (K : PySem.W.Frag) (r : List V → Hp → VK → Prop) (g : List D → Option RV) : Prop := ∀ B Z env σ H vs ds rv (Q : VK), Ok K B H Z env σ → RepTL K H (hid H Z env σ) ds vs → g ds = some rv →
  (∀ v H', Ok K B H' (zx Z rv v) env σ → Fr H Z env σ H' (zx Z rv v) env σ → RvR K B Z (hid H' (zx Z rv v) env σ) H' rv v → Q v H') → r vs H Q
def cCB (g : List D → Option RV) (os : List Op) : M RV := bnd (pre os) fun xs => fun ρ => opt ((finL os xs ρ).bind g) ρ
theorem cb_run {X : Cx} {W : WX} {es : List Expr} {os : List Op} {r : List V → Hp → VK → Prop} {g : List D → Option RV} (ha : SA X W es os) (ok : CallOk X.K r g) :
    ∃ ta, PA X es ta ∧ ∀ B Z env σ H Q, Ok X.K B H Z env σ → EPost X.K W B Z env σ H (cCB g os env) Q → tCB r ta σ H Q := by
  obtain ⟨ta, pa, sa⟩ := ha
  refine ⟨ta, pa, fun B Z env σ H Q k q => sa B Z env σ H _ k ?_⟩
  unfold cCB at q
  cases e1 : pre os env with
  | fail => rw [bnd_fail e1] at q; exact q
  | ex x ρ => rw [bnd_ex e1] at q; exact q
  | ok xs ρ =>
    rw [bnd_ok e1] at q
    intro vs H1 k1 f1 p1
    cases e2 : finL os xs ρ with
    | none => simp only [e2, Option.bind, opt, EPost] at q
    | some ds =>
      cases e3 : g ds with
      | none => simp only [e2, e3, Option.bind, opt, EPost] at q
      | some rv =>
        simp only [e2, e3, Option.bind, opt] at q
        exact ok B Z ρ σ H1 vs ds rv Q k1 (p1.fin k1 e2) e3 fun v' H' k' f' r' => q v' H' k' (f1.trans f') r'
section
variable {X : Cx} {W : WX} {x : Str} {p pos : Pos} {e : Expr} {es : List Expr} {os : List Op} {r : List V → Hp → VK → Prop} {g : List D → Option RV} {id T : String}
theorem e_callB (hc : CallR X (.builtin id) r) (ok : CallOk X.K r g) (hv : bootBuiltins x = some (.builtin id)) (hm : X.mg x = none) (ha : SA X W (e :: es) os) (hg : Gl X x := by rfl) (hn : x ≠ "__name__" := by decide) (hdb : (x == ("__debug__" : Str)) = false := by decide)
    (he : starEach (e :: es) X.env = (false, eval e X.env) :: starEach es X.env := by rfl) (hpl : (backTo pos (starEach es X.env)).any (·.1) = false := by rfl) : SE X W (.Call (.Name x p) (e :: es) [] pos) (cCB g os) := by
  obtain ⟨ta, pa, s⟩ := cb_run ha ok
  exact ⟨_, pe_callB hc hg hm hv pa hn hdb he hpl, s⟩
theorem e_callTy (hc : CallR X (.type T) r) (ok : CallOk X.K r g) (hv : bootBuiltins x = some (.type T)) (hm : X.mg x = none) (ha : SA X W (e :: es) os) (hg : Gl X x := by rfl) (hn : x ≠ "__name__" := by decide) (hdb : (x == ("__debug__" : Str)) = false := by decide)
    (he : starEach (e :: es) X.env = (false, eval e X.env) :: starEach es X.env := by rfl) (hpl : (backTo pos (starEach es X.env)).any (·.1) = false := by rfl) : SE X W (.Call (.Name x p) (e :: es) [] pos) (cCB g os) := by
  obtain ⟨ta, pa, s⟩ := cb_run ha ok
  exact ⟨_, pe_callTy hc hg hm hv pa hn hdb he hpl, s⟩
end
/-! len, abs, int, list, tuple, all, any, sum, max, min -/
def dLen : List D → Option RV
  | [.tup ds] => some (.va (.int ds.length))
  | [.lst ds] => some (.va (.int ds.length))
  | [.rls ds] => some (.va (.int ds.length))
  | [.str s] => if s.length ≤ sizeLine then some (.va (.int s.length)) else none
  | _ => none
theorem RepTL.one {K : PySem.W.Frag} {H Hh : Hp} {d : D} {vs : List V} (h : RepTL K H Hh [d] vs) : ∃ v, vs = [v] ∧ RepT K H Hh d v := by
  obtain ⟨v, r, e, h1, h2⟩ := h
  rw [show r = [] from h2] at e
  exact ⟨v, e, h1⟩
theorem RepTL.two {K : PySem.W.Frag} {H Hh : Hp} {d e : D} {vs : List V} (h : RepTL K H Hh [d, e] vs) : ∃ v w, vs = [v, w] ∧ RepT K H Hh d v ∧ RepT K H Hh e w := by
  obtain ⟨v, r, q, h1, h2⟩ := h
  obtain ⟨w, rfl, h3⟩ := RepTL.one h2
  exact ⟨v, w, q, h1, h3⟩
/-- the seen list or tuple of a sequence -/
theorem RepT.sq {K : PySem.W.Frag} {H Hh : Hp} (i : Inc Hh H) {d : D} {v : V} {ds : List D} (e : seqD d = some ds) (h : RepT K H Hh d v) : ∃ a vs, v = .ref a ∧ (SqL K H a vs ∨ SqT K H a vs) ∧ RepL K Hh ds vs := by
  cases d with
  | lst es => cases e; obtain ⟨a, vs, h1, h2, h3⟩ := h; exact ⟨a, vs, h1, .inl (.inl (.inl h2)), h3⟩
  | rls es => cases e; obtain ⟨a, vs, h1, h2, h3⟩ := h; exact ⟨a, vs, h1, .inl (Inc.sl i h2), h3⟩
  | tup es => cases e; obtain ⟨a, vs, h1, h2, h3⟩ := h; exact ⟨a, vs, h1, .inr (Inc.st i h2), h3⟩
  | _ => cases e
theorem okLen {K : PySem.W.Frag} : CallOk K (fun xs H Q => ∃ x n, xs = [x] ∧ LenV K x H n ∧ Q (.int n) H) dLen := by
  intro B Z env σ H vs ds rv Q k rs hd q
  match ds, hd with
  | [.str s], hd =>
    obtain ⟨v, rfl, h⟩ := rs.one
    simp only [dLen] at hd
    split at hd
    · rename_i c
      cases hd
      refine ⟨v, s.length, rfl, ?_, fin_va (d := .int _) k rfl q⟩
      rw [show v = V.str s from h.1]
      exact ⟨c, rfl⟩
    · cases hd
  | [.lst es], hd =>
    obtain ⟨v, rfl, h⟩ := rs.one
    cases hd
    obtain ⟨a, ws, rfl, hs, hl⟩ := RepT.sq hid_inc (ds := es) rfl h
    exact ⟨_, es.length, rfl, by rw [← hl.length]; exact hs.imp (fun z => ⟨ws, z, rfl⟩) fun z => ⟨ws, z, rfl⟩, fin_va (d := .int _) k rfl q⟩
  | [.tup es], hd =>
    obtain ⟨v, rfl, h⟩ := rs.one
    cases hd
    obtain ⟨a, ws, rfl, hs, hl⟩ := RepT.sq hid_inc (ds := es) rfl h
    exact ⟨_, es.length, rfl, by rw [← hl.length]; exact hs.imp (fun z => ⟨ws, z, rfl⟩) fun z => ⟨ws, z, rfl⟩, fin_va (d := .int _) k rfl q⟩
  | [.rls es], hd =>
    obtain ⟨v, rfl, h⟩ := rs.one
    cases hd
    obtain ⟨a, ws, rfl, hs, hl⟩ := RepT.sq hid_inc (ds := es) rfl h
    exact ⟨_, es.length, rfl, by rw [← hl.length]; exact hs.imp (fun z => ⟨ws, z, rfl⟩) fun z => ⟨ws, z, rfl⟩, fin_va (d := .int _) k rfl q⟩
def dAbs : List D → Option RV
  | [.int i] => some (.va (.int (if i < 0 then -i else i)))
  | _ => none
theorem okAbs {K : PySem.W.Frag} : CallOk K (fun xs H Q => ∃ i, xs = [.int i] ∧ Q (.int (if i < 0 then -i else i)) H) dAbs := by
  intro B Z env σ H vs ds rv Q k rs hd q
  match ds, hd with
  | [.int i], hd =>
    obtain ⟨v, rfl, h⟩ := rs.one
    cases hd
    exact ⟨i, by rw [show v = V.int i from h], fin_va (d := .int _) k rfl q⟩
def dInt : List D → Option RV
  | [.int i] => some (.va (.int i))
  | [.bl b] => some (.va (.int (if b then 1 else 0)))
  | _ => none
theorem okInt {K : PySem.W.Frag} : CallOk K (fun xs H Q => (∃ i, xs = [.int i] ∧ Q (.int i) H) ∨ ∃ k, xs = [.bl k] ∧ Q (.int (if k then 1 else 0)) H) dInt := by
  intro B Z env σ H vs ds rv Q k rs hd q
  match ds, hd with
  | [.int i], hd =>
    obtain ⟨v, rfl, h⟩ := rs.one
    cases hd
    exact .inl ⟨i, by rw [show v = V.int i from h], fin_va (d := .int _) k rfl q⟩
  | [.bl b], hd =>
    obtain ⟨v, rfl, h⟩ := rs.one
    cases hd
    exact .inr ⟨b, by rw [show v = V.bl b from h], fin_va (d := .int _) k rfl q⟩
def dList : List D → Option RV
  | [d] => (seqD d).map fun ds => .ow (.lst ds)
  | _ => none
theorem okList {K : PySem.W.Frag} : CallOk K (fun xs H Q => ∃ p ys, xs = [.ref p] ∧ (SqL K H p ys ∨ SqT K H p ys) ∧ ∀ l, H l = none → Q (.ref l) (upd H l (.lst ys))) dList := by
  intro B Z env σ H vs ds rv Q k rs hd q
  match ds, hd with
  | [d], hd =>
    obtain ⟨v, rfl, h⟩ := rs.one
    cases e : seqD d with
    | none => simp [dList, e] at hd
    | some es =>
      simp only [dList, e, Option.map] at hd
      cases hd
      obtain ⟨a, ws, rfl, hs, hl⟩ := RepT.sq hid_inc e h
      exact ⟨a, ws, rfl, hs, fin_lst k hl q⟩
def dTup : List D → Option RV
  | [d] => (seqD d).map fun ds => .va (.tup ds)
  | _ => none
theorem okTup {K : PySem.W.Frag} : CallOk K (fun xs H Q => ∃ p ys, xs = [.ref p] ∧ ((SqL K H p ys ∧ ∀ l, H l = none → Q (.ref l) (upd H l (.tup ys))) ∨ (SqT K H p ys ∧ Q (.ref p) H))) dTup := by
  intro B Z env σ H vs ds rv Q k rs hd q
  match ds, hd with
  | [d], hd =>
    obtain ⟨v, rfl, h⟩ := rs.one
    cases d with
    | lst es =>
      cases hd
      obtain ⟨a, ws, rfl, hs, hl⟩ := h
      exact ⟨a, ws, rfl, .inl ⟨.inl (.inl hs), fin_tup k hl q⟩⟩
    | rls es =>
      cases hd
      obtain ⟨a, ws, rfl, hs, hl⟩ := h
      exact ⟨a, ws, rfl, .inl ⟨Inc.sl hid_inc hs, fin_tup k hl q⟩⟩
    | tup es =>
      cases hd
      obtain ⟨a, ws, rfl, hs, hl⟩ := id h
      exact ⟨a, ws, rfl, .inr ⟨Inc.st hid_inc hs, fin_va (d := .tup es) k h q⟩⟩
    | _ => cases hd
def boolsD : List D → Option (List Bool)
  | [] => some []
  | .bl b :: ds => (boolsD ds).map (b :: ·)
  | _ :: _ => none
def intsD : List D → Option (List Int)
  | [] => some []
  | .int b :: ds => (intsD ds).map (b :: ·)
  | _ :: _ => none
theorem RepL.bools {K : PySem.W.Frag} {H : Hp} : ∀ {ds : List D} {vs : List V} {bs : List Bool}, RepL K H ds vs → boolsD ds = some bs → vs = bs.map V.bl
  | [], _, _, h, e => by cases e; exact h
  | .bl b :: ds, _, _, ⟨v, r, e0, h, t⟩, e => by
    simp only [boolsD] at e
    cases e1 : boolsD ds with
    | none => rw [e1] at e; cases e
    | some cs =>
      rw [e1] at e
      cases e
      rw [e0, List.map_cons, RepL.bools t e1, show v = V.bl b from h]
  | .int _ :: _, _, _, _, e | .str _ :: _, _, _, _, e | .non :: _, _, _, _, e | .tup _ :: _, _, _, _, e | .lst _ :: _, _, _, _, e | .rls _ :: _, _, _, _, e | .dct _ _ :: _, _, _, _, e => by cases e
theorem RepL.intsOf {K : PySem.W.Frag} {H : Hp} : ∀ {ds : List D} {vs : List V} {bs : List Int}, RepL K H ds vs → intsD ds = some bs → vs = bs.map V.int
  | [], _, _, h, e => by cases e; exact h
  | .int b :: ds, _, _, ⟨v, r, e0, h, t⟩, e => by
    simp only [intsD] at e
    cases e1 : intsD ds with
    | none => rw [e1] at e; cases e
    | some cs =>
      rw [e1] at e
      cases e
      rw [e0, List.map_cons, RepL.intsOf t e1, show v = V.int b from h]
  | .bl _ :: _, _, _, _, e | .str _ :: _, _, _, _, e | .non :: _, _, _, _, e | .tup _ :: _, _, _, _, e | .lst _ :: _, _, _, _, e | .rls _ :: _, _, _, _, e | .dct _ _ :: _, _, _, _, e => by cases e
def dAll : List D → Option RV
  | [.lst ds] => (boolsD ds).map fun bs => .va (.bl (bs.all id))
  | _ => none
def dAny : List D → Option RV
  | [.lst ds] => (boolsD ds).map fun bs => .va (.bl (bs.any id))
  | _ => none
def dSum : List D → Option RV
  | [.lst ds] => (intsD ds).map fun bs => .va (.int bs.sum)
  | _ => none
theorem okAll {K : PySem.W.Frag} : CallOk K (rAll K) dAll := by
  intro B Z env σ H vs ds rv Q k rs hd q
  match ds, hd with
  | [.lst es], hd =>
    obtain ⟨v, rfl, h⟩ := rs.one
    cases e : boolsD es with
    | none => simp [dAll, e] at hd
    | some bs =>
      simp only [dAll, e, Option.map] at hd
      cases hd
      obtain ⟨a, ws, rfl, hs, hl⟩ := h
      exact ⟨a, bs, rfl, by rw [← RepL.bools hl e]; exact .inl (.inl hs), fin_va (d := .bl _) k rfl q⟩
theorem okAny {K : PySem.W.Frag} : CallOk K (rAny K) dAny := by
  intro B Z env σ H vs ds rv Q k rs hd q
  match ds, hd with
  | [.lst es], hd =>
    obtain ⟨v, rfl, h⟩ := rs.one
    cases e : boolsD es with
    | none => simp [dAny, e] at hd
    | some bs =>
      simp only [dAny, e, Option.map] at hd
      cases hd
      obtain ⟨a, ws, rfl, hs, hl⟩ := h
      exact ⟨a, bs, rfl, by rw [← RepL.bools hl e]; exact .inl (.inl hs), fin_va (d := .bl _) k rfl q⟩
theorem okSum {K : PySem.W.Frag} : CallOk K (rSum K) dSum := by
  intro B Z env σ H vs ds rv Q k rs hd q
  match ds, hd with
  | [.lst es], hd =>
    obtain ⟨v, rfl, h⟩ := rs.one
    cases e : intsD es with
    | none => simp [dSum, e] at hd
    | some bs =>
      simp only [dSum, e, Option.map] at hd
      cases hd
      obtain ⟨a, ws, rfl, hs, hl⟩ := h
      exact ⟨a, bs, rfl, by rw [← RepL.intsOf hl e]; exact .inl (.inl hs), fin_va (d := .int _) k rfl q⟩
def dMax2 : List D → Option RV
  | [.int i, .int j] => some (.va (.int (if j > i then j else i)))
  | _ => none
def dMin2 : List D → Option RV
  | [.int i, .int j] => some (.va (.int (if j < i then j else i)))
  | _ => none
theorem okMax2 {K : PySem.W.Frag} : CallOk K (fun xs H Q => ∃ i j, xs = [.int i, .int j] ∧ Q (.int (if j > i then j else i)) H) dMax2 := by
  intro B Z env σ H vs ds rv Q k rs hd q
  match ds, hd with
  | [.int i, .int j], hd =>
    obtain ⟨v, w, rfl, h, h2⟩ := rs.two
    cases hd
    exact ⟨i, j, by rw [show v = V.int i from h, show w = V.int j from h2], fin_va (d := .int _) k rfl q⟩
theorem okMin2 {K : PySem.W.Frag} : CallOk K (fun xs H Q => ∃ i j, xs = [.int i, .int j] ∧ Q (.int (if j < i then j else i)) H) dMin2 := by
  intro B Z env σ H vs ds rv Q k rs hd q
  match ds, hd with
  | [.int i, .int j], hd =>
    obtain ⟨v, w, rfl, h, h2⟩ := rs.two
    cases hd
    exact ⟨i, j, by rw [show v = V.int i from h, show w = V.int j from h2], fin_va (d := .int _) k rfl q⟩
section
variable {X : Cx} {W : WX} {p pos : Pos} {a b : Expr} {oa ob : Op}
abbrev Na (e : Expr) (X : Cx) : Prop := starEach [e] X.env = (false, eval e X.env) :: starEach [] X.env
theorem e_len (hm : X.mg "len" = none) (ha : SO X W a oa) (hg : Gl X "len" := by rfl) (hs : Na a X := by rfl) : SE X W (.Call (.Name "len" p) [a] [] pos) (cCB dLen [oa]) :=
  e_callB call_len okLen PySem.boot_len hm (a_cons ha a_nil hs) hg (by decide) (by decide) hs rfl
theorem e_abs (hm : X.mg "abs" = none) (ha : SO X W a oa) (hg : Gl X "abs" := by rfl) (hs : Na a X := by rfl) : SE X W (.Call (.Name "abs" p) [a] [] pos) (cCB dAbs [oa]) :=
  e_callB call_abs okAbs (by decide +kernel) hm (a_cons ha a_nil hs) hg (by decide) (by decide) hs rfl
theorem e_intc (hm : X.mg "int" = none) (ha : SO X W a oa) (hg : Gl X "int" := by rfl) (hs : Na a X := by rfl) : SE X W (.Call (.Name "int" p) [a] [] pos) (cCB dInt [oa]) :=
  e_callTy call_int1 okInt (by decide +kernel) hm (a_cons ha a_nil hs) hg (by decide) (by decide) hs rfl
theorem e_list (hm : X.mg "list" = none) (ha : SO X W a oa) (hg : Gl X "list" := by rfl) (hs : Na a X := by rfl) : SE X W (.Call (.Name "list" p) [a] [] pos) (cCB dList [oa]) :=
  e_callTy call_list_of okList (by decide +kernel) hm (a_cons ha a_nil hs) hg (by decide) (by decide) hs rfl
theorem e_tuple (hm : X.mg "tuple" = none) (ha : SO X W a oa) (hg : Gl X "tuple" := by rfl) (hs : Na a X := by rfl) : SE X W (.Call (.Name "tuple" p) [a] [] pos) (cCB dTup [oa]) :=
  e_callTy call_tuple_of okTup (by decide +kernel) hm (a_cons ha a_nil hs) hg (by decide) (by decide) hs rfl
theorem e_all (hm : X.mg "all" = none) (ha : SO X W a oa) (hc : X.calm = true := by rfl) (hg : Gl X "all" := by rfl) (hs : Na a X := by rfl) : SE X W (.Call (.Name "all" p) [a] [] pos) (cCB dAll [oa]) :=
  e_callB (cr_all hc) okAll (by decide +kernel) hm (a_cons ha a_nil hs) hg (by decide) (by decide) hs rfl
theorem e_any (hm : X.mg "any" = none) (ha : SO X W a oa) (hc : X.calm = true := by rfl) (hg : Gl X "any" := by rfl) (hs : Na a X := by rfl) : SE X W (.Call (.Name "any" p) [a] [] pos) (cCB dAny [oa]) :=
  e_callB (cr_any hc) okAny (by decide +kernel) hm (a_cons ha a_nil hs) hg (by decide) (by decide) hs rfl
theorem e_sum (hm : X.mg "sum" = none) (ha : SO X W a oa) (hc : X.calm = true := by rfl) (hg : Gl X "sum" := by rfl) (hs : Na a X := by rfl) : SE X W (.Call (.Name "sum" p) [a] [] pos) (cCB dSum [oa]) :=
  e_callB (cr_sum hc) okSum (by decide +kernel) hm (a_cons ha a_nil hs) hg (by decide) (by decide) hs rfl
theorem e_max2 (hm : X.mg "max" = none) (ha : SO X W a oa) (hb : SO X W b ob) (hc : X.calm = true := by rfl) (hg : Gl X "max" := by rfl) (hs : starEach [a, b] X.env = (false, eval a X.env) :: starEach [b] X.env := by rfl) (hs2 : Na b X := by rfl) : SE X W (.Call (.Name "max" p) [a, b] [] pos) (cCB dMax2 [oa, ob]) :=
  e_callB (call_max2 hc) okMax2 (by decide +kernel) hm (a_cons ha (a_cons hb a_nil hs2) hs) hg (by decide) (by decide) hs (by rw [hs2]; rfl)
theorem e_min2 (hm : X.mg "min" = none) (ha : SO X W a oa) (hb : SO X W b ob) (hc : X.calm = true := by rfl) (hg : Gl X "min" := by rfl) (hs : starEach [a, b] X.env = (false, eval a X.env) :: starEach [b] X.env := by rfl) (hs2 : Na b X := by rfl) : SE X W (.Call (.Name "min" p) [a, b] [] pos) (cCB dMin2 [oa, ob]) :=
  e_callB (call_min2 hc) okMin2 (by decide +kernel) hm (a_cons ha (a_cons hb a_nil hs2) hs) hg (by decide) (by decide) hs (by rw [hs2]; rfl)
end
/-! ### isinstance against a built-in type -/
def tyD : D → Option String
  | .non => some "NoneType"
  | .bl _ => some "bool"
  | .int _ => some "int"
  | .str _ => some "str"
  | .tup _ => some "tuple"
  | .lst _ => some "list"
  | .rls _ => some "list"
  | .dct _ _ => some "dict"
theorem RepT.ty {K : PySem.W.Frag} {H Hh : Hp} (i : Inc Hh H) {d : D} {v : V} {n : String} (e : tyD d = some n) (h : RepT K H Hh d v) : TyX K H v (.type n) := by
  cases d with
  | non => cases e; rw [show v = V.non from h]; exact .base .non
  | bl b => cases e; rw [show v = V.bl b from h]; exact .base (.bl b)
  | int b => cases e; rw [show v = V.int b from h]; exact .base (.int b)
  | str b => cases e; rw [show v = V.str b from h.1]; exact .base (.str b)
  | tup ds =>
    cases e
    obtain ⟨a, vs, rfl, h1, h2⟩ := h
    rcases Inc.st i h1 with (h1 | ⟨o, h1⟩) | ⟨o, its, n, hk, hc, _⟩
    · exact .base (.tup h1)
    · exact .fTuple h1
    · exact .kTuple hk hc
  | lst ds => cases e; obtain ⟨a, vs, rfl, h1, h2⟩ := h; exact .base (.lst h1)
  | rls ds =>
    cases e
    obtain ⟨a, vs, rfl, h1, h2⟩ := h
    rcases Inc.sl i h1 with (h1 | ⟨o, h1⟩) | ⟨o, its, n, hk, hc, _⟩
    · exact .base (.lst h1)
    · exact .base (.frz h1)
    · exact .kList hk hc
  | dct ks ds => cases e; obtain ⟨a, vs, rfl, h1, h2⟩ := h; exact .base (.dK h1)
def dIsi (T : String) : D → Option RV := fun d => ((tyD d).bind fun n => kitB n T).map fun b => .va (.bl b)
def cIsi (T : String) (o : Op) : M RV := bnd (st1 o) fun x => fun ρ => opt ((fin1 o x ρ).bind (dIsi T)) ρ
theorem e_isi {X : Cx} {W : WX} {p p2 pos : Pos} {a : Expr} {oa : Op} {T : String} {y : Str} (hm : X.mg "isinstance" = none) (hm2 : X.mg y = none) (ha : SO X W a oa) (hv : bootBuiltins y = some (.type T) := by decide +kernel) (hg : Gl X "isinstance" := by rfl) (hg2 : Gl X y := by rfl)
    (hn : y ≠ "__name__" := by decide) (hdb : (y == ("__debug__" : Str)) = false := by decide)
    (hs : starEach [a, .Name y p2] X.env = (false, eval a X.env) :: starEach [.Name y p2] X.env := by rfl) : SE X W (.Call (.Name "isinstance" p) [a, .Name y p2] [] pos) (cIsi T oa) := by
  obtain ⟨t, pt, s⟩ := ha.run
  have pn : PE X (.Name y p2) (tC (.ty T)) := pe_bltn hg2 hm2 hv rfl hn hdb
  refine ⟨_, pe_callB call_isi hg hm (by decide +kernel) (pa_cons pt (pa_cons pn pa_nil rfl) hs) (by decide) (by decide) hs rfl, fun B Z env σ H Q k q => s B Z env σ H _ k ?_⟩
  unfold cIsi at q
  cases e1 : st1 oa env with
  | fail => rw [bnd_fail e1] at q; exact q
  | ex x ρ => rw [bnd_ex e1] at q; exact q
  | ok x ρ =>
    rw [bnd_ok e1] at q
    intro v H1 k1 f1 p1
    cases e2 : fin1 oa x ρ with
    | none => simp only [e2, Option.bind, opt, EPost] at q
    | some d =>
      cases e3 : tyD d with
      | none => simp only [e2, dIsi, e3, Option.bind, Option.map, opt, EPost] at q
      | some n =>
        cases e4 : kitB n T with
        | none => simp only [e2, dIsi, e3, e4, Option.bind, Option.map, opt, EPost] at q
        | some b =>
          simp only [e2, dIsi, e3, e4, Option.bind, Option.map, opt] at q
          exact ⟨v, .ty T, .type n, .type T, b, rfl, .ty T, RepT.ty hid_inc e3 (p1.fin Fr.refl k1 e2), kit_ty e4, q _ H1 k1 f1 rfl⟩
end RF

namespace RF
open PySem PySem.Spec PyProof.Rows L2

/-! ### displays -/
def evs : List (M D) → M (List D)
  | [] => fun ρ => .ok [] ρ
  | f :: fs => bnd f fun d => bnd (evs fs) fun ds => fun ρ => .ok (d :: ds) ρ
def LPost (K : PySem.W.Frag) (W : WX) (B : Hp) (Z : Addr → Prop) (env : Env) (σ : L2.St) (H : Hp) (r : R (List D)) (Q : List V → Hp → Prop) : Prop := match r with
  | .fail => False
  | .ok ds env' => ∀ vs H', Ok K B H' Z env' σ → Fr H Z env σ H' Z env' σ → RepL K (hid H' Z env' σ) ds vs → Q vs H'
  | .ex x env' => ∀ c d H', Ok K B H' Z env' σ → Fr H Z env σ H' Z env' σ → XOk K (hid H' Z env' σ) x c d H' → W c d σ H'
def SL (X : Cx) (W : WX) (es : List Expr) (fs : List (M D)) : Prop := ∃ ta, PA X es ta ∧ ∀ B Z env σ H Q, Ok X.K B H Z env σ → LPost X.K W B Z env σ H (evs fs env) Q → ta σ H Q
theorem l_nil {X : Cx} {W : WX} : SL X W [] [] := ⟨_, pa_nil, fun B Z env σ H Q k q => q [] H k Fr.refl rfl⟩
theorem l_cons {X : Cx} {W : WX} {e : Expr} {es : List Expr} {f : M D} {fs : List (M D)} (h : SD X W e f) (hr : SL X W es fs) (hs : starEach (e :: es) X.env = (false, eval e X.env) :: starEach es X.env := by rfl) : SL X W (e :: es) (f :: fs) := by
  obtain ⟨t, p, s⟩ := h
  obtain ⟨ta, pa, sa⟩ := hr
  refine ⟨_, pa_cons p pa hs, fun B Z env σ H Q k q => s B Z env σ H _ k ?_⟩
  simp only [evs] at q
  cases e1 : f env with
  | fail => rw [bnd_fail e1] at q; exact q
  | ex x ρ => rw [bnd_ex e1] at q; exact q
  | ok x ρ =>
    rw [bnd_ok e1] at q
    intro v H1 k1 f1 p1
    refine sa B Z ρ σ H1 _ k1 ?_
    cases e2 : evs fs ρ with
    | fail => rw [bnd_fail e2] at q; exact q
    | ex y ρ2 => rw [bnd_ex e2] at q; exact fun c d H' k' f' w => q c d H' k' (f1.trans f') w
    | ok xs ρ2 =>
      rw [bnd_ok e2] at q
      exact fun vs H2 k2 f2 p2 => q (v :: vs) H2 k2 (f1.trans f2) (RepL.cons (p1.mono f2.inc) p2)
def cTup (fs : List (M D)) : M RV := bnd (evs fs) fun ds => fun ρ => .ok (.va (.tup ds)) ρ
def cLst (fs : List (M D)) : M RV := bnd (evs fs) fun ds => fun ρ => .ok (.ow (.lst ds)) ρ
theorem evs_len : ∀ {fs : List (M D)} {ρ ρ' : Env} {ds : List D}, evs fs ρ = .ok ds ρ' → ds.length = fs.length
  | [], _, _, _, h => by cases h; rfl
  | f :: fs, ρ, _, _, h => by
    simp only [evs] at h
    cases e1 : f ρ with
    | fail => rw [bnd_fail e1] at h; cases h
    | ex x ρ1 => rw [bnd_ex e1] at h; cases h
    | ok d ρ1 =>
      rw [bnd_ok e1] at h
      cases e2 : evs fs ρ1 with
      | fail => rw [bnd_fail e2] at h; cases h
      | ex x ρ2 => rw [bnd_ex e2] at h; cases h
      | ok r ρ2 =>
        rw [bnd_ok e2] at h
        cases h
        rw [List.length_cons, List.length_cons, evs_len e2]
section
variable {X : Cx} {W : WX} {pos : Pos} {es : List Expr} {fs : List (M D)}
theorem e_tup {k : Nat} (h : SL X W es fs) (hl : fs.length ≤ sizeLine := by decide) : SE X W (.Tuple es k pos) (cTup fs) := by
  obtain ⟨t, p, s⟩ := h
  refine ⟨_, pe_tup p, fun B Z env σ H Q k q => s B Z env σ H _ k ?_⟩
  unfold cTup at q
  cases e1 : evs fs env with
  | fail => rw [bnd_fail e1] at q; exact q
  | ex x ρ => rw [bnd_ex e1] at q; exact q
  | ok ds ρ =>
    rw [bnd_ok e1] at q
    intro vs H1 k1 f1 r1
    exact ⟨by rw [r1.length, evs_len e1]; exact hl, fin_tup k1 r1 fun v H' k' f' r' => q v H' k' (f1.trans f') r'⟩
theorem e_lst (h : SL X W es fs) (hl : fs.length ≤ sizeLine := by decide) : SE X W (.List es pos) (cLst fs) := by
  obtain ⟨t, p, s⟩ := h
  refine ⟨_, pe_lst p, fun B Z env σ H Q k q => s B Z env σ H _ k ?_⟩
  unfold cLst at q
  cases e1 : evs fs env with
  | fail => rw [bnd_fail e1] at q; exact q
  | ex x ρ => rw [bnd_ex e1] at q; exact q
  | ok ds ρ =>
    rw [bnd_ok e1] at q
    intro vs H1 k1 f1 r1
    exact ⟨by rw [r1.length, evs_len e1]; exact hl, fin_lst k1 r1 fun v H' k' f' r' => q v H' k' (f1.trans f') r'⟩
end
/-! ### a[i] -/
def chD (c : Nat) : D := .str ⟨#[c]⟩
def dIx : D → D → Option RV
  | .lst ds, .int i => (atI ds i).map .va
  | .tup ds, .int i => (atI ds i).map .va
  | .rls ds, .int i => (atI ds i).map .va
  | .str s, .int i => if s.length ≤ sizeLine then (atI s.cps.toList i).map fun c => .va (chD c) else none
  | _, _ => none
theorem RepL.at {K : PySem.W.Frag} {H : Hp} {ds : List D} {vs : List V} {i : Int} {d : D} (h : RepL K H ds vs) (e : atI ds i = some d) : ∃ v, atI vs i = some v ∧ Rep K H d v := by
  unfold atI at e ⊢
  rw [h.length]
  cases q : ixN ds.length i with
  | none => rw [q] at e; cases e
  | some j =>
    rw [q] at e
    exact h.get (show ds[j]? = some d from e)
theorem strOk_ch {s : Str} {i : Int} {c : Nat} (h : PyData.strOk s = true) (e : atI s.cps.toList i = some c) : PyData.strOk (⟨#[c]⟩ : Str) = true := by
  unfold atI at e
  cases q : ixN s.cps.toList.length i with
  | none => rw [q] at e; cases e
  | some j =>
    rw [q] at e
    have e' : s.cps.toList[j]? = some c := e
    have hm : c ∈ s.cps := by
      have := List.mem_of_getElem? e'
      simpa using this
    unfold PyData.strOk at h ⊢
    rw [Array.all_eq_true'] at h
    have hc := h c hm
    simp only [List.all_toArray, List.all_cons, List.all_nil, Bool.and_true]
    exact hc
theorem okIx {K : PySem.W.Frag} : OpOk K (rIx K) dIx := by
  intro B Z env σ H x y d e rv Q k rx ry hd q
  cases e with
  | int i =>
    have hy : y = .int i := ry
    cases d with
    | lst ds =>
      cases h : atI ds i with
      | none => simp [dIx, h] at hd
      | some z =>
        simp only [dIx, h, Option.map] at hd
        cases hd
        obtain ⟨a, vs, rfl, h1, h2⟩ := rx
        obtain ⟨v, h3, h4⟩ := h2.at h
        exact .inl ⟨a, vs, i, v, rfl, hy, .inl (.inl h1), h3, fin_va k h4 q⟩
    | rls ds =>
      cases h : atI ds i with
      | none => simp [dIx, h] at hd
      | some z =>
        simp only [dIx, h, Option.map] at hd
        cases hd
        obtain ⟨a, vs, rfl, h1, h2⟩ := rx
        obtain ⟨v, h3, h4⟩ := h2.at h
        exact .inl ⟨a, vs, i, v, rfl, hy, Inc.sl hid_inc h1, h3, fin_va k h4 q⟩
    | tup ds =>
      cases h : atI ds i with
      | none => simp [dIx, h] at hd
      | some z =>
        simp only [dIx, h, Option.map] at hd
        cases hd
        obtain ⟨a, vs, rfl, h1, h2⟩ := rx
        obtain ⟨v, h3, h4⟩ := h2.at h
        exact .inr (.inl ⟨a, vs, i, v, rfl, hy, Inc.st hid_inc h1, h3, fin_va k h4 q⟩)
    | str s =>
      simp only [dIx] at hd
      split at hd
      · rename_i c
        cases h : atI s.cps.toList i with
        | none => rw [h] at hd; cases hd
        | some z =>
          rw [h] at hd
          cases hd
          exact .inr (.inr ⟨s, i, z, rx.1, hy, c, h, fin_va (d := chD z) k ⟨rfl, strOk_ch rx.2 h⟩ q⟩)
      · cases hd
    | _ => cases hd
  | _ => cases d <;> cases hd
section
variable {X : Cx} {W : WX} {pos p2 : Pos} {a b e : Expr} {oa ob oe : Op}
theorem e_ix (ha : SO X W a oa) (hb : SO X W b ob) (hs : PlainIx b := by intro _ _; rfl) : SE X W (.Subscript a b pos) (cOp dIx oa ob) := by
  obtain ⟨ta, tb, p1, p2, s⟩ := two ha hb okIx
  exact ⟨_, pe_ix ix_seq p1 p2 hs, s⟩
/-! ### a[i:j] -/
def cutL {α : Type} (xs : List α) (lo hi : Option Int) : List α := (xs.drop (HT.sIx xs.length 0 lo)).take (HT.sIx xs.length xs.length hi - HT.sIx xs.length 0 lo)
def dSl (d : D) (lo hi : Option Int) : Option RV := match d with
  | .lst ds => some (.ow (.lst (cutL ds lo hi)))
  | .rls ds => some (.ow (.lst (cutL ds lo hi)))
  | .tup ds => some (.va (.tup (cutL ds lo hi)))
  | .str s => if s.length ≤ sizeLine then some (.va (.str (cutS s lo hi))) else none
  | _ => none
theorem RepL.cut {K : PySem.W.Frag} {H : Hp} {ds : List D} {vs : List V} (lo hi : Option Int) (h : RepL K H ds vs) : RepL K H (cutL ds lo hi) (cutV vs lo hi) := by
  unfold cutL cutV
  rw [h.length]
  exact (h.drop _).take _
theorem strOk_cut {s : Str} (lo hi : Option Int) (h : PyData.strOk s = true) : PyData.strOk (cutS s lo hi) = true := by
  unfold PyData.strOk at h ⊢
  rw [Array.all_eq_true'] at h
  unfold cutS
  rw [Array.all_eq_true']
  intro c hc
  refine h c ?_
  have h1 : c ∈ ((s.cps.toList.drop (HT.sIx s.length 0 lo)).take (HT.sIx s.length s.length hi - HT.sIx s.length 0 lo)) := by simpa using hc
  have h2 := List.mem_of_mem_drop (List.mem_of_mem_take h1)
  simpa using h2
theorem sIx_all {n : Nat} {lo hi : Option Int} {α : Type} {xs : List α} (hn : xs.length = n) (h : HT.sIx n 0 lo = 0 ∧ HT.sIx n n hi = n) : cutL xs lo hi = xs := by
  unfold cutL
  rw [hn, h.1, h.2, List.drop_zero, Nat.sub_zero, ← hn, List.take_length]
def rSlM (K : PySem.W.Frag) : V → Option Int → Option Int → Hp → VK → Prop := fun x lo hi H Q => rSlL K x lo hi H Q ∨ (rSlA K x lo hi H Q ∨ rSlS x lo hi H Q)
theorem sl_any : SlR X (rSlM X.K) := sl_list.or (sl_tupA.or sl_str)
theorem okSl {K : PySem.W.Frag} {B H : Hp} {Z : Addr → Prop} {env : Env} {σ : L2.St} {x : V} {d : D} {lo hi : Option Int} {rv : RV} {Q : VK} (k : Ok K B H Z env σ) (rx : RepT K H (hid H Z env σ) d x) (hd : dSl d lo hi = some rv)
    (q : ∀ v H', Ok K B H' (zx Z rv v) env σ → Fr H Z env σ H' (zx Z rv v) env σ → RvR K B Z (hid H' (zx Z rv v) env σ) H' rv v → Q v H') : rSlM K x lo hi H Q := by
  cases d with
  | lst ds =>
    cases hd
    obtain ⟨a, vs, rfl, h1, h2⟩ := rx
    exact .inl ⟨a, vs, rfl, .inl (.inl h1), fin_lst k (h2.cut lo hi) q⟩
  | rls ds =>
    cases hd
    obtain ⟨a, vs, rfl, h1, h2⟩ := rx
    exact .inl ⟨a, vs, rfl, Inc.sl hid_inc h1, fin_lst k (h2.cut lo hi) q⟩
  | tup ds =>
    cases hd
    obtain ⟨a, vs, rfl, h1, h2⟩ := id rx
    refine .inr (.inl ⟨a, vs, rfl, Inc.st hid_inc h1, fun w => ?_, fun _ => fin_tup k (h2.cut lo hi) q⟩)
    rw [sIx_all h2.length.symm w] at q
    exact fin_va (d := .tup ds) k rx q
  | str s =>
    simp only [dSl] at hd
    split at hd
    · rename_i c
      cases hd
      exact .inr (.inr ⟨s, rx.1, c, fin_va (d := .str _) k ⟨rfl, strOk_cut lo hi rx.2⟩ q⟩)
    · cases hd
  | _ => cases hd
/-- a bound of a slice -/
def cPart : Option (M D) → M (Option Int)
  | none => fun ρ => .ok none ρ
  | some f => fun ρ => match f ρ with
    | .ok (.int i) ρ' => .ok (some i) ρ'
    | .ex x ρ' => .ex x ρ'
    | _ => .fail
def SP (X : Cx) (W : WX) : Option Expr → Option (M D) → Prop
  | none, none => True
  | some e, some f => SD X W e f
  | _, _ => False
def PPost (K : PySem.W.Frag) (W : WX) (B : Hp) (Z : Addr → Prop) (env : Env) (σ : L2.St) (H : Hp) (r : R (Option Int)) (Q : Option Int → Hp → Prop) : Prop := match r with
  | .fail => False
  | .ok o env' => ∀ H', Ok K B H' Z env' σ → Fr H Z env σ H' Z env' σ → Q o H'
  | .ex x env' => ∀ c d H', Ok K B H' Z env' σ → Fr H Z env σ H' Z env' σ → XOk K (hid H' Z env' σ) x c d H' → W c d σ H'
theorem SP.run {o : Option Expr} {f : Option (M D)} (h : SP X W o f) : ∃ t, PO X o t ∧ ∀ B Z env σ H Q, Ok X.K B H Z env σ → PPost X.K W B Z env σ H (cPart f env) Q → t σ H Q := by
  cases o with
  | none =>
    cases f with
    | none => exact ⟨_, po_none, fun B Z env σ H Q k q => q H k Fr.refl⟩
    | some f => exact h.elim
  | some e =>
    cases f with
    | none => exact h.elim
    | some f =>
      obtain ⟨t, p, s⟩ := h
      refine ⟨_, po_some p, fun B Z env σ H Q k q => s B Z env σ H _ k ?_⟩
      unfold cPart at q
      cases e1 : f env with
      | fail => simp only [e1] at q; exact q
      | ex x ρ => simp only [e1] at q; exact q
      | ok d ρ =>
        cases d with
        | int i =>
          simp only [e1] at q
          exact fun v H' k' f' r' => ⟨i, r', q H' k' f'⟩
        | _ => simp only [e1] at q; exact q.elim
def cSl (o : Op) (lo hi : Option (M D)) : M RV := bnd (st1 o) fun x => bnd (cPart lo) fun l => bnd (cPart hi) fun h => fun ρ => opt ((fin1 o x ρ).bind fun d => dSl d l h) ρ
theorem e_sl {lo hi : Option Expr} {fl fh : Option (M D)} (he : SO X W e oe) (h1 : SP X W lo fl) (h2 : SP X W hi fh) : SE X W (.Subscript e (.Slice lo hi none p2) pos) (cSl oe fl fh) := by
  obtain ⟨t, p, s⟩ := he.run
  obtain ⟨t1, q1, s1⟩ := h1.run
  obtain ⟨t2, q2, s2⟩ := h2.run
  refine ⟨_, pe_slice sl_any p q1 q2, fun B Z env σ H Q k q => s B Z env σ H _ k ?_⟩
  unfold cSl at q
  cases e1 : st1 oe env with
  | fail => rw [bnd_fail e1] at q; exact q
  | ex x ρ => rw [bnd_ex e1] at q; exact q
  | ok x ρ =>
    rw [bnd_ok e1] at q
    intro v H1 k1 f1 p1
    refine s1 B Z ρ σ H1 _ k1 ?_
    cases e2 : cPart fl ρ with
    | fail => rw [bnd_fail e2] at q; exact q
    | ex x ρ2 => rw [bnd_ex e2] at q; exact fun c d H' k' f' w => q c d H' k' (f1.trans f') w
    | ok l ρ2 =>
      rw [bnd_ok e2] at q
      intro H2 k2 f2
      refine s2 B Z ρ2 σ H2 _ k2 ?_
      cases e3 : cPart fh ρ2 with
      | fail => rw [bnd_fail e3] at q; exact q
      | ex x ρ3 => rw [bnd_ex e3] at q; exact fun c d H' k' f' w => q c d H' k' ((f1.trans f2).trans f') w
      | ok h ρ3 =>
        rw [bnd_ok e3] at q
        intro H3 k3 f3
        cases e4 : fin1 oe x ρ3 with
        | none => simp only [e4, Option.bind, opt, EPost] at q
        | some d =>
          cases e5 : dSl d l h with
          | none => simp only [e4, e5, Option.bind, opt, EPost] at q
          | some rv =>
            simp only [e4, e5, Option.bind, opt] at q
            exact okSl k3 (p1.fin (f2.trans f3) k3 e4) e5 fun v' H' k' f' r' => q v' H' k' (((f1.trans f2).trans f3).trans f') r'
end
/-! ### a local object, handed on -/
def cMv (i : Nat) : M RV := fun ρ => match ρ[i]? with
  | some (.va d) => .ok (.va d) ρ
  | some (.ow false o) => .ok (.ow o) (ρ.set i .un)
  | _ => .fail
theorem e_mv {X : Cx} {W : WX} {pos : Pos} (i : Nat) {x : Str} (hN : X.N[i]? = some x := by rfl) (hv : Vis X.env.scope x := by first | exact Or.inl rfl | exact Or.inr (Or.inl rfl) | exact Or.inr (Or.inr rfl)) (hd : (x == ("__debug__" : Str)) = false := by decide)
    (hcd : (x == ("__classdict__" : Str)) = false := by decide) : SE X W (.Name x pos) (cMv i) := by
  refine ⟨_, pe_var hN hv hd hcd, fun B Z env σ H Q k q => ?_⟩
  cases e : env[i]? with
  | none => simp only [cMv, e, EPost] at q
  | some s =>
    cases s with
    | un => simp only [cMv, e, EPost] at q
    | va d =>
      simp only [cMv, e] at q
      obtain ⟨v, h1, h2⟩ := k.va i d e
      exact ⟨v, h1, q v H k Fr.refl h2⟩
    | ow f o =>
      cases f with
      | true => simp only [cMv, e, EPost] at q
      | false =>
        simp only [cMv, e] at q
        obtain ⟨a, h1, nz, h2, h3⟩ := k.ow i false o e
        have hi : i < env.length := (List.getElem?_eq_some_iff.mp e).1
        have get : ∀ (j : Nat) (s : SV), s ≠ .un → (env.set i .un)[j]? = some s → j ≠ i ∧ env[j]? = some s := fun j s hs e1 => by
          by_cases qj : j = i
          · subst qj
            rw [List.getElem?_set_self hi] at e1
            cases e1
            exact absurd rfl hs
          · rw [List.getElem?_set_ne (Ne.symm qj)] at e1
            exact ⟨qj, e1⟩
        have hh : hid H (zx Z (.ow o) (.ref a)) (env.set i .un) σ = hid H Z env σ := by
          refine hid_congr fun b => ?_
          show (zx Z (.ow o) (.ref a) b ∨ Own (env.set i .un) σ b) ↔ (Z b ∨ Own env σ b)
          · constructor
            · rintro ((z | z) | ⟨j, g, u, e1, e2⟩)
              · exact .inl z
              · cases z; exact .inr ⟨i, false, o, e, h1⟩
              · exact .inr ⟨j, g, u, (get j _ (by simp) e1).2, e2⟩
            · rintro (z | ⟨j, g, u, e1, e2⟩)
              · exact .inl (.inl z)
              · by_cases qj : j = i
                · subst qj
                  rw [h1] at e2
                  cases e2
                  exact .inl (.inr rfl)
                · exact .inr ⟨j, g, u, by rw [List.getElem?_set_ne (Ne.symm qj)]; exact e1, e2⟩
        have hH : H a ≠ none := h2.there
        refine ⟨_, h1, q _ H ⟨by rw [List.length_set]; exact k.len, fun j d e1 => ?_, fun j g u e1 => ?_, fun j1 j2 f g u1 u2 b e1 e2 s1 s2 => ?_, fun b z => ?_, k.nn⟩ ⟨fun b u z => by rw [hh]; exact z, fun _ _ _ z => z, fun _ z => .inl z, fun _ z => z, fun j u e1 => ?_⟩ ⟨a, rfl, nz, h3 rfl, by rw [hh]; exact h2⟩⟩
        · obtain ⟨v, x, y⟩ := k.va j d (get j _ (by simp) e1).2
          exact ⟨v, x, by rw [hh]; exact y⟩
        · obtain ⟨ne, e1⟩ := get j _ (by simp) e1
          obtain ⟨b, x, y, z, w⟩ := k.ow j g u e1
          refine ⟨b, x, fun zz => ?_, by rw [hh]; exact z, w⟩
          rcases zz with zz | zz
          · exact y zz
          · cases zz
            exact ne (k.inj j i g false u o a e1 e x h1)
        · exact k.inj j1 j2 f g u1 u2 b (get _ _ (by simp) e1).2 (get _ _ (by simp) e2).2 s1 s2
        · rcases z with z | z
          · exact k.zt b z
          · cases z; exact hH
        · have qj : j ≠ i := fun qj => by subst qj; rw [e] at e1; cases e1
          exact ⟨⟨u, by rw [List.getElem?_set_ne (Ne.symm qj)]; exact e1⟩, rfl⟩
end RF

namespace RF
open PySem PySem.Spec PyProof.Rows L2

/-! ### defs called -/
/-- a def's promise by its function of arguments -/
def spF (K : PySem.W.Frag) (G : M RV) (n : Nat) : Sp := fun vs H Q E => vs.length = n ∧ ∃ Z args, Ok K H H Z args (vs.map some) ∧ EPost K (fun c d _ H' => E c d H') H Z args (vs.map some) H (G args) Q
/-- the global x is a def that computes G -/
def Cal (P : Program) (w : World) (K : PySem.W.Frag) (mg : Str → Option Value) (base : Heap) (k : Nat) (x : Str) (n : Nat) (G : M RV) : Prop :=
  ∃ f fd ps, FnOk P w K mg base (L2.CX P w) k f fd ps (spF K G n) ∧ mg x = some (.ref f) ∧ PySem.W.keepIn K (.ref f) = true ∧ Binds K fd ps []
def mkA : List Op → List (Option D) → Env → Option Env
  | [], [], _ => some []
  | .ev _ :: os, some d :: xs, ρ => (mkA os xs ρ).map (.va d :: ·)
  | .lv i :: os, _ :: xs, ρ => match ρ[i]? with
    | some (.ow _ o) => (mkA os xs ρ).map (.ow true o :: ·)
    | _ => none
  | _, _, _ => none
def putA : List Op → Env → Env → Option Env
  | [], _, ρ => some ρ
  | .ev _ :: os, _ :: as, ρ => putA os as ρ
  | .lv i :: os, .ow true o :: as, ρ => match ρ[i]? with
    | some (.ow f _) => putA os as (ρ.set i (.ow f o))
    | _ => none
  | _, _, _ => none
def ioS : List Op → List Nat
  | [] => []
  | .ev _ :: os => ioS os
  | .lv i :: os => i :: ioS os
def cCall (G : M RV) (os : List Op) : M RV := bnd (pre os) fun xs => fun ρ => match mkA os xs ρ with
  | none => .fail
  | some as => match G as with
    | .fail => .fail
    | .ok rv as' => match putA os as' ρ with
      | some ρ' => .ok rv ρ'
      | none => .fail
    | .ex x as' => match putA os as' ρ with
      | some ρ' => .ex x ρ'
      | none => .fail
theorem mem_ioS : ∀ {os : List Op} {i : Nat}, i ∈ ioS os ↔ ∃ j : Nat, os[j]? = some (Op.lv i)
  | [], i => by simp [ioS]
  | .ev f :: os, i => by
    simp only [ioS]
    rw [mem_ioS]
    constructor
    · rintro ⟨j, h⟩; exact ⟨j + 1, by simpa using h⟩
    · rintro ⟨j, h⟩
      cases j with
      | zero => simp at h
      | succ j => exact ⟨j, by simpa using h⟩
  | .lv k :: os, i => by
    simp only [ioS, List.mem_cons]
    rw [mem_ioS]
    constructor
    · rintro (rfl | ⟨j, h⟩)
      · exact ⟨0, rfl⟩
      · exact ⟨j + 1, by simpa using h⟩
    · rintro ⟨j, h⟩
      cases j with
      | zero => left; simp at h; exact h.symm
      | succ j => right; exact ⟨j, by simpa using h⟩
theorem io_inj : ∀ {os : List Op} {i j1 j2 : Nat}, (ioS os).Nodup → os[j1]? = some (Op.lv i) → os[j2]? = some (Op.lv i) → j1 = j2
  | [], _, _, _, _, h, _ => by simp at h
  | .ev f :: os, i, j1, j2, n, h1, h2 => by
    cases j1 with
    | zero => simp at h1
    | succ j1 =>
      cases j2 with
      | zero => simp at h2
      | succ j2 => exact congrArg (· + 1) (io_inj (os := os) (i := i) n (by simpa using h1) (by simpa using h2))
  | .lv k :: os, i, j1, j2, n, h1, h2 => by
    simp only [ioS, List.nodup_cons] at n
    cases j1 with
    | zero =>
      cases j2 with
      | zero => rfl
      | succ j2 =>
        have e : k = i := by simpa using h1
        subst e
        exact absurd (mem_ioS.mpr ⟨j2, by simpa using h2⟩) n.1
    | succ j1 =>
      cases j2 with
      | zero =>
        have e : k = i := by simpa using h2
        subst e
        exact absurd (mem_ioS.mpr ⟨j1, by simpa using h1⟩) n.1
      | succ j2 => exact congrArg (· + 1) (io_inj (os := os) (i := i) n.2 (by simpa using h1) (by simpa using h2))
/-- the arguments, place by place -/
def ArgAt (K : PySem.W.Frag) (Hh : Hp) (σ : L2.St) (ρ : Env) (o : Op) (v : V) : SV → Prop
  | .va d => (∃ f, o = .ev f) ∧ Rep K Hh d v
  | .ow f u => f = true ∧ ∃ i g, o = .lv i ∧ ρ[i]? = some (.ow g u) ∧ σ[i]? = some (some v)
  | .un => False
theorem mkA_len {K : PySem.W.Frag} {Hh : Hp} {σ : L2.St} : ∀ {os : List Op} {xs : List (Option D)} {vs : List V} {ρ as : Env}, mkA os xs ρ = some as → PreL K Hh σ vs os xs → as.length = vs.length ∧ os.length = vs.length
  | [], [], [], _, _, h, _ => by cases h; exact ⟨rfl, rfl⟩
  | [], _ :: _, _, _, _, h, _ => by simp [mkA] at h
  | .ev f :: os, some d :: xs, v :: vs, ρ, as, h, p => by
    simp only [mkA] at h
    cases e : mkA os xs ρ with
    | none => rw [e] at h; cases h
    | some r =>
      rw [e] at h
      cases h
      obtain ⟨a, b⟩ := mkA_len e p.2
      exact ⟨by simp [a], by simp [b]⟩
  | .ev f :: os, none :: xs, _, _, _, h, _ => by simp [mkA] at h
  | .ev f :: os, [], _, _, _, h, _ => by simp [mkA] at h
  | .lv i :: os, [], _, _, _, h, _ => by simp [mkA] at h
  | .lv i :: os, x :: xs, v :: vs, ρ, as, h, p => by
    simp only [mkA] at h
    split at h
    · rename_i g u hq
      cases e : mkA os xs ρ with
      | none => rw [e] at h; cases h
      | some r =>
        rw [e] at h
        cases h
        obtain ⟨a, b⟩ := mkA_len e p.2
        exact ⟨by simp [a], by simp [b]⟩
    · cases h
  | [], [], _ :: _, _, _, _, p => p.elim
  | .ev _ :: _, some _ :: _, [], _, _, _, p => p.elim
  | .lv _ :: _, _ :: _, [], _, _, _, p => p.elim
theorem mkA_get {K : PySem.W.Frag} {Hh : Hp} {σ : L2.St} : ∀ {os : List Op} {xs : List (Option D)} {vs : List V} {ρ as : Env} {j : Nat} {s : SV}, mkA os xs ρ = some as → PreL K Hh σ vs os xs → as[j]? = some s → ∃ o v, os[j]? = some o ∧ vs[j]? = some v ∧ ArgAt K Hh σ ρ o v s
  | [], [], [], _, _, _, _, h, _, g => by cases h; simp at g
  | [], _ :: _, _, _, _, _, _, h, _, _ => by simp [mkA] at h
  | .ev f :: os, some d :: xs, v :: vs, ρ, as, j, s, h, p, g => by
    simp only [mkA] at h
    cases e : mkA os xs ρ with
    | none => rw [e] at h; cases h
    | some r =>
      rw [e] at h
      cases h
      cases j with
      | zero =>
        have g' : SV.va d = s := by simpa using g
        subst g'
        exact ⟨_, v, rfl, rfl, ⟨f, rfl⟩, p.1⟩
      | succ j =>
        obtain ⟨o, w, a, b, c⟩ := mkA_get e p.2 (j := j) (s := s) (by simpa using g)
        exact ⟨o, w, by simpa using a, by simpa using b, c⟩
  | .ev f :: os, none :: xs, _, _, _, _, _, h, _, _ => by simp [mkA] at h
  | .ev f :: os, [], _, _, _, _, _, h, _, _ => by simp [mkA] at h
  | .lv i :: os, [], _, _, _, _, _, h, _, _ => by simp [mkA] at h
  | .lv i :: os, x :: xs, v :: vs, ρ, as, j, s, h, p, g => by
    simp only [mkA] at h
    split at h
    · rename_i f u hq
      cases e : mkA os xs ρ with
      | none => rw [e] at h; cases h
      | some r =>
        rw [e] at h
        cases h
        cases j with
        | zero =>
          have g' : SV.ow true u = s := by simpa using g
          subst g'
          exact ⟨_, v, rfl, rfl, rfl, i, f, rfl, hq, p.1⟩
        | succ j =>
          obtain ⟨o, w, a, b, c⟩ := mkA_get e p.2 (j := j) (s := s) (by simpa using g)
          exact ⟨o, w, by simpa using a, by simpa using b, c⟩
    · cases h
  | [], [], _ :: _, _, _, _, _, _, p, _ => p.elim
  | .ev _ :: _, some _ :: _, [], _, _, _, _, _, p, _ => p.elim
  | .lv _ :: _, _ :: _, [], _, _, _, _, _, p, _ => p.elim
theorem mkA_io : ∀ {os : List Op} {xs : List (Option D)} {ρ as : Env} {i j : Nat}, mkA os xs ρ = some as → os[j]? = some (Op.lv i) → ∃ f u, ρ[i]? = some (.ow f u) ∧ as[j]? = some (.ow true u)
  | [], _, _, _, _, _, _, g => by simp at g
  | .ev f :: os, some d :: xs, ρ, as, i, j, h, g => by
    simp only [mkA] at h
    cases e : mkA os xs ρ with
    | none => rw [e] at h; cases h
    | some r =>
      rw [e] at h
      cases h
      cases j with
      | zero => simp at g
      | succ j =>
        obtain ⟨f', u, a, b⟩ := mkA_io e (j := j) (i := i) (by simpa using g)
        exact ⟨f', u, a, by simpa using b⟩
  | .ev f :: os, none :: xs, _, _, _, _, h, _ => by simp [mkA] at h
  | .ev f :: os, [], _, _, _, _, h, _ => by simp [mkA] at h
  | .lv k :: os, [], _, _, _, _, h, _ => by simp [mkA] at h
  | .lv k :: os, x :: xs, ρ, as, i, j, h, g => by
    simp only [mkA] at h
    split at h
    · rename_i f u hq
      cases e : mkA os xs ρ with
      | none => rw [e] at h; cases h
      | some r =>
        rw [e] at h
        cases h
        cases j with
        | zero =>
          have e' : k = i := by simpa using g
          subst e'
          exact ⟨f, u, hq, rfl⟩
        | succ j =>
          obtain ⟨f', u', a, b⟩ := mkA_io e (j := j) (i := i) (by simpa using g)
          exact ⟨f', u', a, by simpa using b⟩
    · cases h
theorem putA_get : ∀ {os : List Op} {as ρ ρ' : Env}, putA os as ρ = some ρ' → (ioS os).Nodup → ρ'.length = ρ.length ∧ (∀ i, i ∉ ioS os → ρ'[i]? = ρ[i]?) ∧ ∀ (j i : Nat), os[j]? = some (Op.lv i) → ∃ f o o', as[j]? = some (.ow true o') ∧ ρ[i]? = some (.ow f o) ∧ ρ'[i]? = some (.ow f o')
  | [], _, _, _, h, _ => by cases h; exact ⟨rfl, fun _ _ => rfl, fun j i e => by simp at e⟩
  | .ev f :: os, [], _, _, h, _ => by simp [putA] at h
  | .ev f :: os, a :: as, ρ, ρ', h, n => by
    simp only [putA] at h
    obtain ⟨h1, h2, h3⟩ := putA_get h n
    refine ⟨h1, h2, fun j i e => ?_⟩
    cases j with
    | zero => simp at e
    | succ j =>
      obtain ⟨f, o, o', x, y, z⟩ := h3 j i (by simpa using e)
      exact ⟨f, o, o', by simpa using x, y, z⟩
  | .lv i :: os, [], _, _, h, _ => by simp [putA] at h
  | .lv i :: os, .un :: as, ρ, ρ', h, n => by simp [putA] at h
  | .lv i :: os, .va _ :: as, ρ, ρ', h, n => by simp [putA] at h
  | .lv i :: os, .ow false _ :: as, ρ, ρ', h, n => by simp [putA] at h
  | .lv i :: os, .ow true o :: as, ρ, ρ', h, n => by
    simp only [putA] at h
    simp only [ioS, List.nodup_cons] at n
    split at h
    · rename_i f u hq
      obtain ⟨h1, h2, h3⟩ := putA_get h n.2
      have hi : i < ρ.length := (List.getElem?_eq_some_iff.mp hq).1
      have hii : ρ'[i]? = some (.ow f o) := by rw [h2 i n.1, List.getElem?_set_self hi]
      refine ⟨by rw [h1, List.length_set], fun m hm => ?_, fun j m e => ?_⟩
      · simp only [ioS, List.mem_cons, not_or] at hm
        rw [h2 m hm.2, List.getElem?_set_ne (Ne.symm hm.1)]
      · cases j with
        | zero =>
          have e' : i = m := by simpa using e
          subst e'
          exact ⟨f, u, o, rfl, hq, hii⟩
        | succ j =>
          have e2 : os[j]? = some (Op.lv m) := by simpa using e
          have ne : m ≠ i := fun z => by subst z; exact n.1 (mem_ioS.mpr ⟨j, e2⟩)
          obtain ⟨f', o1, o', x, y, z⟩ := h3 j m e2
          rw [List.getElem?_set_ne (Ne.symm ne)] at y
          exact ⟨f', o1, o', by simpa using x, y, z⟩
    · cases h

section
variable {K : PySem.W.Frag} {B H1 H' : Hp} {Z : Addr → Prop} {ρ ρ' as as' : Env} {σ : L2.St} {os : List Op} {xs : List (Option D)} {vs : List V}
/-- what a callee may not look at: what was hidden, and the caller's objects that are not handed in -/
def Zc (Z : Addr → Prop) (ρ as : Env) (σ : L2.St) (vs : List V) : Addr → Prop := fun b => Z b ∨ (Own ρ σ b ∧ ¬ Own as (vs.map some) b)
theorem args_own (k : Ok K B H1 Z ρ σ) (hm : mkA os xs ρ = some as) (p : PreL K (hid H1 Z ρ σ) σ vs os xs) {b : Addr} (h : Own as (vs.map some) b) : ∃ (i j : Nat) (g : Bool) (u : Ob), os[j]? = some (Op.lv i) ∧ as[j]? = some (.ow true u) ∧ vs[j]? = some (.ref b) ∧ ρ[i]? = some (.ow g u) ∧ σ[i]? = some (some (.ref b)) := by
  obtain ⟨j, f, u, e1, e2⟩ := h
  obtain ⟨o, v, h1, h2, h3⟩ := mkA_get hm p e1
  rw [List.getElem?_map, h2] at e2
  cases e2
  obtain ⟨rfl, i, g, rfl, h4, h5⟩ := h3
  exact ⟨i, j, g, u, h1, e1, h2, h4, h5⟩
theorem hid_call (k : Ok K B H1 Z ρ σ) (hm : mkA os xs ρ = some as) (p : PreL K (hid H1 Z ρ σ) σ vs os xs) : hid H1 (Zc Z ρ as σ vs) as (vs.map some) = hid H1 Z ρ σ := by
  refine hid_congr fun b => ?_
  show (Zc Z ρ as σ vs b ∨ Own as (vs.map some) b) ↔ (Z b ∨ Own ρ σ b)
  · constructor
    · rintro ((z | z) | z)
      · exact .inl z
      · exact .inr z.1
      · obtain ⟨i, j, g, u, _, _, _, h4, h5⟩ := args_own k hm p z
        exact .inr ⟨i, g, u, h4, h5⟩
    · rintro (z | z)
      · exact .inl (.inl z)
      · by_cases q : Own as (vs.map some) b
        · exact .inr q
        · exact .inl (.inr ⟨z, q⟩)
theorem ok_call (k : Ok K B H1 Z ρ σ) (hm : mkA os xs ρ = some as) (p : PreL K (hid H1 Z ρ σ) σ vs os xs) (nd : (ioS os).Nodup) : Ok K H1 H1 (Zc Z ρ as σ vs) as (vs.map some) := by
  have hh := hid_call k hm p
  refine ⟨by rw [List.length_map]; exact (mkA_len hm p).1.symm, fun j d e => ?_, fun j f u e => ?_, fun j1 j2 f g u1 u2 a e1 e2 s1 s2 => ?_, fun a z => ?_, fun a h => h⟩
  · obtain ⟨o, v, h1, h2, h3⟩ := mkA_get hm p e
    exact ⟨v, by rw [List.getElem?_map, h2]; rfl, by rw [hh]; exact h3.2⟩
  · obtain ⟨o, v, h1, h2, h3⟩ := mkA_get hm p e
    obtain ⟨rfl, i, g, rfl, h4, h5⟩ := h3
    obtain ⟨a, q1, q2, q3, q4⟩ := k.ow i g u h4
    rw [h5] at q1
    cases q1
    have oa : Own as (vs.map some) a := ⟨j, true, u, e, by rw [List.getElem?_map, h2]; rfl⟩
    refine ⟨a, by rw [List.getElem?_map, h2]; rfl, fun z => ?_, by rw [hh]; exact q3, fun z => nomatch z⟩
    rcases z with z | z
    · exact q2 z
    · exact z.2 oa
  · obtain ⟨o, v, h1, h2, h3⟩ := mkA_get hm p e1
    obtain ⟨rfl, i, g1, rfl, h4, h5⟩ := h3
    obtain ⟨o', v', h1', h2', h3'⟩ := mkA_get hm p e2
    obtain ⟨rfl, i', g2, rfl, h4', h5'⟩ := h3'
    rw [List.getElem?_map, h2] at s1
    rw [List.getElem?_map, h2'] at s2
    cases s1
    cases s2
    have e : i = i' := k.inj i i' g1 g2 u1 u2 a h4 h4' h5 h5'
    subst e
    exact io_inj nd h1 h1'
  · rcases z with z | z
    · exact k.zt a z
    · exact (k.ownT z.1).1
/-- back from a call -/
theorem back {Zd Zr : Addr → Prop} (k : Ok K B H1 Z ρ σ) (hm : mkA os xs ρ = some as) (p : PreL K (hid H1 Z ρ σ) σ vs os xs) (nd : (ioS os).Nodup) (k' : Ok K H1 H' Zd as' (vs.map some)) (f' : Fr H1 (Zc Z ρ as σ vs) as (vs.map some) H' Zd as' (vs.map some))
    (hp : putA os as' ρ = some ρ') (z1 : ∀ a, Zr a → Zd a) (z2 : ∀ a, Z a → Zr a) (z3 : ∀ a, Zr a → Z a ∨ ¬ Zc Z ρ as σ vs a) :
    Ok K B H' Zr ρ' σ ∧ Fr H1 Z ρ σ H' Zr ρ' σ ∧ Inc (hid H' Zd as' (vs.map some)) (hid H' Zr ρ' σ) := by
  have hh := hid_call k hm p
  obtain ⟨pl, p1, p2⟩ := putA_get hp nd
  -- the owned slots are the same
  have ow1 : ∀ (i : Nat) (f : Bool) (u : Ob), ρ'[i]? = some (.ow f u) → ∃ u0, ρ[i]? = some (.ow f u0) := fun i f u e => by
    by_cases hi : i ∈ ioS os
    · obtain ⟨j, hj⟩ := mem_ioS.mp hi
      obtain ⟨f2, o, o', x, y, z⟩ := p2 j i hj
      rw [e] at z
      cases z
      exact ⟨o, y⟩
    · exact ⟨u, (p1 i hi).symm.trans e⟩
  have va1 : ∀ (i : Nat) (d : D), ρ'[i]? = some (.va d) → ρ[i]? = some (.va d) := fun i d e => by
    by_cases hi : i ∈ ioS os
    · obtain ⟨j, hj⟩ := mem_ioS.mp hi
      obtain ⟨f2, o, o', x, y, z⟩ := p2 j i hj
      rw [e] at z
      cases z
    · exact (p1 i hi).symm.trans e
  have own1 : ∀ b, Own ρ' σ b → Own ρ σ b := fun b ⟨i, f, u, e, s⟩ => by
    obtain ⟨u0, e0⟩ := ow1 i f u e
    exact ⟨i, f, u0, e0, s⟩
  have hinc : Inc (hid H' Zd as' (vs.map some)) (hid H' Zr ρ' σ) := fun b o e => by
    obtain ⟨e1, e2, e3⟩ := hid_some.mp e
    refine hid_some.mpr ⟨e1, fun z => e2 (z1 b z), fun z => ?_⟩
    have z0 := own1 b z
    by_cases q : Own as (vs.map some) b
    · obtain ⟨j, f, u, q1, q2⟩ := id q
      obtain ⟨i, j', g, u', h1, h2, h3, h4, h5⟩ := args_own k hm p q
      obtain ⟨⟨u2, h6⟩, _⟩ := f'.io j' u' h2
      exact e3 ⟨j', true, u2, h6, by rw [List.getElem?_map, h3]; rfl⟩
    · exact e2 (f'.zz b (.inr ⟨z0, q⟩))
  have hinc0 : Inc (hid H1 Z ρ σ) (hid H' Zr ρ' σ) := fun b o e => hinc b o (f'.inc b o (by rw [hh]; exact e))
  refine ⟨⟨by rw [pl]; exact k.len, fun i d e => ?_, fun i f u e => ?_, fun i j f g u1 u2 a e1 e2 s1 s2 => ?_, fun a z => k'.zt a (z1 a z), fun a z => f'.nn a (k.nn a z)⟩,
    ⟨hinc0, fun a o z e => f'.z a o (.inl z) e, z2, f'.nn, fun i o e => ⟨?_, rfl⟩⟩, hinc⟩
  · obtain ⟨v, x, y⟩ := k.va i d (va1 i d e)
    exact ⟨v, x, y.mono hinc0⟩
  · obtain ⟨u0, e0⟩ := ow1 i f u e
    obtain ⟨a, q1, q2, q3, q4⟩ := k.ow i f u0 e0
    have oa : Own ρ σ a := ⟨i, f, u0, e0, q1⟩
    by_cases hi : i ∈ ioS os
    · obtain ⟨j, hj⟩ := mem_ioS.mp hi
      obtain ⟨f2, o, o', x, y, z⟩ := p2 j i hj
      rw [e] at z
      cases z
      obtain ⟨f3, u3, m1, m2⟩ := mkA_io hm hj
      obtain ⟨o2, v, n1, n2, n3⟩ := mkA_get hm p m2
      rw [hj] at n1
      cases n1
      obtain ⟨_, i2, g2, e5, n4, n5⟩ := n3
      cases e5
      rw [q1] at n5
      cases n5
      obtain ⟨a', r1, r2, r3, _⟩ := k'.ow j true u x
      rw [List.getElem?_map, n2] at r1
      cases r1
      exact ⟨a, q1, fun z => r2 (z1 a z), r3.mono hinc, q4⟩
    · have eu : u0 = u := by
        rw [p1 i hi, e0] at e
        cases e
        rfl
      subst eu
      have na : ¬ Own as (vs.map some) a := fun q => by
        obtain ⟨i2, j, g, u', h1, h2, h3, h4, h5⟩ := args_own k hm p q
        have : i = i2 := k.inj i i2 f g u0 u' a e0 h4 q1 h5
        subst this
        exact hi (mem_ioS.mpr ⟨j, h1⟩)
      have hz : Zc Z ρ as σ vs a := .inr ⟨oa, na⟩
      refine ⟨a, q1, fun z => ?_, ?_, q4⟩
      · rcases z3 a z with z | z
        · exact q2 z
        · exact z hz
      · cases ha : H1 a with
        | none => exact absurd ha q3.there
        | some w =>
          rw [f'.z a w hz ha]
          rw [ha] at q3
          exact q3.mono hinc0
  · obtain ⟨w1, x1⟩ := ow1 i f u1 e1
    obtain ⟨w2, x2⟩ := ow1 j g u2 e2
    exact k.inj i j f g w1 w2 a x1 x2 s1 s2
  · by_cases hi : i ∈ ioS os
    · obtain ⟨j, hj⟩ := mem_ioS.mp hi
      obtain ⟨f2, o1, o', x, y, z⟩ := p2 j i hj
      rw [e] at y
      cases y
      exact ⟨o', z⟩
    · exact ⟨o, (p1 i hi).trans e⟩
end
theorem e_call {X : Cx} {W : WX} {k : Nat} {x : Str} {n : Nat} {G : M RV} {p pos : Pos} {e : Expr} {es : List Expr} {os : List Op} (c : Cal X.prog X.w X.K X.mg X.base k x n G) (tk : Takes X W) (hr : Room k X.A) (ha : SA X W (e :: es) os) (hl : os.length = n := by rfl)
    (nd : (ioS os).Nodup := by decide) (hg : Gl X x := by rfl) (hdb : (x == ("__debug__" : Str)) = false := by decide) (he : starEach (e :: es) X.env = (false, eval e X.env) :: starEach es X.env := by rfl) (hpl : (backTo pos (starEach es X.env)).any (·.1) = false := by rfl) :
    SE X W (.Call (.Name x p) (e :: es) [] pos) (cCall G os) := by
  obtain ⟨f, fd, ps, F, hm, hk, hb⟩ := c
  obtain ⟨ta, pa, sa⟩ := ha
  refine ⟨_, pe_callS (E := WE W) F hr hg hm hk hb (fun σ => passAt tk σ) pa hdb he hpl, fun B Z env σ H Q k q => sa B Z env σ H _ k ?_⟩
  unfold cCall at q
  cases e1 : pre os env with
  | fail => rw [bnd_fail e1] at q; exact q
  | ex x ρ => rw [bnd_ex e1] at q; exact q
  | ok xs ρ =>
    rw [bnd_ok e1] at q
    intro vs H1 k1 f1 p1
    cases e2 : mkA os xs ρ with
    | none => simp only [e2] at q; exact q.elim
    | some as =>
      simp only [e2] at q
      refine ⟨by rw [← hl]; exact ((mkA_len e2 p1).2).symm, Zc Z ρ as σ vs, as, ok_call k1 e2 p1 nd, ?_⟩
      cases e3 : G as with
      | fail => simp only [e3] at q; exact q
      | ex y as' =>
        simp only [e3] at q
        intro c d H' k' f' w
        cases e4 : putA os as' ρ with
        | none => simp only [e4] at q; exact q.elim
        | some ρ' =>
          simp only [e4] at q
          obtain ⟨b1, b2, b3⟩ := back (Zr := Z) k1 e2 p1 nd k' f' e4 (fun _ z => .inl z) (fun _ z => z) fun _ z => .inl z
          refine q c d H' b1 (f1.trans b2) ⟨w.1, fun z => ?_⟩
          obtain ⟨p, fs, h1, h2, h3, h4⟩ := w.2 z
          exact ⟨p, fs, h1, h2, h3, h4.mono b3⟩
      | ok rv as' =>
        simp only [e3] at q
        intro v H' k' f' r
        cases e4 : putA os as' ρ with
        | none => simp only [e4] at q; exact q.elim
        | some ρ' =>
          simp only [e4] at q
          have hz : ∀ a, zx Z rv v a → Z a ∨ ¬ Zc Z ρ as σ vs a := fun a z => by
            cases rv with
            | va d => exact .inl z
            | ow o =>
              rcases z with z | z
              · exact .inl z
              · obtain ⟨a', e5, nz, _⟩ := r
                rw [e5] at z
                cases z
                exact .inr nz
          have hz1 : ∀ a, zx Z rv v a → zx (Zc Z ρ as σ vs) rv v a := fun a z => by
            cases rv with
            | va d => exact .inl z
            | ow o => exact z.imp .inl id
          obtain ⟨b1, b2, b3⟩ := back (Zr := zx Z rv v) k1 e2 p1 nd k' f' e4 hz1 (zx_le rv v) hz
          refine q v H' b1 (f1.trans b2) ?_
          cases rv with
          | va d => exact Rep.mono b3 d r
          | ow o =>
            obtain ⟨a, e5, nz, nb, h4⟩ := r
            refine ⟨a, e5, fun z => nz (.inl z), ?_, h4.mono b3⟩
            cases hb : B a with
            | none => rfl
            | some u => exact absurd nb (k1.nn a (by rw [hb]; simp))
end RF

namespace RF
open PySem PySem.Spec PyProof.Rows L2

/-! ### statements -/
def SPost (K : PySem.W.Frag) (W : WX) (B : Hp) (Z : Addr → Prop) (env : Env) (σ : L2.St) (H : Hp) (r : R Fl) (D : Ends) : Prop := match r with
  | .fail => False
  | .ok .nx env' => ∀ σ' H', Ok K B H' Z env' σ' → Fr H Z env σ H' Z env' σ' → D.nx σ' H'
  | .ok .bk env' => ∀ σ' H', Ok K B H' Z env' σ' → Fr H Z env σ H' Z env' σ' → D.bk σ' H'
  | .ok .ct env' => ∀ σ' H', Ok K B H' Z env' σ' → Fr H Z env σ H' Z env' σ' → D.ct σ' H'
  | .ok (.rt rv) env' => ∀ v σ' H', Ok K B H' (zx Z rv v) env' σ' → Fr H Z env σ H' (zx Z rv v) env' σ' → RvR K B Z (hid H' (zx Z rv v) env' σ') H' rv v → D.rt v H'
  | .ex x env' => ∀ c d σ' H', Ok K B H' Z env' σ' → Fr H Z env σ H' Z env' σ' → XOk K (hid H' Z env' σ') x c d H' → W c d σ' H'
def SS (X : Cx) (W : WX) (st : Stmt) (f : M Fl) : Prop := ∃ t, PS X st t ∧ ∀ B Z env σ H D, Ok X.K B H Z env σ → SPost X.K W B Z env σ H (f env) D → t D σ H
def SB (X : Cx) (W : WX) (sts : List Stmt) (f : M Fl) : Prop := ∃ t, PSs X sts t ∧ ∀ B Z env σ H D, Ok X.K B H Z env σ → SPost X.K W B Z env σ H (f env) D → t D σ H
theorem SPost.since {K : PySem.W.Frag} {W : WX} {B H H1 : Hp} {Z : Addr → Prop} {env env1 : Env} {σ σ1 : L2.St} {r : R Fl} {D : Ends} (f : Fr H Z env σ H1 Z env1 σ1) (h : SPost K W B Z env σ H r D) : SPost K W B Z env1 σ1 H1 r D := by
  cases r with
  | fail => exact h
  | ex x ρ => exact fun c d σ' H' k g q => h c d σ' H' k (f.trans g) q
  | ok fl ρ =>
    cases fl with
    | nx => exact fun σ' H' k g => h σ' H' k (f.trans g)
    | bk => exact fun σ' H' k g => h σ' H' k (f.trans g)
    | ct => exact fun σ' H' k g => h σ' H' k (f.trans g)
    | rt rv => exact fun v σ' H' k g q => h v σ' H' k (f.trans g) q
def cNx : M Fl := fun ρ => .ok .nx ρ
def cSeq (a b : M Fl) : M Fl := bnd a fun fl => match fl with
  | .nx => b
  | fl => fun ρ => .ok fl ρ
section
variable {X : Cx} {W : WX} {pos : Pos} {st : Stmt} {sts : List Stmt} {f g : M Fl}
theorem b_nil : SB X W [] cNx := ⟨_, pss_nil, fun B Z env σ H D k q => q σ H k Fr.refl⟩
theorem b_one (h : SS X W st f) : SB X W [st] f := by
  obtain ⟨t, p, s⟩ := h
  exact ⟨t, pss_one p, s⟩
theorem b_cons (h : SS X W st f) (h2 : SB X W sts g) : SB X W (st :: sts) (cSeq f g) := by
  obtain ⟨t, p, s⟩ := h
  obtain ⟨t2, p2, s2⟩ := h2
  refine ⟨_, pss_cons p p2, fun B Z env σ H D k q => s B Z env σ H _ k ?_⟩
  unfold cSeq at q
  cases e1 : f env with
  | fail => rw [bnd_fail e1] at q; exact q
  | ex x ρ => rw [bnd_ex e1] at q; exact q
  | ok fl ρ =>
    rw [bnd_ok e1] at q
    cases fl with
    | nx => exact fun σ' H' k' f' => s2 B Z ρ σ' H' D k' (SPost.since f' q)
    | bk => exact q
    | ct => exact q
    | rt rv => exact q
/-! return, pass, break, continue, if, an expression alone -/
def cRet (f : M RV) : M Fl := bnd f fun rv => fun ρ => .ok (.rt rv) ρ
theorem s_ret {e : Expr} {f : M RV} (h : SE X W e f) : SS X W (.Return (some e) pos) (cRet f) := by
  obtain ⟨t, p, s⟩ := h
  refine ⟨_, ps_ret p, fun B Z env σ H D k q => s B Z env σ H _ k ?_⟩
  unfold cRet at q
  cases e1 : f env with
  | fail => rw [bnd_fail e1] at q; exact q
  | ex x ρ => rw [bnd_ex e1] at q; exact fun c d H' k' f' w => q c d σ H' k' f' w
  | ok rv ρ =>
    rw [bnd_ok e1] at q
    exact fun v H' k' f' r => q v σ H' k' f' r
theorem s_retN : SS X W (.Return none pos) (cRet (cC .non)) := ⟨_, ps_retN, fun B Z env σ H D k q => q .non σ H k Fr.refl rfl⟩
theorem s_pass : SS X W (.Pass pos) cNx := ⟨_, ps_pass, fun B Z env σ H D k q => q σ H k Fr.refl⟩
theorem s_break : SS X W (.Break pos) (fun ρ => .ok .bk ρ) := ⟨_, ps_break, fun B Z env σ H D k q => q σ H k Fr.refl⟩
theorem s_continue : SS X W (.Continue pos) (fun ρ => .ok .ct ρ) := ⟨_, ps_continue, fun B Z env σ H D k q => q σ H k Fr.refl⟩
theorem s_if {c : Expr} {a b : List Stmt} {t : M Bool} (hc : ST X W c t) (ha : SB X W a f) (hb : SB X W b g) : SS X W (.If c a b pos) (cIf t f g) := by
  obtain ⟨tt, p, s⟩ := hc
  obtain ⟨t1, p1, s1⟩ := ha
  obtain ⟨t2, p2, s2⟩ := hb
  refine ⟨_, ps_if p p1 p2, fun B Z env σ H D k q => s B Z env σ H _ k ?_⟩
  unfold cIf at q
  cases e1 : t env with
  | fail => rw [bnd_fail e1] at q; exact q
  | ex x ρ => rw [bnd_ex e1] at q; exact fun c d H' k' f' w => q c d σ H' k' f' w
  | ok b ρ =>
    rw [bnd_ok e1] at q
    intro H1 k1 f1
    cases b with
    | true => exact s1 B Z ρ σ H1 D k1 (SPost.since f1 q)
    | false => exact s2 B Z ρ σ H1 D k1 (SPost.since f1 q)
def cDrop (f : M RV) : M Fl := bnd f fun _ => cNx
theorem s_expr {e : Expr} {f : M RV} (h : SE X W e f) (hs : swapsWith e none pos.line X.env = pure false := by rfl) : SS X W (.Expr e pos) (cDrop f) := by
  obtain ⟨t, p, s⟩ := h
  refine ⟨_, ps_expr p hs, fun B Z env σ H D k q => s B Z env σ H _ k ?_⟩
  unfold cDrop at q
  cases e1 : f env with
  | fail => rw [bnd_fail e1] at q; exact q
  | ex x ρ => rw [bnd_ex e1] at q; exact fun c d H' k' f' w => q c d σ H' k' f' w
  | ok rv ρ =>
    rw [bnd_ok e1] at q
    exact fun v H' k' f' r => q σ H' (k'.unz (zx_le rv v)) (f'.unz (zx_le rv v))
end
/-! ### names stored -/
def asV : RV → SV
  | .va d => .va d
  | .ow o => .ow false o
/-- the slot i gets a result (not an object that was handed in) -/
def stV (i : Nat) (rv : RV) : M Fl := fun ρ => match ρ[i]? with
  | none => .fail
  | some (.ow true _) => .fail
  | some _ => .ok .nx (ρ.set i (asV rv))
theorem Ok.store {K : PySem.W.Frag} {B H : Hp} {Z : Addr → Prop} {env : Env} {σ : L2.St} {i : Nat} {rv : RV} {v : V} {s : SV} (k : Ok K B H (zx Z rv v) env σ) (r : RvR K B Z (hid H (zx Z rv v) env σ) H rv v) (e : env[i]? = some s) (hs : ∀ o, s ≠ .ow true o) :
    Ok K B H Z (env.set i (asV rv)) (σ.set i (some v)) ∧ Inc (hid H (zx Z rv v) env σ) (hid H Z (env.set i (asV rv)) (σ.set i (some v))) ∧ ∀ (j : Nat) o, env[j]? = some (.ow true o) → (env.set i (asV rv))[j]? = some (.ow true o) ∧ (σ.set i (some v))[j]? = σ[j]? := by
  have hi : i < env.length := (List.getElem?_eq_some_iff.mp e).1
  have hi2 : i < σ.length := by rw [k.len]; exact hi
  have old : ∀ (j : Nat) (u : SV), (env.set i (asV rv))[j]? = some u → j ≠ i → env[j]? = some u := fun j u e1 ne => by
    rw [List.getElem?_set_ne (Ne.symm ne)] at e1
    exact e1
  have own : ∀ b, Own (env.set i (asV rv)) (σ.set i (some v)) b → zx Z rv v b ∨ Own env σ b := fun b ⟨j, f, u, e1, e2⟩ => by
    by_cases q : j = i
    · subst q
      rw [List.getElem?_set_self hi] at e1
      rw [List.getElem?_set_self hi2] at e2
      cases rv with
      | va d => cases e1
      | ow o => cases e2; exact .inl (.inr rfl)
    · rw [List.getElem?_set_ne (Ne.symm q)] at e2
      exact .inr ⟨j, f, u, old j _ e1 q, e2⟩
  have inc : Inc (hid H (zx Z rv v) env σ) (hid H Z (env.set i (asV rv)) (σ.set i (some v))) := hid_le (fun _ _ e _ _ => e) (fun b z _ => .inl (zx_le rv v b z)) fun b z _ => own b z
  refine ⟨⟨by rw [List.length_set, List.length_set]; exact k.len, fun j d e1 => ?_, fun j f u e1 => ?_, fun j1 j2 f g u1 u2 a e1 e2 s1 s2 => ?_, fun a z => k.zt a (zx_le rv v a z), k.nn⟩, inc, fun j o e1 => ?_⟩
  · by_cases q : j = i
    · subst q
      rw [List.getElem?_set_self hi] at e1
      cases rv with
      | ow o => cases e1
      | va d' =>
        cases e1
        exact ⟨v, List.getElem?_set_self hi2, Rep.mono inc d r⟩
    · obtain ⟨w, x, y⟩ := k.va j d (old j _ e1 q)
      exact ⟨w, by rw [List.getElem?_set_ne (Ne.symm q)]; exact x, y.mono inc⟩
  · by_cases q : j = i
    · subst q
      rw [List.getElem?_set_self hi] at e1
      cases rv with
      | va d => cases e1
      | ow o =>
        cases e1
        obtain ⟨a, ev, nz, nb, h4⟩ := r
        exact ⟨a, by rw [List.getElem?_set_self hi2, ev], nz, h4.mono inc, fun _ => nb⟩
    · obtain ⟨b, x, y, z, w⟩ := k.ow j f u (old j _ e1 q)
      exact ⟨b, by rw [List.getElem?_set_ne (Ne.symm q)]; exact x, fun zz => y (zx_le rv v b zz), z.mono inc, w⟩
  · -- two owned slots at one place
    have key : ∀ (j m : Nat) (f g : Bool) (u1 u2 : Ob), (env.set i (asV rv))[j]? = some (.ow f u1) → (env.set i (asV rv))[m]? = some (.ow g u2) → (σ.set i (some v))[j]? = some (some (.ref a)) → (σ.set i (some v))[m]? = some (some (.ref a)) → j = i → m ≠ i → False := fun j m f g u1 u2 e1 e2 s1 s2 qj qm => by
      subst qj
      rw [List.getElem?_set_self hi2] at s1
      cases s1
      rw [List.getElem?_set_ne (Ne.symm qm)] at s2
      have e2' := old m _ e2 qm
      rw [List.getElem?_set_self hi] at e1
      cases rv with
      | va d => cases e1
      | ow o =>
        obtain ⟨b, x, y, _, _⟩ := k.ow m g u2 e2'
        rw [s2] at x
        cases x
        exact y (.inr rfl)
    by_cases q1 : j1 = i
    · by_cases q2 : j2 = i
      · rw [q1, q2]
      · exact (key j1 j2 f g u1 u2 e1 e2 s1 s2 q1 q2).elim
    · by_cases q2 : j2 = i
      · exact (key j2 j1 g f u2 u1 e2 e1 s2 s1 q2 q1).elim
      · rw [List.getElem?_set_ne (Ne.symm q1)] at s1
        rw [List.getElem?_set_ne (Ne.symm q2)] at s2
        exact k.inj j1 j2 f g u1 u2 a (old _ _ e1 q1) (old _ _ e2 q2) s1 s2
  · have ne : j ≠ i := fun q => by
      subst q
      rw [e] at e1
      cases e1
      exact hs o rfl
    exact ⟨by rw [List.getElem?_set_ne (Ne.symm ne)]; exact e1, by rw [List.getElem?_set_ne (Ne.symm ne)]⟩
def cAsg (i : Nat) (f : M RV) : M Fl := bnd f (stV i)
section
variable {X : Cx} {W : WX} {pos p2 : Pos} {e : Expr} {f : M RV} {x : Str} {i : Nat}
theorem asg_run {t : TE} (s : ∀ B Z env σ H Q, Ok X.K B H Z env σ → EPost X.K W B Z env σ H (f env) Q → t σ H Q) : ∀ B Z env σ H D, Ok X.K B H Z env σ → SPost X.K W B Z env σ H (cAsg i f env) D → tAsg t (gName i) D σ H := by
  intro B Z env σ H D k q
  refine s B Z env σ H _ k ?_
  unfold cAsg at q
  cases e1 : f env with
  | fail => rw [bnd_fail e1] at q; exact q
  | ex x ρ => rw [bnd_ex e1] at q; exact fun c d H' k' f' w => q c d σ H' k' f' w
  | ok rv ρ =>
    rw [bnd_ok e1] at q
    intro v H' k' f' r
    unfold stV at q
    cases e2 : ρ[i]? with
    | none => simp only [e2] at q; exact q.elim
    | some s =>
      have hs : ∀ o, s ≠ .ow true o := fun o z => by subst z; simp only [e2] at q; exact q
      have q' : SPost X.K W B Z env σ H (.ok .nx (ρ.set i (asV rv))) D := by
        cases s with
        | un => simp only [e2] at q; exact q
        | va d => simp only [e2] at q; exact q
        | ow g o =>
          cases g with
          | true => exact absurd rfl (hs o)
          | false => simp only [e2] at q; exact q
      obtain ⟨a, b, c⟩ := Ok.store k' r e2 hs
      exact q' _ H' a ⟨fun p o z => b p o (f'.inc p o z), f'.z, fun _ z => z, f'.nn, fun j o z => by
        obtain ⟨⟨o', h1⟩, h2⟩ := f'.io j o z
        obtain ⟨h3, h4⟩ := c j o' h1
        exact ⟨⟨o', h3⟩, h4.trans h2⟩⟩
theorem s_set (i : Nat) (hN : X.N.Nodup) (h : SE X W e f) (hi : X.N[i]? = some x := by rfl) (hx : Loc X.env.scope x := by first | exact .inl rfl | exact .inr rfl) (hs : swapsWith e (some (.Name x p2)) pos.line X.env = pure false := by rfl)
    (hf : X.fn x = true ∨ X.env.scope.names.lookup x = some .local := by first | exact .inl rfl | exact .inr rfl) : SS X W (.Assign [.Name x p2] e pos) (cAsg i f) := by
  obtain ⟨t, p, s⟩ := h
  exact ⟨_, ps_set hN hi hx p hs hf, asg_run s⟩
end
/-- the slot i is an owned object: it is changed -/
theorem Ok.write {K : PySem.W.Frag} {B H : Hp} {Z : Addr → Prop} {env : Env} {σ : L2.St} {i : Nat} {f : Bool} {o o' : Ob} {u : HO} {a : Addr} (k : Ok K B H Z env σ) (e : env[i]? = some (.ow f o)) (s : σ[i]? = some (some (.ref a))) (r : ObR K (hid H Z env σ) o' (some u)) :
    Ok K B (upd H a u) Z (env.set i (.ow f o')) σ ∧ Fr H Z env σ (upd H a u) Z (env.set i (.ow f o')) σ ∧ hid (upd H a u) Z (env.set i (.ow f o')) σ = hid H Z env σ := by
  obtain ⟨a', s', nz, q3, q4⟩ := k.ow i f o e
  rw [s] at s'
  cases s'
  have hi : i < env.length := (List.getElem?_eq_some_iff.mp e).1
  have own : ∀ b, Own (env.set i (.ow f o')) σ b ↔ Own env σ b := fun b => by
    constructor
    · rintro ⟨j, g, w, e1, e2⟩
      by_cases q : j = i
      · subst q; exact ⟨j, f, o, e, e2⟩
      · rw [List.getElem?_set_ne (Ne.symm q)] at e1
        exact ⟨j, g, w, e1, e2⟩
    · rintro ⟨j, g, w, e1, e2⟩
      by_cases q : j = i
      · subst q
        exact ⟨j, f, o', List.getElem?_set_self hi, e2⟩
      · exact ⟨j, g, w, by rw [List.getElem?_set_ne (Ne.symm q)]; exact e1, e2⟩
  have oa : Own env σ a := ⟨i, f, o, e, s⟩
  have hh : hid (upd H a u) Z (env.set i (.ow f o')) σ = hid H Z env σ := by
    funext b
    unfold hid
    by_cases q : Z b ∨ Own env σ b
    · rw [if_pos q, if_pos (q.imp id (own b).mpr)]
    · rw [if_neg q, if_neg (fun z => q (z.imp id (own b).mp))]
      exact upd_ne fun z => by subst z; exact q (.inr oa)
  have nn : ∀ b, H b ≠ none → upd H a u b ≠ none := fun b z => by
    by_cases q : b = a
    · subst q; rw [upd_same]; simp
    · rw [upd_ne q]; exact z
  refine ⟨⟨by rw [List.length_set]; exact k.len, fun j d e1 => ?_, fun j g w e1 => ?_, fun j1 j2 g1 g2 u1 u2 b e1 e2 s1 s2 => ?_, fun b z => nn b (k.zt b z), fun b z => nn b (k.nn b z)⟩, ⟨fun b o e => by rw [hh]; exact e, fun b o z e1 => ?_, fun _ z => z, nn, fun j w e1 => ?_⟩, hh⟩
  · have q : j ≠ i := fun q => by subst q; rw [List.getElem?_set_self hi] at e1; cases e1
    rw [List.getElem?_set_ne (Ne.symm q)] at e1
    obtain ⟨v, x, y⟩ := k.va j d e1
    exact ⟨v, x, by rw [hh]; exact y⟩
  · by_cases q : j = i
    · subst q
      rw [List.getElem?_set_self hi] at e1
      cases e1
      exact ⟨a, s, nz, by rw [upd_same, hh]; exact r, q4⟩
    · rw [List.getElem?_set_ne (Ne.symm q)] at e1
      obtain ⟨b, x, y, z, w'⟩ := k.ow j g w e1
      refine ⟨b, x, y, ?_, w'⟩
      rw [hh, upd_ne fun z => by subst z; exact q (k.inj j i g f w o b e1 e x s)]
      exact z
  · have get : ∀ (j : Nat) (g : Bool) (w : Ob), (env.set i (.ow f o'))[j]? = some (.ow g w) → ∃ g' w', env[j]? = some (.ow g' w') := fun j g w e1 => by
      by_cases q : j = i
      · subst q; exact ⟨f, o, e⟩
      · rw [List.getElem?_set_ne (Ne.symm q)] at e1
        exact ⟨g, w, e1⟩
    obtain ⟨g1', w1, x1⟩ := get j1 g1 u1 e1
    obtain ⟨g2', w2, x2⟩ := get j2 g2 u2 e2
    exact k.inj j1 j2 g1' g2' w1 w2 b x1 x2 s1 s2
  · rw [upd_ne fun q => by subst q; exact nz z]
    exact e1
  · by_cases q : j = i
    · subst q
      rw [e] at e1
      cases e1
      exact ⟨⟨o', List.getElem?_set_self hi⟩, rfl⟩
    · exact ⟨⟨w, by rw [List.getElem?_set_ne (Ne.symm q)]; exact e1⟩, rfl⟩
/-! x.append(e), x.extend(o), x.insert(i, e), x.pop() -/
def owL (ρ : Env) (i : Nat) : Option (Bool × List D) := match ρ[i]? with
  | some (.ow f (.lst ds)) => some (f, ds)
  | _ => none
theorem owL_some {ρ : Env} {i : Nat} {f : Bool} {ds : List D} (h : owL ρ i = some (f, ds)) : ρ[i]? = some (.ow f (.lst ds)) := by
  unfold owL at h
  split at h
  · rename_i g es e
    cases h
    exact e
  · cases h
/-- that the slot i is a list at the start -/
def chk (i : Nat) : M Unit := fun ρ => match owL ρ i with
  | some _ => .ok () ρ
  | none => .fail
def cApp (i : Nat) (f : M D) : M RV := bnd (chk i) fun _ => bnd f fun d => fun ρ => match owL ρ i with
  | some (g, ds) => if ds.length < sizeLine then .ok (.va .non) (ρ.set i (.ow g (.lst (ds ++ [d])))) else .fail
  | none => .fail
def cExt (i : Nat) (o : Op) : M RV := bnd (chk i) fun _ => bnd (st1 o) fun x => fun ρ => match owL ρ i, fin1 o x ρ with
  | some (g, ds), some (.lst es) => if ds.length + es.length ≤ sizeLine then .ok (.va .non) (ρ.set i (.ow g (.lst (ds ++ es)))) else .fail
  | _, _ => .fail
def cIns (i : Nat) (a f : M D) : M RV := bnd (chk i) fun _ => bnd a fun n => bnd f fun d => fun ρ => match owL ρ i, n with
  | some (g, ds), .int n => if ds.length < sizeLine ∧ 0 ≤ n ∧ n < 2 ^ 63 then .ok (.va .non) (ρ.set i (.ow g (.lst (ds.take n.toNat ++ [d] ++ ds.drop n.toNat)))) else .fail
  | _, _ => .fail
def cPop (i : Nat) : M RV := fun ρ => match owL ρ i with
  | some (g, ds) => match ds[ds.length - 1]? with
    | some d => .ok (.va d) (ρ.set i (.ow g (.lst ds.dropLast)))
    | none => .fail
  | none => .fail
section
variable {X : Cx} {W : WX} {p1 p2 pos : Pos} {e a : Expr} {x : Str}
abbrev SelfB (o : Expr) (m : Str) (X : Cx) : Prop := attributeBase o m X.env (eval o X.env) = eval o X.env
theorem chk_ok {X : Cx} {B H : Hp} {Z : Addr → Prop} {env : Env} {σ : L2.St} {i : Nat} {g : Bool} {ds : List D} (k : Ok X.K B H Z env σ) (h : owL env i = some (g, ds)) : ∃ l vs, σ[i]? = some (some (.ref l)) ∧ H l = some (.lst vs) ∧ RepL X.K (hid H Z env σ) ds vs := by
  obtain ⟨l, q1, _, ⟨vs, q2, q3⟩, _⟩ := k.ow i g _ (owL_some h)
  exact ⟨l, vs, q1, q2, q3⟩
theorem e_app (i : Nat) {f : M D} (h : SD X W e f) (hN : X.N[i]? = some x := by rfl) (hv : Vis X.env.scope x := by first | exact Or.inl rfl | exact Or.inr (Or.inl rfl) | exact Or.inr (Or.inr rfl)) (hd : (x == ("__debug__" : Str)) = false := by decide)
    (hcd : (x == ("__classdict__" : Str)) = false := by decide) (hs : Na e X := by rfl) (hline : (p1.endLine == pos.line) = true := by rfl) : SE X W (.Call (.Attribute (.Name x p2) "append" p1) [e] [] pos) (cApp i f) := by
  obtain ⟨t, p, s⟩ := h
  refine ⟨_, pe_bm PySem.F.plainAttrs_list PySem.F.slot_list_append PySem.F.type_list_append mt_append (pe_var hN hv hd hcd) (pa_cons p pa_nil hs) rfl (by rw [hs]; rfl) hline hs rfl, fun B Z env σ H Q k q => ?_⟩
  unfold cApp at q
  cases e0 : owL env i with
  | none => rw [bnd_fail (by unfold chk; rw [e0])] at q; exact q.elim
  | some gd =>
    obtain ⟨g0, ds0⟩ := gd
    rw [bnd_ok (a := ()) (ρ' := env) (by unfold chk; rw [e0])] at q
    obtain ⟨l, vs, h1, h2, h3⟩ := chk_ok k e0
    refine ⟨.ref l, h1, .inl ⟨rfl, vs, .inl (.inl h2)⟩, s B Z env σ H _ k ?_⟩
    cases e1 : f env with
    | fail => rw [bnd_fail e1] at q; exact q
    | ex x ρ => rw [bnd_ex e1] at q; exact q
    | ok d ρ =>
      rw [bnd_ok e1] at q
      intro v H1 k1 f1 r1
      cases e2 : owL ρ i with
      | none => simp only [e2] at q; exact q.elim
      | some gd =>
        obtain ⟨g, ds⟩ := gd
        simp only [e2] at q
        obtain ⟨l', ws, g1, g2, g3⟩ := chk_ok k1 e2
        rw [h1] at g1
        cases g1
        split at q
        · rename_i c
          obtain ⟨w1, w2, w3⟩ := k1.write (owL_some e2) h1 (o' := .lst (ds ++ [d])) (u := .lst (ws ++ [v])) ⟨_, rfl, g3.append (RepL.cons r1 RepL.nil)⟩
          exact ⟨l, ws, v, rfl, rfl, g2, by rw [g3.length]; exact c, q .non _ w1 (f1.trans w2) rfl⟩
        · exact q.elim
theorem e_ext (i : Nat) {o : Op} (h : SO X W e o) (hN : X.N[i]? = some x := by rfl) (hv : Vis X.env.scope x := by first | exact Or.inl rfl | exact Or.inr (Or.inl rfl) | exact Or.inr (Or.inr rfl)) (hd : (x == ("__debug__" : Str)) = false := by decide)
    (hcd : (x == ("__classdict__" : Str)) = false := by decide) (hs : Na e X := by rfl) (hline : (p1.endLine == pos.line) = true := by rfl) : SE X W (.Call (.Attribute (.Name x p2) "extend" p1) [e] [] pos) (cExt i o) := by
  obtain ⟨t, p, s⟩ := h.run
  refine ⟨_, pe_bm PySem.F.plainAttrs_list PySem.F.slot_list_extend PySem.F.type_list_extend mt_extend (pe_var hN hv hd hcd) (pa_cons p pa_nil hs) rfl (by rw [hs]; rfl) hline hs rfl, fun B Z env σ H Q k q => ?_⟩
  unfold cExt at q
  cases e0 : owL env i with
  | none => rw [bnd_fail (by unfold chk; rw [e0])] at q; exact q.elim
  | some gd =>
    obtain ⟨g0, ds0⟩ := gd
    rw [bnd_ok (a := ()) (ρ' := env) (by unfold chk; rw [e0])] at q
    obtain ⟨l, vs, h1, h2, h3⟩ := chk_ok k e0
    refine ⟨.ref l, h1, .inl ⟨rfl, vs, .inl (.inl h2)⟩, s B Z env σ H _ k ?_⟩
    cases e1 : st1 o env with
    | fail => rw [bnd_fail e1] at q; exact q
    | ex x ρ => rw [bnd_ex e1] at q; exact q
    | ok y ρ =>
      rw [bnd_ok e1] at q
      intro v H1 k1 f1 r1
      cases e2 : owL ρ i with
      | none => simp only [e2] at q; exact q.elim
      | some gd =>
        obtain ⟨g, ds⟩ := gd
        simp only [e2] at q
        obtain ⟨l', ws, g1, g2, g3⟩ := chk_ok k1 e2
        rw [h1] at g1
        cases g1
        cases e3 : fin1 o y ρ with
        | none => simp only [e3] at q; exact q.elim
        | some d =>
          cases d with
          | lst es =>
            simp only [e3] at q
            split at q
            · rename_i c
              obtain ⟨b, zs, rfl, m1, m2⟩ := r1.fin Fr.refl k1 e3
              obtain ⟨w1, w2, w3⟩ := k1.write (owL_some e2) h1 (o' := .lst (ds ++ es)) (u := .lst (ws ++ zs)) ⟨_, rfl, g3.append m2⟩
              exact ⟨l, b, ws, zs, rfl, rfl, g2, m1, by rw [g3.length, m2.length]; exact c, q .non _ w1 (f1.trans w2) rfl⟩
            · exact q.elim
          | _ => simp only [e3] at q; exact q.elim
theorem e_ins (i : Nat) {fa f : M D} (h1 : SD X W a fa) (h : SD X W e f) (hN : X.N[i]? = some x := by rfl) (hv : Vis X.env.scope x := by first | exact Or.inl rfl | exact Or.inr (Or.inl rfl) | exact Or.inr (Or.inr rfl)) (hd : (x == ("__debug__" : Str)) = false := by decide)
    (hcd : (x == ("__classdict__" : Str)) = false := by decide) (hs : starEach [a, e] X.env = (false, eval a X.env) :: starEach [e] X.env := by rfl) (hs2 : Na e X := by rfl) (hline : (p1.endLine == pos.line) = true := by rfl) : SE X W (.Call (.Attribute (.Name x p2) "insert" p1) [a, e] [] pos) (cIns i fa f) := by
  obtain ⟨ta, pa, sa⟩ := h1
  obtain ⟨t, p, s⟩ := h
  refine ⟨_, pe_bm PySem.F.plainAttrs_list PySem.F.slot_list_insert PySem.F.type_list_insert mt_insert (pe_var hN hv hd hcd) (pa_cons pa (pa_cons p pa_nil hs2) hs) rfl (by rw [hs, hs2]; rfl) hline hs (by rw [hs2]; rfl), fun B Z env σ H Q k q => ?_⟩
  unfold cIns at q
  cases e0 : owL env i with
  | none => rw [bnd_fail (by unfold chk; rw [e0])] at q; exact q.elim
  | some gd =>
    obtain ⟨g0, ds0⟩ := gd
    rw [bnd_ok (a := ()) (ρ' := env) (by unfold chk; rw [e0])] at q
    obtain ⟨l, vs, h1, h2, h3⟩ := chk_ok k e0
    refine ⟨.ref l, h1, .inl ⟨rfl, vs, .inl (.inl h2)⟩, sa B Z env σ H _ k ?_⟩
    cases e1 : fa env with
    | fail => rw [bnd_fail e1] at q; exact q
    | ex x ρ => rw [bnd_ex e1] at q; exact q
    | ok n ρ =>
      rw [bnd_ok e1] at q
      intro vn H1 k1 f1 r1
      refine s B Z ρ σ H1 _ k1 ?_
      cases e2 : f ρ with
      | fail => rw [bnd_fail e2] at q; exact q
      | ex x ρ2 => rw [bnd_ex e2] at q; exact fun c d H' k' f' w => q c d H' k' (f1.trans f') w
      | ok d ρ2 =>
        rw [bnd_ok e2] at q
        intro v H2 k2 f2 r2
        cases e3 : owL ρ2 i with
        | none => simp only [e3] at q; exact q.elim
        | some gd =>
          obtain ⟨g, ds⟩ := gd
          cases n with
          | int n =>
            simp only [e3] at q
            obtain ⟨l', ws, g1, g2, g3⟩ := chk_ok k2 e3
            rw [h1] at g1
            cases g1
            split at q
            · rename_i c
              obtain ⟨w1, w2, w3⟩ := k2.write (owL_some e3) h1 (o' := .lst (ds.take n.toNat ++ [d] ++ ds.drop n.toNat)) (u := .lst (ws.take n.toNat ++ [v] ++ ws.drop n.toNat)) ⟨_, rfl, ((g3.take _).append (RepL.cons r2 RepL.nil)).append (g3.drop _)⟩
              exact ⟨l, ws, n, v, rfl, by rw [show vn = V.int n from r1], g2, by rw [g3.length]; exact c.1, c.2.1, c.2.2, q .non _ w1 ((f1.trans f2).trans w2) rfl⟩
            · exact q.elim
          | _ => simp only [e3] at q; exact q.elim
theorem e_pop (i : Nat) (hN : X.N[i]? = some x := by rfl) (hv : Vis X.env.scope x := by first | exact Or.inl rfl | exact Or.inr (Or.inl rfl) | exact Or.inr (Or.inr rfl)) (hd : (x == ("__debug__" : Str)) = false := by decide)
    (hcd : (x == ("__classdict__" : Str)) = false := by decide) (hline : (p1.endLine == pos.line) = true := by rfl) : SE X W (.Call (.Attribute (.Name x p2) "pop" p1) [] [] pos) (cPop i) := by
  refine ⟨_, pe_bm0 PySem.F.plainAttrs_list PySem.F.slot_list_pop PySem.F.type_list_pop mt_pop (pe_var hN hv hd hcd) rfl hline, fun B Z env σ H Q k q => ?_⟩
  unfold cPop at q
  cases e2 : owL env i with
  | none => simp only [e2] at q; exact q.elim
  | some gd =>
    obtain ⟨g, ds⟩ := gd
    simp only [e2] at q
    obtain ⟨l, ws, h1, g2, g3⟩ := chk_ok k e2
    cases e3 : ds[ds.length - 1]? with
    | none => simp only [e3] at q; exact q.elim
    | some d =>
      simp only [e3] at q
      obtain ⟨v, m1, m2⟩ := g3.get e3
      have hdl : RepL X.K (hid H Z env σ) ds.dropLast ws.dropLast := by
        rw [List.dropLast_eq_take, List.dropLast_eq_take, g3.length]
        exact g3.take _
      obtain ⟨w1, w2, w3⟩ := k.write (owL_some e2) h1 (o' := .lst ds.dropLast) (u := .lst ws.dropLast) ⟨_, rfl, hdl⟩
      exact ⟨.ref l, h1, .inl ⟨rfl, ws, .inl (.inl g2)⟩, l, ws, v, rfl, rfl, g2, by rw [g3.length]; exact m1, q v _ w1 w2 (by show Rep X.K (hid (upd H l (.lst ws.dropLast)) Z (env.set i (.ow g (.lst ds.dropLast))) σ) d v; rw [w3]; exact m2)⟩
/-! x[i] = e -/
def cSetI (i : Nat) (fe : M D) (fi : M D) : M Fl := bnd fe fun d => bnd (chk i) fun _ => bnd fi fun n => fun ρ => match owL ρ i, n with
  | some (g, ds), .int n => match ixN ds.length n with
    | some j => .ok .nx (ρ.set i (.ow g (.lst (ds.set j d))))
    | none => .fail
  | _, _ => .fail
theorem s_setI (i : Nat) {fe fi : M D} (he : SD X W e fe) (hi : SD X W a fi) (hN : X.N[i]? = some x := by rfl) (hv : Vis X.env.scope x := by first | exact Or.inl rfl | exact Or.inr (Or.inl rfl) | exact Or.inr (Or.inr rfl)) (hd : (x == ("__debug__" : Str)) = false := by decide)
    (hcd : (x == ("__classdict__" : Str)) = false := by decide)
    (ha : ∀ v, assign (.Subscript (.Name x p2) a p1) X.env v = (do
      let ov ← holding [v] (eval (.Name x p2) X.env)
      let iv ← holding [v, ov] (eval a X.env)
      standAt p1
      holding [v, ov, iv] (setItem ov iv v)
      release [v, ov, iv] []) := by intro _; rfl)
    (hs : swapsWithSole [.Subscript (.Name x p2) a p1] e pos.line X.env = pure false := by rfl) (hw : swappedStores [.Subscript (.Name x p2) a p1] e X.env = pure none := by rfl) : SS X W (.Assign [.Subscript (.Name x p2) a p1] e pos) (cSetI i fe fi) := by
  obtain ⟨t, p, s⟩ := he
  obtain ⟨ti, pi, si⟩ := hi
  refine ⟨_, ps_asg p (pg_sub (pe_var hN hv hd hcd) pi set_list ha) hs hw rfl, fun B Z env σ H D k q => s B Z env σ H _ k ?_⟩
  unfold cSetI at q
  cases e1 : fe env with
  | fail => rw [bnd_fail e1] at q; exact q
  | ex x ρ => rw [bnd_ex e1] at q; exact fun c d H' k' f' w => q c d σ H' k' f' w
  | ok d ρ =>
    rw [bnd_ok e1] at q
    intro v H1 k1 f1 r1
    cases e0 : owL ρ i with
    | none => rw [bnd_fail (by unfold chk; rw [e0])] at q; exact q.elim
    | some gd =>
      obtain ⟨g0, ds0⟩ := gd
      rw [bnd_ok (a := ()) (ρ' := ρ) (by unfold chk; rw [e0])] at q
      obtain ⟨l, vs, h1, h2, h3⟩ := chk_ok k1 e0
      refine ⟨.ref l, h1, si B Z ρ σ H1 _ k1 ?_⟩
      cases e2 : fi ρ with
      | fail => rw [bnd_fail e2] at q; exact q
      | ex x ρ2 => rw [bnd_ex e2] at q; exact fun c d H' k' f' w => q c d σ H' k' (f1.trans f') w
      | ok n ρ2 =>
        rw [bnd_ok e2] at q
        intro vn H2 k2 f2 r2
        cases e3 : owL ρ2 i with
        | none => simp only [e3] at q; exact q.elim
        | some gd =>
          obtain ⟨g, ds⟩ := gd
          cases n with
          | int n =>
            simp only [e3] at q
            obtain ⟨l', ws, g1, g2, g3⟩ := chk_ok k2 e3
            rw [h1] at g1
            cases g1
            cases e4 : ixN ds.length n with
            | none => simp only [e4] at q; exact q.elim
            | some j =>
              simp only [e4] at q
              obtain ⟨w1, w2, w3⟩ := k2.write (owL_some e3) h1 (o' := .lst (ds.set j d)) (u := .lst (ws.set j v)) ⟨_, rfl, g3.set j (r1.mono f2.inc)⟩
              exact ⟨l, ws, n, j, rfl, r2, g2, by rw [g3.length]; exact e4, q σ _ w1 ((f1.trans f2).trans w2)⟩
          | _ => simp only [e3] at q; exact q.elim
end
/-! x += e, of a value -/
def dAug : Operator → D → D → Option D
  | .Add, .int i, .int j => some (.int (i + j))
  | .Add, .str i, .str j => if i.length + j.length ≤ sizeLine then some (.str (i ++ j)) else none
  | .Sub, .int i, .int j => some (.int (i - j))
  | _, _, _ => none
def vaAt (ρ : Env) (i : Nat) : Option D := match ρ[i]? with
  | some (.va d) => some d
  | _ => none
def cAug (op : Operator) (i : Nat) (f : M D) : M Fl := fun ρ0 => match vaAt ρ0 i with
  | none => .fail
  | some x => bnd f (fun y => fun ρ => match dAug op x y with
    | some z => stV i (.va z) ρ
    | none => .fail) ρ0
theorem aug_run {X : Cx} {W : WX} {i : Nat} {op : Operator} {f : M D} {t : TE} {r : TIp} (s : ∀ B Z env σ H Q, Ok X.K B H Z env σ → DPost X.K W B Z env σ H (f env) Q → t σ H Q)
    (hr : ∀ K' (Hh H : Hp) x y z v w (Q : VK), Rep K' Hh x v → Rep K' Hh y w → dAug op x y = some z → (∀ u, Rep K' Hh z u → Q u H) → r v w H Q) :
    ∀ B Z env σ H D, Ok X.K B H Z env σ → SPost X.K W B Z env σ H (cAug op i f env) D → tAug i t r D σ H := by
  intro B Z env σ H D k q
  unfold cAug at q
  cases e0 : env[i]? with
  | none => simp only [vaAt, e0] at q; exact q.elim
  | some s0 =>
    cases s0 with
    | un => simp only [vaAt, e0] at q; exact q.elim
    | ow g o => simp only [vaAt, e0] at q; exact q.elim
    | va x =>
      simp only [vaAt, e0] at q
      obtain ⟨vx, h1, h2⟩ := k.va i x e0
      refine ⟨vx, h1, s B Z env σ H _ k ?_⟩
      cases e1 : f env with
      | fail => rw [bnd_fail e1] at q; exact q
      | ex x ρ => rw [bnd_ex e1] at q; exact fun c d H' k' f' w => q c d σ H' k' f' w
      | ok y ρ =>
        rw [bnd_ok e1] at q
        intro w H1 k1 f1 r1
        cases e2 : dAug op x y with
        | none => simp only [e2] at q; exact q.elim
        | some z =>
          simp only [e2] at q
          refine hr X.K (hid H1 Z ρ σ) H1 x y z vx w _ (h2.mono f1.inc) r1 e2 fun u ru => ?_
          unfold stV at q
          cases e3 : ρ[i]? with
          | none => simp only [e3] at q; exact q.elim
          | some s3 =>
            have hs : ∀ o, s3 ≠ .ow true o := fun o z => by subst z; simp only [e3] at q; exact q
            have q' : SPost X.K W B Z env σ H (.ok .nx (ρ.set i (asV (.va z)))) D := by
              cases s3 with
              | un => simp only [e3] at q; exact q
              | va d => simp only [e3] at q; exact q
              | ow g o =>
                cases g with
                | true => exact absurd rfl (hs o)
                | false => simp only [e3] at q; exact q
            obtain ⟨a, b, c⟩ := Ok.store (rv := .va z) (v := u) k1 ru e3 hs
            exact q' _ H1 a ⟨fun p o z => b p o (f1.inc p o z), f1.z, fun _ z => z, f1.nn, fun j o z => by
              obtain ⟨⟨o', h1⟩, h2⟩ := f1.io j o z
              obtain ⟨h3, h4⟩ := c j o' h1
              exact ⟨⟨o', h3⟩, h4.trans h2⟩⟩
theorem s_augAdd {X : Cx} {W : WX} {pos p2 : Pos} {x : Str} {e : Expr} (i : Nat) {f : M D} (hN : X.N.Nodup) (h : SD X W e f) (hi : X.N[i]? = some x := by rfl) (hx : Loc X.env.scope x := by first | exact .inl rfl | exact .inr rfl)
    (hf : X.fn x = true ∨ X.env.scope.names.lookup x = some .local := by first | exact .inl rfl | exact .inr rfl) : SS X W (.AugAssign (.Name x p2) .Add e pos) (cAug .Add i f) := by
  obtain ⟨t, p, s⟩ := h
  refine ⟨_, ps_aug (op := .Add) hN hi hx p (show PIp X .Add (fun x y H Q => (rI0 fun i j => .int (i + j)) x y H Q ∨ (∃ i j, x = .str i ∧ y = .str j ∧ i.length + j.length ≤ sizeLine ∧ Q (.str (i ++ j)) H)) from (iop_add.or iop_add_str)) hf, aug_run s ?_⟩
  intro K' Hh H x y z v w Q rx ry hd q
  cases x with
  | int i =>
    cases y with
    | int j => cases hd; exact .inl ⟨i, j, rx, ry, q _ rfl⟩
    | _ => cases hd
  | str i =>
    cases y with
    | str j =>
      simp only [dAug] at hd
      split at hd
      · rename_i c
        cases hd
        exact .inr ⟨i, j, rx.1, ry.1, c, q _ ⟨rfl, strOk_append rx.2 ry.2⟩⟩
      · cases hd
    | _ => cases hd
  | _ => cases hd
theorem s_augSub {X : Cx} {W : WX} {pos p2 : Pos} {x : Str} {e : Expr} (i : Nat) {f : M D} (hN : X.N.Nodup) (h : SD X W e f) (hi : X.N[i]? = some x := by rfl) (hx : Loc X.env.scope x := by first | exact .inl rfl | exact .inr rfl)
    (hf : X.fn x = true ∨ X.env.scope.names.lookup x = some .local := by first | exact .inl rfl | exact .inr rfl) : SS X W (.AugAssign (.Name x p2) .Sub e pos) (cAug .Sub i f) := by
  obtain ⟨t, p, s⟩ := h
  refine ⟨_, ps_aug (op := .Sub) hN hi hx p (show PIp X .Sub (rI0 fun i j => .int (i - j)) from iop_sub) hf, aug_run s ?_⟩
  intro K' Hh H x y z v w Q rx ry hd q
  cases x with
  | int i =>
    cases y with
    | int j => cases hd; exact ⟨i, j, rx, ry, q _ rfl⟩
    | _ => cases hd
  | _ => cases hd
end RF

namespace RF
open PySem PySem.Spec PyProof.Rows L2

/-! ### what is walked -/
/-- an iterator that gives ds, one by one; Hh: what is seen while it is walked -/
def ItOk (K : PySem.W.Frag) (Hh : Hp) (J : It) (ds : List D) : Prop := ∃ G Y, Walk J ds.length G Y ∧ (∀ H2, Inc Hh H2 → G H2) ∧
  ∀ i d H2 x H3, ds[i]? = some d → Inc Hh H2 → Y i H2 x H3 → (H3 = H2 ∧ Rep K Hh d x) ∨ ∃ T es us, x = .ref T ∧ H2 T = none ∧ H3 = upd H2 T (.tup us) ∧ d = .tup es ∧ RepL K Hh es us
def IPost (K : PySem.W.Frag) (W : WX) (B : Hp) (Z : Addr → Prop) (env : Env) (σ : L2.St) (H : Hp) (r : R (List D)) (Q : It → Hp → Prop) : Prop := match r with
  | .fail => False
  | .ok ds env' => ∀ J H', Ok K B H' Z env' σ → Fr H Z env σ H' Z env' σ → ItOk K (hid H' Z env' σ) J ds → Q J H'
  | .ex x env' => ∀ c d H', Ok K B H' Z env' σ → Fr H Z env σ H' Z env' σ → XOk K (hid H' Z env' σ) x c d H' → W c d σ H'
def SI (X : Cx) (W : WX) (tg e : Expr) (f : M (List D)) : Prop := ∃ t, PI X tg e t ∧ ∀ B Z env σ H Q, Ok X.K B H Z env σ → IPost X.K W B Z env σ H (f env) Q → t σ H Q
theorem item_ok {K : PySem.W.Frag} {B Hh H2 H3 : Hp} {Z : Addr → Prop} {env : Env} {σ : L2.St} {d : D} {x : V} (k : Ok K B H2 Z env σ) (i : Inc Hh (hid H2 Z env σ))
    (h : (H3 = H2 ∧ Rep K Hh d x) ∨ ∃ T es us, x = .ref T ∧ H2 T = none ∧ H3 = upd H2 T (.tup us) ∧ d = .tup es ∧ RepL K Hh es us) : Ok K B H3 Z env σ ∧ Fr H2 Z env σ H3 Z env σ ∧ Rep K (hid H3 Z env σ) d x := by
  rcases h with ⟨rfl, h⟩ | ⟨T, es, us, rfl, hn, rfl, rfl, h⟩
  · exact ⟨k, Fr.refl, h.mono i⟩
  · obtain ⟨a, b, c, e⟩ := k.newV (o := .tup us) hn
    exact ⟨a, b, T, us, rfl, .inl (.inl e), h.mono fun p o z => c p o (i p o z)⟩
/-! a list, a tuple, a text -/
def seqI : D → Option (List D)
  | .lst ds => some ds
  | .tup ds => some ds
  | .rls ds => some ds
  | .str s => some (s.cps.toList.map chD)
  | _ => none
def cIt (f : M D) : M (List D) := bnd f fun d => fun ρ => opt (seqI d) ρ
def iAny (K : PySem.W.Frag) (te : TE) : TI := fun σ H R => te σ H fun x H1 => (∃ a xs, x = .ref a ∧ SqL K H1 a xs ∧ R (Itl K a) H1) ∨ (∃ a xs, x = .ref a ∧ SqT K H1 a xs ∧ R (Itt K a) H1) ∨ ∃ z, x = .str z ∧ R (Its z) H1
theorem pi_any {X : Cx} {tg e : Expr} {te : TE} (he : PE X e te) : PI X tg e (iAny X.K te) := by
  refine ⟨fun pins s σ H R I h => ?_⟩
  refine thn (he.run pins s σ H _ I h) fun v s1 hv => ?_
  obtain ⟨x, H1, I1, r1, q1⟩ := hv
  have one : ∀ a : Addr, FpOk X pins H1 s1.heap.objs.size := fun a => I1.fpOk (Nat.le_refl _) (I1.hok.fresh (Nat.le_refl _))
  rcases q1 with ⟨a, xs, rfl, hq, q⟩ | ⟨a, xs, rfl, hq, q⟩ | ⟨z, rfl, q⟩
  · cases r1
    obtain ⟨its, rv, p, _⟩ := I1.list hq
    exact wpAny_pyIter_list p.isList (pi_one (tk := s1.toks) I1 _ (turn_list a _) ⟨_, Heap.get?_push_size _ rfl, rfl, rfl⟩ q)
  · cases r1
    obtain ⟨its, rv, p, _⟩ := I1.tuple hq
    exact wpAny_pyIter_tuple (show s1.heap.IsTuple a its.toArray from p) (pi_one (tk := s1.toks) I1 _ (turn_tuple a _) ⟨_, Heap.get?_push_size _ rfl, rfl, rfl⟩ q)
  · obtain ⟨t, rfl⟩ := r1
    cases ha : z.cps.all (· < 128)
    · exact wpAny_pyIter_wide ha (pi_one (tk := s1.toks) I1 _ (turn_str _ z t "str_iterator" (.inr rfl)) ⟨_, Heap.get?_push_size _ rfl, rfl, rfl⟩ q)
    · exact wpAny_pyIter_ascii ha (pi_one (tk := s1.toks) I1 _ (turn_str _ z t "str_ascii_iterator" (.inl rfl)) ⟨_, Heap.get?_push_size _ rfl, rfl, rfl⟩ q)
theorem itOk_list {K : PySem.W.Frag} {Hh : Hp} {a : Addr} {vs : List V} {ds : List D} (h : SqL K Hh a vs) (r : RepL K Hh ds vs) : ItOk K Hh (Itl K a) ds :=
  ⟨fun H2 => SqL K H2 a vs, YAt vs, by rw [← r.length]; exact walk_list (xs := vs), fun H2 i => Inc.sl i h, fun i d H2 x H3 e _ y => .inl ⟨y.1, by
    obtain ⟨v, e1, e2⟩ := r.get e
    have y2 : vs[i]? = some x := y.2
    rw [e1] at y2
    cases y2
    exact e2⟩⟩
theorem itOk_tup {K : PySem.W.Frag} {Hh : Hp} {a : Addr} {vs : List V} {ds : List D} (h : SqT K Hh a vs) (r : RepL K Hh ds vs) : ItOk K Hh (Itt K a) ds :=
  ⟨fun H2 => SqT K H2 a vs, YAt vs, by rw [← r.length]; exact walk_tup (xs := vs), fun H2 i => Inc.st i h, fun i d H2 x H3 e _ y => .inl ⟨y.1, by
    obtain ⟨v, e1, e2⟩ := r.get e
    have y2 : vs[i]? = some x := y.2
    rw [e1] at y2
    cases y2
    exact e2⟩⟩
theorem itOk_str {K : PySem.W.Frag} {Hh : Hp} {z : Str} (h : PyData.strOk z = true) : ItOk K Hh (Its z) (z.cps.toList.map chD) :=
  ⟨fun _ => True, fun i H v H' => H' = H ∧ ∃ c, z.cps[i]? = some c ∧ v = .str ⟨#[c]⟩, by rw [List.length_map, Array.length_toList]; exact walk_str (z := z), fun _ _ => trivial, fun i d H2 x H3 e _ y => .inl ⟨y.1, by
    obtain ⟨c, h1, h2⟩ := y.2
    rw [List.getElem?_map, Array.getElem?_toList, h1] at e
    cases e
    refine ⟨h2, ?_⟩
    have hm : c ∈ z.cps := Array.mem_of_getElem? h1
    unfold PyData.strOk at h ⊢
    rw [Array.all_eq_true'] at h
    simpa using h c hm⟩⟩
theorem i_any {X : Cx} {W : WX} {tg e : Expr} {f : M D} (h : SD X W e f) : SI X W tg e (cIt f) := by
  obtain ⟨t, p, s⟩ := h
  refine ⟨_, pi_any p, fun B Z env σ H Q k q => s B Z env σ H _ k ?_⟩
  unfold cIt at q
  cases e1 : f env with
  | fail => rw [bnd_fail e1] at q; exact q
  | ex x ρ => rw [bnd_ex e1] at q; exact q
  | ok d ρ =>
    rw [bnd_ok e1] at q
    intro v H1 k1 f1 r1
    cases d with
    | lst ds =>
      obtain ⟨a, vs, rfl, h1, h2⟩ := r1
      exact .inl ⟨a, vs, rfl, .inl (.inl (hid_inc a _ h1)), q _ H1 k1 f1 (itOk_list (.inl (.inl h1)) h2)⟩
    | rls ds =>
      obtain ⟨a, vs, rfl, h1, h2⟩ := r1
      exact .inl ⟨a, vs, rfl, Inc.sl hid_inc h1, q _ H1 k1 f1 (itOk_list h1 h2)⟩
    | tup ds =>
      obtain ⟨a, vs, rfl, h1, h2⟩ := r1
      exact .inr (.inl ⟨a, vs, rfl, Inc.st hid_inc h1, q _ H1 k1 f1 (itOk_tup h1 h2)⟩)
    | str z => exact .inr (.inr ⟨z, r1.1, q _ H1 k1 f1 (itOk_str r1.2)⟩)
    | _ => exact q.elim
/-! range -/
def rngL (lo hi : Int) : List D := (List.range (hi - lo).toNat).map fun (i : Nat) => D.int (lo + (i : Int))
theorem itOk_rng {K : PySem.W.Frag} {Hh : Hp} {lo hi : Int} {n : Nat} (hn : n = (hi - lo).toNat) : ItOk K Hh (Itr lo n) (rngL lo hi) :=
  ⟨fun _ => True, YFn fun i => .int (lo + i), by unfold rngL; rw [List.length_map, List.length_range, ← hn]; exact walk_range, fun _ _ => trivial, fun i d H2 x H3 e _ y => .inl ⟨y.1, by
    obtain ⟨hi', _⟩ := List.getElem?_eq_some_iff.mp e
    unfold rngL at e
    rw [List.getElem?_map] at e
    cases q : (List.range (hi - lo).toNat)[i]? with
    | none => rw [q] at e; cases e
    | some j =>
      rw [q] at e
      cases e
      have : j = i := by
        have := List.getElem?_eq_some_iff.mp q
        obtain ⟨h1, h2⟩ := this
        simpa using h2.symm
      subst this
      exact y.2⟩⟩
def inRng (i : Int) : Bool := decide (-(2 ^ 62) ≤ i ∧ i < 2 ^ 62)
def cRng1 (o : Op) : M (List D) := bnd (pre [o]) fun xs => fun ρ => match finL [o] xs ρ with
  | some [.int j] => if inRng j then .ok (rngL 0 j) ρ else .fail
  | _ => .fail
def cRng2 (o u : Op) : M (List D) := bnd (pre [o, u]) fun xs => fun ρ => match finL [o, u] xs ρ with
  | some [.int i, .int j] => if inRng i ∧ inRng j then .ok (rngL i j) ρ else .fail
  | _ => .fail
section
variable {X : Cx} {W : WX} {tg a b : Expr} {p pos : Pos} {o u : Op}
theorem i_rng1 (hm : X.mg "range" = none) (h : SO X W a o) (hg : Gl X "range" := by rfl) (hs : Na a X := by rfl) : SI X W tg (.Call (.Name "range" p) [a] [] pos) (cRng1 o) := by
  obtain ⟨ta, pa, sa⟩ := a_cons h a_nil hs
  refine ⟨_, pi_range1 hg hm pa hs, fun B Z env σ H Q k q => sa B Z env σ H _ k ?_⟩
  unfold cRng1 at q
  cases e1 : pre [o] env with
  | fail => rw [bnd_fail e1] at q; exact q
  | ex x ρ => rw [bnd_ex e1] at q; exact q
  | ok xs ρ =>
    rw [bnd_ok e1] at q
    intro vs H1 k1 f1 p1
    cases e2 : finL [o] xs ρ with
    | none => simp only [e2] at q; exact q.elim
    | some ds =>
      match ds, e2, q with
      | [.int j], e2, q =>
        obtain ⟨v, rfl, hv⟩ := (p1.fin k1 e2).one
        simp only [e2] at q
        split at q
        · rename_i c
          simp only [inRng, decide_eq_true_eq] at c
          exact ⟨j, by rw [show v = V.int j from hv], c.1, c.2, q _ H1 k1 f1 (itOk_rng (by simp))⟩
        · exact q.elim
      | [], e2, q => simp only [e2] at q; exact q.elim
      | .non :: _, e2, q | .bl _ :: _, e2, q | .str _ :: _, e2, q | .tup _ :: _, e2, q | .lst _ :: _, e2, q | .rls _ :: _, e2, q | .dct _ _ :: _, e2, q => simp only [e2] at q; exact q.elim
      | .int _ :: _ :: _, e2, q => simp only [e2] at q; exact q.elim
theorem i_rng2 (hm : X.mg "range" = none) (h : SO X W a o) (h2 : SO X W b u) (hg : Gl X "range" := by rfl) (hs : starEach [a, b] X.env = [(false, eval a X.env), (false, eval b X.env)] := by rfl) (hs2 : starEach [b] X.env = [(false, eval b X.env)] := by rfl) :
    SI X W tg (.Call (.Name "range" p) [a, b] [] pos) (cRng2 o u) := by
  obtain ⟨ta, pa, sa⟩ := a_cons h (a_cons h2 a_nil hs2) (by rw [hs, hs2])
  refine ⟨_, pi_range2 hg hm pa hs hs2, fun B Z env σ H Q k q => sa B Z env σ H _ k ?_⟩
  unfold cRng2 at q
  cases e1 : pre [o, u] env with
  | fail => rw [bnd_fail e1] at q; exact q
  | ex x ρ => rw [bnd_ex e1] at q; exact q
  | ok xs ρ =>
    rw [bnd_ok e1] at q
    intro vs H1 k1 f1 p1
    cases e2 : finL [o, u] xs ρ with
    | none => simp only [e2] at q; exact q.elim
    | some ds =>
      simp only [e2] at q
      split at q
      · rename_i i j e3
        cases e3
        obtain ⟨v, w, rfl, hv, hw⟩ := (p1.fin k1 e2).two
        split at q
        · rename_i c
          simp only [inRng, decide_eq_true_eq] at c
          exact ⟨i, j, by rw [show v = V.int i from hv, show w = V.int j from hw], ⟨c.1.1, c.1.2, c.2.1, c.2.2⟩, q _ H1 k1 f1 (itOk_rng rfl)⟩
        · exact q.elim
      · exact q.elim
end
/-! ### targets -/
abbrev Tg := D → Env → Option Env
def GPost (K : PySem.W.Frag) (B : Hp) (Z : Addr → Prop) (env : Env) (σ : L2.St) (H : Hp) (sl : List Nat) (r : Option Env) (Q : L2.St → Hp → Prop) : Prop := match r with
  | some env' => ∀ σ', Ok K B H Z env' σ' → Fr H Z env σ H Z env' σ' → σ'.length = σ.length → (∀ i, i ∉ sl → σ'[i]? = σ[i]?) → Q σ' H
  | none => False
def SG (X : Cx) (tg : Expr) (sl : List Nat) (g : Tg) : Prop := ∃ t, PG X tg t ∧ ∀ B Z env σ H d v Q, Ok X.K B H Z env σ → Rep X.K (hid H Z env σ) d v → GPost X.K B Z env σ H sl (g d env) Q → t v σ H Q
def tgN (i : Nat) : Tg := fun d ρ => match ρ[i]? with
  | none => none
  | some (.ow true _) => none
  | some _ => some (ρ.set i (.va d))
section
variable {X : Cx} {pos : Pos} {x : Str}
theorem g_name (i : Nat) (hN : X.N.Nodup) (hi : X.N[i]? = some x := by rfl) (hx : Loc X.env.scope x := by first | exact .inl rfl | exact .inr rfl) (hf : X.fn x = true ∨ X.env.scope.names.lookup x = some .local := by first | exact .inl rfl | exact .inr rfl) : SG X (.Name x pos) [i] (tgN i) := by
  refine ⟨_, pg_name hN hi hx hf, fun B Z env σ H d v Q k r q => ?_⟩
  unfold tgN at q
  cases e2 : env[i]? with
  | none => simp only [e2] at q; exact q.elim
  | some s =>
    have hs : ∀ o, s ≠ .ow true o := fun o z => by subst z; simp only [e2] at q; exact q
    have q' : GPost X.K B Z env σ H [i] (some (env.set i (asV (.va d)))) Q := by
      cases s with
      | un => simp only [e2] at q; exact q
      | va d => simp only [e2] at q; exact q
      | ow g o =>
        cases g with
        | true => exact absurd rfl (hs o)
        | false => simp only [e2] at q; exact q
    obtain ⟨a, b, c⟩ := Ok.store (rv := .va d) (v := v) k r e2 hs
    exact q' _ a ⟨b, fun _ _ _ h => h, fun _ z => z, fun _ h => h, fun j o z => by
      obtain ⟨h3, h4⟩ := c j o z
      exact ⟨⟨o, h3⟩, h4⟩⟩ (by rw [List.length_set]) fun j hj => by
        rw [List.getElem?_set_ne]
        intro z
        exact hj (by simp [z])
def tgL : List Tg → List D → Env → Option Env
  | [], [], ρ => some ρ
  | g :: gs, d :: ds, ρ => (g d ρ).bind (tgL gs ds)
  | _, _, _ => none
def SGs (X : Cx) (es : List Expr) (sl : List Nat) (gs : List Tg) : Prop := ∃ t, PGs X es t ∧ es.length = gs.length ∧ ∀ B Z env σ H ds vs Q, Ok X.K B H Z env σ → RepL X.K (hid H Z env σ) ds vs → GPost X.K B Z env σ H sl (tgL gs ds env) Q → t vs σ H Q
theorem gs_nil : SGs X [] [] [] := ⟨_, pgs_nil, rfl, fun B Z env σ H ds vs Q k r q => by
  cases ds with
  | nil => exact ⟨r, q σ k Fr.refl rfl fun _ _ => rfl⟩
  | cons d ds => exact q.elim⟩
theorem gs_cons {e : Expr} {es : List Expr} {sl sl2 : List Nat} {g : Tg} {gs : List Tg} (h : SG X e sl g) (h2 : SGs X es sl2 gs) (hs : (assignEach (e :: es) X.env).map (·.2) = assign e X.env :: (assignEach es X.env).map (·.2) := by rfl) : SGs X (e :: es) (sl ++ sl2) (g :: gs) := by
  obtain ⟨t, p, s⟩ := h
  obtain ⟨t2, p2, l2, s2⟩ := h2
  refine ⟨_, pgs_cons p p2 hs, by rw [List.length_cons, List.length_cons, l2], fun B Z env σ H ds vs Q k r q => ?_⟩
  cases ds with
  | nil => exact q.elim
  | cons d ds =>
    obtain ⟨v, r', rfl, h1, h2⟩ := r
    refine ⟨v, r', rfl, s B Z env σ H d v _ k h1 ?_⟩
    simp only [tgL] at q
    cases e1 : g d env with
    | none => rw [e1] at q; exact q
    | some ρ =>
      rw [e1] at q
      intro σ1 k1 f1 l1 m1
      refine s2 B Z ρ σ1 H ds r' _ k1 (h2.mono f1.inc) ?_
      have q : GPost X.K B Z env σ H (sl ++ sl2) (tgL gs ds ρ) Q := q
      cases e2 : tgL gs ds ρ with
      | none => rw [e2] at q; exact q
      | some ρ2 =>
        rw [e2] at q
        exact fun σ2 k2 f2 l2 m2 => q σ2 k2 (f1.trans f2) (l2.trans l1) fun i hi => by
          rw [List.mem_append, not_or] at hi
          exact (m2 i hi.2).trans (m1 i hi.1)
def tgT (gs : List Tg) : Tg := fun d => match d with
  | .tup ds => tgL gs ds
  | _ => fun _ => none
theorem tgL_len : ∀ {gs : List Tg} {ds : List D} {ρ ρ' : Env}, tgL gs ds ρ = some ρ' → ds.length = gs.length
  | [], [], _, _, _ => rfl
  | [], _ :: _, _, _, h => by cases h
  | _ :: _, [], _, _, h => by cases h
  | g :: gs, d :: ds, ρ, _, h => by
    simp only [tgL] at h
    cases e : g d ρ with
    | none => rw [e] at h; cases h
    | some ρ2 =>
      rw [e] at h
      rw [List.length_cons, List.length_cons, tgL_len (gs := gs) (ds := ds) (ρ := ρ2) h]
theorem g_tup {es : List Expr} {k : Nat} {sl : List Nat} {gs : List Tg} (h : SGs X es sl gs) (hc : X.calm = true := by rfl) (hn : (assignEach es X.env).length = gs.length := by rfl) (hst : (assignEach es X.env).findIdx? (·.1) = none := by rfl) : SG X (.Tuple es k pos) sl (tgT gs) := by
  obtain ⟨t, p, l, s⟩ := h
  refine ⟨_, pg_tup hc p hn hst, fun B Z env σ H d v Q k r q => ?_⟩
  cases d with
  | tup ds =>
    obtain ⟨a, vs, rfl, h1, h2⟩ := r
    refine ⟨a, vs, rfl, Inc.st hid_inc h1, ?_, s B Z env σ H ds vs Q k h2 q⟩
    simp only [tgT] at q
    cases e1 : tgL gs ds env with
    | none => rw [e1] at q; exact q.elim
    | some ρ => rw [h2.length, tgL_len e1]
  | _ => exact q.elim
end
/-- target = value -/
def cAsgT (g : Tg) (f : M D) : M Fl := bnd f fun d => fun ρ => opt ((g d ρ).map fun _ => Fl.nx) (g d ρ |>.getD ρ)
theorem s_asgT {X : Cx} {W : WX} {tg e : Expr} {pos : Pos} {sl : List Nat} {g : Tg} {f : M D} (he : SD X W e f) (hg : SG X tg sl g) (hs : swapsWithSole [tg] e pos.line X.env = pure false := by rfl) (hw : swappedStores [tg] e X.env = pure none := by rfl)
    (h1 : (assignEach [tg] X.env).map (·.2) = [assign tg X.env] := by rfl) : SS X W (.Assign [tg] e pos) (cAsgT g f) := by
  obtain ⟨t, p, s⟩ := he
  obtain ⟨tg', pg, sg⟩ := hg
  refine ⟨_, ps_asg p pg hs hw h1, fun B Z env σ H D k q => s B Z env σ H _ k ?_⟩
  unfold cAsgT at q
  cases e1 : f env with
  | fail => rw [bnd_fail e1] at q; exact q
  | ex x ρ => rw [bnd_ex e1] at q; exact fun c d H' k' f' w => q c d σ H' k' f' w
  | ok d ρ =>
    rw [bnd_ok e1] at q
    intro v H1 k1 f1 r1
    refine sg B Z ρ σ H1 d v _ k1 r1 ?_
    cases e2 : g d ρ with
    | none => simp only [e2, Option.map, opt] at q; exact q
    | some ρ2 =>
      simp only [e2, Option.map, opt, Option.getD] at q
      exact fun σ' k2 f2 _ _ => q σ' H1 k2 (f1.trans f2)
/-! ### for, while -/
def forL (tg : Tg) (body : M Fl) : List D → M Fl
  | [] => cNx
  | d :: ds => fun ρ => match tg d ρ with
    | none => .fail
    | some ρ1 => bnd body (fun fl => match fl with
      | .nx => forL tg body ds
      | .ct => forL tg body ds
      | .bk => cNx
      | .rt rv => fun ρ => .ok (.rt rv) ρ) ρ1
def cFor (tg : Tg) (it : M (List D)) (body : M Fl) : M Fl := bnd it (forL tg body)
theorem s_for {X : Cx} {W : WX} {tg iter : Expr} {body : List Stmt} {pos : Pos} {sl : List Nat} {g : Tg} {fi : M (List D)} {f : M Fl} (po : PassesOwn (model X.prog X.w) X.A X.env X.xe) (hi : SI X W tg iter fi) (hg : SG X tg sl g) (hb : SB X W body f) (hc : X.calm = true := by rfl)
    (hs : ∀ x, foldedSetIterable iter X.env x = pure x := by intro _; rfl) : SS X W (.For tg iter body [] pos) (cFor g fi f) := by
  obtain ⟨ti, p1, s1⟩ := hi
  obtain ⟨t2, p2, s2⟩ := hg
  obtain ⟨t3, p3, s3⟩ := hb
  refine ⟨_, ps_for po hc p1 p2 p3 hs, fun B Z env σ H D k q => s1 B Z env σ H _ k ?_⟩
  unfold cFor at q
  cases e1 : fi env with
  | fail => rw [bnd_fail e1] at q; exact q
  | ex x ρ => rw [bnd_ex e1] at q; exact fun c d H' k' f' w => q c d σ H' k' f' w
  | ok ds ρ =>
    rw [bnd_ok e1] at q
    intro J H1 k1 f1 it
    obtain ⟨G, Y, wk, hG, hY⟩ := it
    refine for_it wk (fun i σ' H' => ∃ env', Ok X.K B H' Z env' σ' ∧ Fr H1 Z ρ σ H' Z env' σ' ∧ SPost X.K W B Z env σ H (forL g f (ds.drop i) env') D) ⟨ρ, k1, Fr.refl, by rw [List.drop_zero]; exact q⟩ ?_ ?_ ?_
    · rintro i σ' H' _ ⟨env', k', f', _⟩
      exact hG H' fun b o e => hid_inc b o (f'.inc b o e)
    · rintro i x σ' H' H'' hlt ⟨env', k', f', q'⟩ hy
      obtain ⟨d, hd⟩ : ∃ d, ds[i]? = some d := ⟨ds[i], List.getElem?_eq_getElem hlt⟩
      have hdrop : ds.drop i = d :: ds.drop (i + 1) := by
        rw [List.drop_eq_getElem_cons hlt]
        rw [List.getElem?_eq_getElem hlt] at hd
        cases hd
        rfl
      rw [hdrop] at q'
      obtain ⟨k2, f2, r2⟩ := item_ok k' f'.inc (hY i d H' x H'' hd (fun b o e => hid_inc b o (f'.inc b o e)) hy)
      refine s2 B Z env' σ' H'' d x _ k2 r2 ?_
      simp only [forL] at q'
      cases e2 : g d env' with
      | none => simp only [e2] at q'; exact q'
      | some env2 =>
        simp only [e2] at q'
        intro σ2 k3 f3 _ _
        refine s3 B Z env2 σ2 H'' _ k3 ?_
        have f03 := (f1.trans f').trans (f2.trans f3)
        cases e3 : f env2 with
        | fail => rw [bnd_fail e3] at q'; exact q'
        | ex x ρ2 => rw [bnd_ex e3] at q'; exact fun c d σ' H' k' f' w => q' c d σ' H' k' (f03.trans f') w
        | ok fl env3 =>
          rw [bnd_ok e3] at q'
          cases fl with
          | nx => exact fun σ4 H4 k4 f4 => ⟨env3, k4, (f'.trans (f2.trans f3)).trans f4, q'⟩
          | ct => exact fun σ4 H4 k4 f4 => ⟨env3, k4, (f'.trans (f2.trans f3)).trans f4, q'⟩
          | bk => exact fun σ4 H4 k4 f4 => q' σ4 H4 k4 (f03.trans f4)
          | rt rv => exact fun v σ4 H4 k4 f4 r => q' v σ4 H4 k4 (f03.trans f4) r
    · rintro σ' H' ⟨env', k', f', q'⟩
      rw [List.drop_length] at q'
      exact q' σ' H' k' (f1.trans f')
def whileN (c : M Bool) (body : M Fl) : Nat → M Fl
  | 0 => fun _ => .fail
  | n + 1 => bnd c fun b => if b then bnd body (fun fl => match fl with
      | .nx => whileN c body n
      | .ct => whileN c body n
      | .bk => cNx
      | .rt rv => fun ρ => .ok (.rt rv) ρ) else cNx
/-- turns enough for any while here -/
def wBig : Nat := 2 ^ 100
def cWhile (c : M Bool) (body : M Fl) : M Fl := whileN c body wBig
theorem s_while {X : Cx} {W : WX} {c : Expr} {body : List Stmt} {pos : Pos} {fc : M Bool} {f : M Fl} (po : PassesOwn (model X.prog X.w) X.A X.env X.xe) (hc : ST X W c fc) (hb : SB X W body f) : SS X W (.While c body [] pos) (cWhile fc f) := by
  obtain ⟨t2, p2, s2⟩ := hc
  obtain ⟨t3, p3, s3⟩ := hb
  refine ⟨_, ps_while po p2 p3, fun B Z env σ H D k q => ?_⟩
  refine ⟨fun m σ' H' => ∃ env', Ok X.K B H' Z env' σ' ∧ Fr H Z env σ H' Z env' σ' ∧ SPost X.K W B Z env σ H (whileN fc f m env') D, ⟨wBig, env, k, Fr.refl, q⟩, ?_⟩
  rintro m σ' H' ⟨env', k', f', q'⟩
  cases m with
  | zero => exact q'.elim
  | succ m =>
    simp only [whileN] at q'
    refine s2 B Z env' σ' H' _ k' ?_
    cases e1 : fc env' with
    | fail => rw [bnd_fail e1] at q'; exact q'
    | ex x ρ => rw [bnd_ex e1] at q'; exact fun c d H2 k2 f2 w => q' c d σ' H2 k2 (f'.trans f2) w
    | ok b ρ =>
      rw [bnd_ok e1] at q'
      intro H2 k2 f2
      cases b with
      | false => exact q' σ' H2 k2 (f'.trans f2)
      | true =>
        refine ⟨fun σ3 H3 => ∃ env3, Ok X.K B H3 Z env3 σ3 ∧ Fr H Z env σ H3 Z env3 σ3 ∧ SPost X.K W B Z env σ H (whileN fc f m env3) D, fun σ3 H3 h => ⟨m, Nat.lt_succ_self _, h⟩, s3 B Z ρ σ' H2 _ k2 ?_⟩
        simp only [if_true] at q'
        cases e3 : f ρ with
        | fail => rw [bnd_fail e3] at q'; exact q'
        | ex x ρ2 => rw [bnd_ex e3] at q'; exact fun c d σ4 H4 k4 f4 w => q' c d σ4 H4 k4 ((f'.trans f2).trans f4) w
        | ok fl env3 =>
          rw [bnd_ok e3] at q'
          cases fl with
          | nx => exact fun σ4 H4 k4 f4 => ⟨env3, k4, (f'.trans f2).trans f4, q'⟩
          | ct => exact fun σ4 H4 k4 f4 => ⟨env3, k4, (f'.trans f2).trans f4, q'⟩
          | bk => exact fun σ4 H4 k4 f4 => q' σ4 H4 k4 ((f'.trans f2).trans f4)
          | rt rv => exact fun v σ4 H4 k4 f4 r => q' v σ4 H4 k4 ((f'.trans f2).trans f4) r
end RF

namespace RF
open PySem PySem.Spec PyProof.Rows L2

/-! ### readings that lean on the function alone -/
def semG (K : PySem.W.Frag) (sl : List Nat) (g : Tg) : TG := fun v σ H Q => ∃ B Z env d, Ok K B H Z env σ ∧ Rep K (hid H Z env σ) d v ∧ GPost K B Z env σ H sl (g d env) Q
def semT (K : PySem.W.Frag) (W : WX) (f : M Bool) : TT := fun σ H Q => ∃ B Z env, Ok K B H Z env σ ∧ TPost K W B Z env σ H (f env) Q
def semD (K : PySem.W.Frag) (W : WX) (f : M D) : TE := fun σ H Q => ∃ B Z env, Ok K B H Z env σ ∧ DPost K W B Z env σ H (f env) Q
theorem SG.can {X : Cx} {tg : Expr} {sl : List Nat} {g : Tg} (h : SG X tg sl g) : PG X tg (semG X.K sl g) := by
  obtain ⟨t, p, s⟩ := h
  refine ⟨fun pins st σ H v u Q I r q => ?_⟩
  obtain ⟨B, Z, env, d, k, rp, q⟩ := q
  exact p.run pins st σ H v u Q I r (s B Z env σ H d v Q k rp q)
theorem SD.can {X : Cx} {W : WX} {e : Expr} {f : M D} (h : SD X W e f) : PE X e (semD X.K W f) := by
  obtain ⟨t, p, s⟩ := h
  refine ⟨fun pins st σ H Q I q => ?_⟩
  obtain ⟨B, Z, env, k, q⟩ := q
  exact p.run pins st σ H Q I (s B Z env σ H Q k q)
/-- the tests of a comprehension: none or one -/
def SC (X : Cx) (W : WX) : List Expr → M Bool → Prop
  | [], f => f = fun ρ => .ok true ρ
  | [c], f => ST X W c f
  | _, _ => False
theorem SC.can {X : Cx} {W : WX} {es : List Expr} {f : M Bool} (h : SC X W es f) : PTs X es (semT X.K W f) := by
  match es, h with
  | [], h =>
    subst h
    refine ⟨fun pins st σ H Q I q => ?_⟩
    obtain ⟨B, Z, env, k, q⟩ := q
    exact pts_nil.run pins st σ H Q I (q H k Fr.refl)
  | [c], h =>
    obtain ⟨t, p, s⟩ := h
    refine ⟨fun pins st σ H Q I q => ?_⟩
    obtain ⟨B, Z, env, k, q⟩ := q
    exact (pts_one p).run pins st σ H Q I (s B Z env σ H Q k q)
  | _ :: _ :: _, h => exact h.elim
/-! ### a comprehension's own names -/
def wipeE (ρ : Env) : List Nat → Env
  | [] => ρ
  | v :: vs => (wipeE ρ vs).set v .un
def restE (ρ0 ρ : Env) : List Nat → Env
  | [] => ρ
  | v :: vs => (restE ρ0 ρ vs).set v (ρ0[v]?.getD .un)
def okW (vs : List Nat) (ρ : Env) : Bool := vs.all fun i => match ρ[i]? with
  | some (.ow _ _) => false
  | none => false
  | _ => true
theorem wipeE_len (ρ : Env) : ∀ vs, (wipeE ρ vs).length = ρ.length
  | [] => rfl
  | v :: vs => by rw [wipeE, List.length_set, wipeE_len ρ vs]
theorem restE_len (ρ0 ρ : Env) : ∀ vs, (restE ρ0 ρ vs).length = ρ.length
  | [] => rfl
  | v :: vs => by rw [restE, List.length_set, restE_len ρ0 ρ vs]
theorem wipeE_out {ρ : Env} {i : Nat} : ∀ {vs : List Nat}, i ∉ vs → (wipeE ρ vs)[i]? = ρ[i]?
  | [], _ => rfl
  | v :: vs, h => by
    simp only [List.mem_cons, not_or] at h
    rw [wipeE, List.getElem?_set_ne (Ne.symm h.1), wipeE_out h.2]
theorem wipe_out {σ : L2.St} {i : Nat} : ∀ {vs : List Nat}, i ∉ vs → (wipe σ vs)[i]? = σ[i]?
  | [], _ => rfl
  | v :: vs, h => by
    simp only [List.mem_cons, not_or] at h
    rw [wipe, List.getElem?_set_ne (Ne.symm h.1), wipe_out h.2]
theorem wipeE_in {ρ : Env} {i : Nat} : ∀ {vs : List Nat}, i ∈ vs → i < ρ.length → (wipeE ρ vs)[i]? = some .un
  | [], h, _ => by cases h
  | v :: vs, h, hl => by
    rw [wipeE]
    by_cases e : v = i
    · subst e
      rw [List.getElem?_set_self (by rw [wipeE_len]; exact hl)]
    · rw [List.getElem?_set_ne e]
      exact wipeE_in (by simpa [Ne.symm e] using h) hl
theorem wipe_in {σ : L2.St} {i : Nat} : ∀ {vs : List Nat}, i ∈ vs → i < σ.length → (wipe σ vs)[i]? = some none
  | [], h, _ => by cases h
  | v :: vs, h, hl => by
    rw [wipe]
    by_cases e : v = i
    · subst e
      rw [List.getElem?_set_self (by rw [wipe_length]; exact hl)]
    · rw [List.getElem?_set_ne e]
      exact wipe_in (by simpa [Ne.symm e] using h) hl
theorem restE_out {ρ0 ρ : Env} {i : Nat} : ∀ {vs : List Nat}, i ∉ vs → (restE ρ0 ρ vs)[i]? = ρ[i]?
  | [], _ => rfl
  | v :: vs, h => by
    simp only [List.mem_cons, not_or] at h
    rw [restE, List.getElem?_set_ne (Ne.symm h.1), restE_out h.2]
theorem restE_in {ρ0 ρ : Env} {i : Nat} {s : SV} (e0 : ρ0[i]? = some s) : ∀ {vs : List Nat}, i ∈ vs → i < ρ.length → (restE ρ0 ρ vs)[i]? = some s
  | [], h, _ => by cases h
  | v :: vs, h, hl => by
    rw [restE]
    by_cases e : v = i
    · subst e
      rw [List.getElem?_set_self (by rw [restE_len]; exact hl), e0]
      rfl
    · rw [List.getElem?_set_ne e]
      exact restE_in e0 (by simpa [Ne.symm e] using h) hl
section
variable {K : PySem.W.Frag} {B H : Hp} {Z : Addr → Prop} {env : Env} {σ : L2.St}
theorem own_wipe {vs : List Nat} {b : Addr} (h : Own (wipeE env vs) (wipe σ vs) b) : Own env σ b := by
  obtain ⟨i, f, o, e, s⟩ := h
  by_cases hi : i ∈ vs
  · by_cases hl : i < env.length
    · rw [wipeE_in hi hl] at e
      cases e
    · rw [List.getElem?_eq_none (by rw [wipeE_len]; omega)] at e
      cases e
  · rw [wipeE_out hi] at e
    rw [wipe_out hi] at s
    exact ⟨i, f, o, e, s⟩
theorem hid_wipe (vs : List Nat) : Inc (hid H Z env σ) (hid H Z (wipeE env vs) (wipe σ vs)) := hid_le (fun _ _ e _ _ => e) (fun _ z _ => .inl z) fun b z _ => .inr (own_wipe z)
theorem Ok.wipe (k : Ok K B H Z env σ) (vs : List Nat) : Ok K B H Z (wipeE env vs) (L2.wipe σ vs) := by
  have get : ∀ (i : Nat) (s : SV), s ≠ .un → (wipeE env vs)[i]? = some s → i ∉ vs ∧ env[i]? = some s := fun i s hs e => by
    by_cases hi : i ∈ vs
    · by_cases hl : i < env.length
      · rw [wipeE_in hi hl] at e
        cases e
        exact absurd rfl hs
      · rw [List.getElem?_eq_none (by rw [wipeE_len]; omega)] at e
        cases e
    · rw [wipeE_out hi] at e
      exact ⟨hi, e⟩
  refine ⟨by rw [wipeE_len, wipe_length]; exact k.len, fun i d e => ?_, fun i f o e => ?_, fun i j f g u1 u2 a e1 e2 s1 s2 => ?_, k.zt, k.nn⟩
  · obtain ⟨hi, e⟩ := get i _ (by simp) e
    obtain ⟨v, x, y⟩ := k.va i d e
    exact ⟨v, by rw [wipe_out hi]; exact x, y.mono (hid_wipe vs)⟩
  · obtain ⟨hi, e⟩ := get i _ (by simp) e
    obtain ⟨a, x, y, z, w⟩ := k.ow i f o e
    exact ⟨a, by rw [wipe_out hi]; exact x, y, z.mono (hid_wipe vs), w⟩
  · obtain ⟨h1, e1⟩ := get i _ (by simp) e1
    obtain ⟨h2, e2⟩ := get j _ (by simp) e2
    rw [wipe_out h1] at s1
    rw [wipe_out h2] at s2
    exact k.inj i j f g u1 u2 a e1 e2 s1 s2
/-- something hidden is written -/
theorem Ok.inZ {p : Addr} {o : HO} (k : Ok K B H Z env σ) (hp : Z p) : Ok K B (upd H p o) Z env σ ∧ hid (upd H p o) Z env σ = hid H Z env σ := by
  have hh : hid (upd H p o) Z env σ = hid H Z env σ := by
    funext b
    unfold hid
    by_cases q : Z b ∨ Own env σ b
    · rw [if_pos q, if_pos q]
    · rw [if_neg q, if_neg q]
      exact upd_ne fun z => by subst z; exact q (.inl hp)
  have nn : ∀ b, H b ≠ none → upd H p o b ≠ none := fun b z => by
    by_cases q : b = p
    · subst q; rw [upd_same]; simp
    · rw [upd_ne q]; exact z
  refine ⟨⟨k.len, fun i d e => ?_, fun i f u e => ?_, k.inj, fun a z => nn a (k.zt a z), fun a z => nn a (k.nn a z)⟩, hh⟩
  · rw [hh]; exact k.va i d e
  · obtain ⟨a, x, y, z, w⟩ := k.ow i f u e
    refine ⟨a, x, y, ?_, w⟩
    rw [hh, upd_ne fun q => by subst q; exact y hp]
    exact z
end
/-! ### [elt for tg in it if c] -/
def lcT (vs : List Nat) (g : Tg) (c : M Bool) (f : M D) (d : D) : M (Option D) := fun ρ => match g d ρ with
  | none => .fail
  | some ρ1 => match c ρ1 with
    | .ok true ρ2 => match f ρ2 with
      | .ok y ρ3 => .ok (some y) (wipeE ρ3 vs)
      | _ => .fail
    | .ok false ρ2 => .ok none (wipeE ρ2 vs)
    | _ => .fail
def lcL (vs : List Nat) (g : Tg) (c : M Bool) (f : M D) : List D → M (List D)
  | [] => fun ρ => .ok [] ρ
  | d :: ds => bnd (lcT vs g c f d) fun o => bnd (lcL vs g c f ds) fun r => fun ρ => .ok (o.toList ++ r) ρ
def cLc (vs : List Nat) (g : Tg) (it : M (List D)) (c : M Bool) (f : M D) : M RV := bnd it fun ds => fun ρ => if okW vs ρ = true then match lcL vs g c f ds (wipeE ρ vs) with
    | .ok ys ρ' => if ys.length ≤ sizeLine then .ok (.ow (.lst ys)) (restE ρ ρ' vs) else .fail
    | _ => .fail
  else .fail
def W0 : WX := fun _ _ _ _ => False
section
variable {X : Cx} {W : WX} {tg iter elt : Expr} {ifs : List Expr} {scope : Scope} {own : List (Str × Nat)} {pos p2 : Pos} {sl : List Nat} {g : Tg} {fi : M (List D)} {fc : M Bool} {fe : M D}
theorem lc_run (hi : SI X W tg iter fi) (hsub : ∀ i ∈ sl, i ∈ own.map (·.2)) : ∃ ti, PI X tg iter ti ∧ ∀ B Z env σ H Q, Ok X.K B H Z env σ → EPost X.K W B Z env σ H (cLc (own.map (·.2)) g fi fc fe env) Q →
    tLc ti (semG X.K sl g) (semT X.K W0 fc) (semD X.K W0 fe) (own.map (·.2)) σ H Q := by
  obtain ⟨ti, pi, si⟩ := hi
  refine ⟨ti, pi, fun B Z env σ H Q k q => si B Z env σ H _ k ?_⟩
  generalize hvs : own.map (·.2) = vs at q hsub ⊢
  unfold cLc at q
  cases e1 : fi env with
  | fail => rw [bnd_fail e1] at q; exact q
  | ex x ρ => rw [bnd_ex e1] at q; exact q
  | ok ds ρ =>
    rw [bnd_ok e1] at q
    intro J H1 k1 f1 it
    obtain ⟨G, Y, wk, hG, hY⟩ := it
    intro Dd hDd
    split at q
    case isFalse => exact q.elim
    rename_i hw
    have hw' : ∀ i ∈ vs, ∃ s, ρ[i]? = some s ∧ ∀ f o, s ≠ .ow f o := fun i hi => by
      unfold okW at hw
      rw [List.all_eq_true] at hw
      have h := hw i hi
      cases e : ρ[i]? with
      | none => rw [e] at h; cases h
      | some s =>
        refine ⟨s, rfl, fun f o z => ?_⟩
        subst z
        rw [e] at h
        cases h
    cases e2 : lcL vs g fc fe ds (wipeE ρ vs) with
    | fail => rw [e2] at q; exact q.elim
    | ex x ρ2 => rw [e2] at q; exact q.elim
    | ok ys ρe =>
      rw [e2] at q
      simp only at q
      split at q
      case isFalse => exact q.elim
      rename_i hlen
      -- the start
      have nz : ¬ Z Dd := fun z => k1.zt Dd z hDd
      have eZb : ∃ Zb, Zb = zx Z (.ow (.lst ys)) (.ref Dd) := ⟨_, rfl⟩
      obtain ⟨Zb, hZb⟩ := eZb
      have zD : Zb Dd := by rw [hZb]; exact .inr rfl
      have zZ : ∀ a, Z a → Zb a := fun a z => by rw [hZb]; exact .inl z
      have zb : ∀ a, Zb a → Z a ∨ a = Dd := fun a z => by
        rw [hZb] at z
        exact z.imp id fun e => (V.ref.inj e).symm
      obtain ⟨k2, f2⟩ := k1.grow (Z' := Zb) (H' := upd H1 Dd (.lst [])) (inc_upd hDd) zZ (fun a z => (zb a z).imp id fun e => by rw [e]; exact hDd) fun a z => by
        by_cases e : a = Dd
        · subst e; rw [upd_same]; simp
        · rw [upd_ne e]
          exact k1.zt a ((zb a z).resolve_right e)
      have k3 := k2.wipe vs
      have hlρ : ρ.length = σ.length := k1.len.symm
      refine lc_it wk (fun i H' => ∃ env', Ok X.K B H' Zb env' (L2.wipe σ vs) ∧ Inc (hid H1 Z ρ σ) (hid H' Zb env' (L2.wipe σ vs)) ∧ (∀ a o, Z a → H1 a = some o → H' a = some o) ∧ (∀ a, H1 a ≠ none → H' a ≠ none) ∧
        (∀ (j : Nat) o, ρ[j]? = some (.ow true o) → ∃ o', env'[j]? = some (.ow true o')) ∧ (∀ j ∈ vs, env'[j]? = some .un) ∧
        ∃ acc ws, H' Dd = some (.lst ws) ∧ RepL X.K (hid H' Zb env' (L2.wipe σ vs)) acc ws ∧ ∃ rest, lcL vs g fc fe (ds.drop i) env' = .ok rest ρe ∧ acc ++ rest = ys) ?_ ?_ ?_ ?_
      · refine ⟨wipeE ρ vs, k3, fun b o e => hid_wipe vs b o (f2.inc b o e), fun a o z e => ?_, fun a e => ?_, fun j o e => ?_, fun j hj => ?_, [], [], upd_same, rfl, ys, by rw [List.drop_zero]; exact e2, rfl⟩
        · rw [upd_ne fun w => by subst w; exact nz z]
          exact e
        · exact f2.nn a e
        · have hj : j ∉ vs := fun hj => by
            obtain ⟨s, x, y⟩ := hw' j hj
            rw [e] at x
            cases x
            exact y _ _ rfl
          exact ⟨o, by rw [wipeE_out hj]; exact e⟩
        · obtain ⟨s, x, _⟩ := hw' j hj
          exact wipeE_in hj (List.getElem?_eq_some_iff.mp x).1
      · rintro i H' _ ⟨env', k', i', _⟩
        exact hG H' fun b o e => hid_inc b o (i' b o e)
      · rintro i x H' H'' hlt ⟨env', k', i', z', n', io', w', acc, ws, hD, ra, rest, hr, hy⟩ hyl
        obtain ⟨d, hd⟩ : ∃ d, ds[i]? = some d := ⟨ds[i], List.getElem?_eq_getElem hlt⟩
        have hdrop : ds.drop i = d :: ds.drop (i + 1) := by
          rw [List.drop_eq_getElem_cons hlt]
          rw [List.getElem?_eq_getElem hlt] at hd
          cases hd
          rfl
        rw [hdrop] at hr
        obtain ⟨ka, fa, ra2⟩ := item_ok k' i' (hY i d H' x H'' hd (fun b o e => hid_inc b o (i' b o e)) hyl)
        simp only [lcL] at hr
        cases e3 : lcT vs g fc fe d env' with
        | fail => rw [bnd_fail e3] at hr; cases hr
        | ex x ρ2 => rw [bnd_ex e3] at hr; cases hr
        | ok o envn =>
          rw [bnd_ok e3] at hr
          cases e4 : lcL vs g fc fe (ds.drop (i + 1)) envn with
          | fail => rw [bnd_fail e4] at hr; cases hr
          | ex x ρ2 => rw [bnd_ex e4] at hr; cases hr
          | ok r2 ρ2 =>
            rw [bnd_ok e4] at hr
            cases hr
            unfold lcT at e3
            cases e5 : g d env' with
            | none => simp only [e5] at e3; cases e3
            | some env2 =>
              simp only [e5] at e3
              refine ⟨B, Zb, env', d, ka, ra2, ?_⟩
              rw [e5]
              intro σ2 kb fb lb mb
              have hσ2 : L2.wipe σ2 vs = L2.wipe σ vs := by
                apply List.ext_getElem?
                intro j
                by_cases hj : j ∈ vs
                · obtain ⟨s, x, _⟩ := hw' j hj
                  have hl : j < σ.length := by rw [← hlρ]; exact (List.getElem?_eq_some_iff.mp x).1
                  rw [wipe_in hj hl, wipe_in hj (by rw [lb, wipe_length]; exact hl)]
                · rw [wipe_out hj, mb j (fun z => hj (hsub j z))]
              refine ⟨hσ2, B, Zb, env2, kb, ?_⟩
              cases e6 : fc env2 with
              | fail => simp only [e6] at e3; cases e3
              | ex x ρ2 => simp only [e6] at e3; cases e3
              | ok b env3 =>
                simp only [e6] at e3
                intro H3 kc fc'
                cases b with
                | false =>
                  simp only at e3
                  cases e3
                  rw [if_neg (by simp)]
                  have ke := kc.wipe vs
                  rw [hσ2] at ke
                  have hi : Inc (hid H3 Zb env3 σ2) (hid H3 Zb (wipeE env3 vs) (L2.wipe σ vs)) := by
                    rw [← hσ2]
                    exact hid_wipe vs
                  have fall := (fa.trans fb).trans fc'
                  refine ⟨wipeE env3 vs, ke, fun b o e => hi b o (fall.inc b o (i' b o e)), fun a o z e => fall.z a o (zZ a z) (z' a o z e), fun a e => fall.nn a (n' a e), fun j o e => ?_, fun j hj => ?_, acc, ws, fall.z Dd _ zD hD, ra.mono fun b o e => hi b o (fall.inc b o e), r2, e4, by simpa using hy⟩
                  · obtain ⟨o', h1⟩ := io' j o e
                    obtain ⟨⟨o2, h2⟩, _⟩ := fall.io j o' h1
                    have hj : j ∉ vs := fun hj => by rw [w' j hj] at h1; cases h1
                    exact ⟨o2, by rw [wipeE_out hj]; exact h2⟩
                  · obtain ⟨s, x, _⟩ := hw' j hj
                    refine wipeE_in hj ?_
                    rw [← kc.len, lb, wipe_length, ← hlρ]
                    exact (List.getElem?_eq_some_iff.mp x).1
                | true =>
                  simp only at e3
                  rw [if_pos rfl]
                  refine ⟨B, Zb, env3, kc, ?_⟩
                  cases e7 : fe env3 with
                  | fail => simp only [e7] at e3; cases e3
                  | ex x ρ2 => simp only [e7] at e3; cases e3
                  | ok y env4 =>
                    simp only [e7] at e3
                    cases e3
                    intro v H4 kd fd rd
                    have fall := ((fa.trans fb).trans fc').trans fd
                    have hD4 : H4 Dd = some (.lst ws) := fall.z Dd _ zD hD
                    have hlw : ws.length < sizeLine := by
                      have h1 := ra.length
                      have h2 : (acc ++ ([y] ++ r2)).length = ys.length := by rw [← hy]; rfl
                      simp only [List.length_append, List.length_cons, List.length_nil] at h2
                      omega
                    obtain ⟨ke, hke⟩ := kd.inZ (p := Dd) (o := .lst (ws ++ [v])) zD
                    have kf := ke.wipe vs
                    rw [hσ2] at kf
                    have hi : Inc (hid H4 Zb env4 σ2) (hid (upd H4 Dd (.lst (ws ++ [v]))) Zb (wipeE env4 vs) (L2.wipe σ vs)) := by
                      rw [← hσ2, ← hke]
                      exact hid_wipe vs
                    refine ⟨ws, hD4, hlw, wipeE env4 vs, kf, fun b o e => hi b o (fall.inc b o (i' b o e)), fun a o z e => ?_, fun a e => ?_, fun j o e => ?_, fun j hj => ?_, acc ++ [y], ws ++ [v], upd_same, (ra.mono fun b o e => hi b o (fall.inc b o e)).append (RepL.cons (rd.mono hi) RepL.nil), r2, e4, by rw [List.append_assoc]; exact hy⟩
                    · rw [upd_ne fun w => by subst w; exact nz z]
                      exact fall.z a o (zZ a z) (z' a o z e)
                    · by_cases w : a = Dd
                      · subst w; rw [upd_same]; simp
                      · rw [upd_ne w]; exact fall.nn a (n' a e)
                    · obtain ⟨o', h1⟩ := io' j o e
                      obtain ⟨⟨o2, h2⟩, _⟩ := fall.io j o' h1
                      have hj : j ∉ vs := fun hj => by rw [w' j hj] at h1; cases h1
                      exact ⟨o2, by rw [wipeE_out hj]; exact h2⟩
                    · obtain ⟨s, x, _⟩ := hw' j hj
                      refine wipeE_in hj ?_
                      rw [← kd.len, lb, wipe_length, ← hlρ]
                      exact (List.getElem?_eq_some_iff.mp x).1
      · rintro H' ⟨env', k', i', z', n', io', w', acc, ws, hD, ra, rest, hr, hy⟩
        rw [List.drop_length] at hr
        cases hr
        rw [List.append_nil] at hy
        subst hy
        have lenE : ρe.length = ρ.length := by rw [← k'.len, wipe_length, hlρ]
        -- the same slots are owned
        have noW : ∀ j ∈ vs, ∀ f o, (restE ρ ρe vs)[j]? ≠ some (.ow f o) := fun j hj f o e => by
          obtain ⟨s, x, y⟩ := hw' j hj
          rw [restE_in x hj (by rw [lenE]; exact (List.getElem?_eq_some_iff.mp x).1)] at e
          cases e
          exact y f o rfl
        have own : ∀ b, Own (restE ρ ρe vs) σ b ↔ Own ρe (L2.wipe σ vs) b := fun b => by
          constructor
          · rintro ⟨j, f, o, e, s⟩
            by_cases hj : j ∈ vs
            · exact absurd e (noW j hj f o)
            · exact ⟨j, f, o, by rw [← e, restE_out hj], by rw [wipe_out hj]; exact s⟩
          · rintro ⟨j, f, o, e, s⟩
            by_cases hj : j ∈ vs
            · rw [w' j hj] at e
              cases e
            · exact ⟨j, f, o, by rw [restE_out hj]; exact e, by rw [← s, wipe_out hj]⟩
        have hh : hid H' Zb (restE ρ ρe vs) σ = hid H' Zb ρe (L2.wipe σ vs) := hid_congr fun b => or_congr Iff.rfl (own b)
        have hzx : zx Z (.ow (.lst acc)) (.ref Dd) = Zb := hZb.symm
        have q2 := q (.ref Dd) H'
        rw [hzx] at q2
        refine q2 ⟨by rw [restE_len, lenE, hlρ], fun j d e => ?_, fun j f o e => ?_, fun j1 j2 f g u1 u2 a e1 e2 s1 s2 => ?_, k'.zt, k'.nn⟩ (f1.trans ⟨fun b o e => by rw [hh]; exact i' b o e, z', zZ, n', fun j o e => ?_⟩) ⟨Dd, rfl, nz, ?_, by rw [hh, hD]; exact ⟨ws, rfl, ra⟩⟩
        · by_cases hj : j ∈ vs
          · obtain ⟨s, x, y⟩ := hw' j hj
            rw [restE_in x hj (by rw [lenE]; exact (List.getElem?_eq_some_iff.mp x).1)] at e
            cases e
            obtain ⟨v, a, b⟩ := k1.va j d x
            exact ⟨v, a, by rw [hh]; exact b.mono i'⟩
          · rw [restE_out hj] at e
            obtain ⟨v, a, b⟩ := k'.va j d e
            rw [wipe_out hj] at a
            exact ⟨v, a, by rw [hh]; exact b⟩
        · by_cases hj : j ∈ vs
          · exact absurd e (noW j hj f o)
          · rw [restE_out hj] at e
            obtain ⟨a, x, y, z, w⟩ := k'.ow j f o e
            rw [wipe_out hj] at x
            exact ⟨a, x, y, by rw [hh]; exact z, w⟩
        · by_cases h1 : j1 ∈ vs
          · exact absurd e1 (noW j1 h1 f u1)
          · by_cases h2 : j2 ∈ vs
            · exact absurd e2 (noW j2 h2 g u2)
            · rw [restE_out h1] at e1
              rw [restE_out h2] at e2
              exact k'.inj j1 j2 f g u1 u2 a e1 e2 (by rw [wipe_out h1]; exact s1) (by rw [wipe_out h2]; exact s2)
        · obtain ⟨o', h1⟩ := io' j o e
          have hj : j ∉ vs := fun hj => by rw [w' j hj] at h1; cases h1
          exact ⟨⟨o', by rw [restE_out hj]; exact h1⟩, rfl⟩
        · cases hb : B Dd with
          | none => rfl
          | some u => exact absurd hDd (k1.nn Dd (by rw [hb]; simp))
theorem e_lc (hN : X.N.Nodup) (hi : SI X W tg iter fi) (ok : BlkOk X.N X.env.scope scope own)
    (hg : ∀ (s : Shared) (H : Hp) (C : Addr) (cl : List (Str × Addr)) (fp : List Addr), SG (X.blk s H scope (compEnvC scope cl C X.env) fp) tg sl g)
    (ht : ∀ (s : Shared) (H : Hp) (C : Addr) (cl : List (Str × Addr)) (fp : List Addr), SC (X.blk s H scope (compEnvC scope cl C X.env) fp) W0 ifs fc)
    (he : ∀ (s : Shared) (H : Hp) (C : Addr) (cl : List (Str × Addr)) (fp : List Addr), SD (X.blk s H scope (compEnvC scope cl C X.env) fp) W0 elt fe)
    (hsub : ∀ i ∈ sl, i ∈ own.map (·.2) := by decide) (hc : X.calm = true := by rfl) (hs : ∀ x, foldedSetIterable iter X.env x = pure x := by intro _; rfl) : SE X W (.ListComp elt [⟨tg, iter, ifs, 0⟩] scope pos) (cLc (own.map (·.2)) g fi fc fe) := by
  obtain ⟨ti, pi, s⟩ := lc_run (X := X) (W := W) (g := g) (fc := fc) (fe := fe) hi hsub
  exact ⟨_, pe_lc hc hN pi ok (fun s H C cl fp => (hg s H C cl fp).can) (fun s H C cl fp => (ht s H C cl fp).can) (fun s H C cl fp => (he s H C cl fp).can) hs, s⟩
theorem s_setLc {x : Str} (i : Nat) (hN : X.N.Nodup) (hi : SI X W tg iter fi) (ok : BlkOk X.N X.env.scope scope own)
    (hg : ∀ (s : Shared) (H : Hp) (C : Addr) (cl : List (Str × Addr)) (fp : List Addr), SG (X.blk s H scope (compEnvC scope cl C X.env) fp) tg sl g)
    (ht : ∀ (s : Shared) (H : Hp) (C : Addr) (cl : List (Str × Addr)) (fp : List Addr), SC (X.blk s H scope (compEnvC scope cl C X.env) fp) W0 ifs fc)
    (he : ∀ (s : Shared) (H : Hp) (C : Addr) (cl : List (Str × Addr)) (fp : List Addr), SD (X.blk s H scope (compEnvC scope cl C X.env) fp) W0 elt fe)
    (hsw : swapsWith (.ListComp elt [⟨tg, iter, ifs, 0⟩] scope pos) (some (.Name x p2)) p2.line X.env = pure true)
    (hsub : ∀ i ∈ sl, i ∈ own.map (·.2) := by decide) (hy : X.N[i]? = some x := by rfl) (hyl : X.env.scope.names.lookup x = some .local := by rfl) (hc : X.calm = true := by rfl) (hs : ∀ x, foldedSetIterable iter X.env x = pure x := by intro _; rfl)
    {spos : Pos} (hl : spos.line = p2.line := by rfl) : SS X W (.Assign [.Name x p2] (.ListComp elt [⟨tg, iter, ifs, 0⟩] scope pos) spos) (cAsg i (cLc (own.map (·.2)) g fi fc fe)) := by
  obtain ⟨ti, pi, s⟩ := lc_run (X := X) (W := W) (g := g) (fc := fc) (fe := fe) hi hsub
  exact ⟨_, ps_setLc hc hN hy hyl (by rw [hl]; exact hsw) pi ok (fun s H C cl fp => (hg s H C cl fp).can) (fun s H C cl fp => (ht s H C cl fp).can) (fun s H C cl fp => (he s H C cl fp).can) hs, asg_run s⟩
end
/-! ### a def by its body -/
def backA : Env → Env → Env
  | [], _ => []
  | .ow true o :: as, e :: es => e :: backA as es
  | a :: as, _ :: es => a :: backA as es
  | a :: as, [] => a :: backA as []
/-- a def's function: n slots, its parameters first -/
def runF (n : Nat) (body : M Fl) : M RV := fun args => match body (args ++ List.replicate (n - args.length) .un) with
  | .fail => .fail
  | .ok (.rt rv) ρ => .ok rv (backA args ρ)
  | .ok .nx ρ => .ok (.va .non) (backA args ρ)
  | .ok _ _ => .fail
  | .ex x ρ => .ex x (backA args ρ)
theorem backA_len : ∀ (as es : Env), (backA as es).length = as.length
  | [], _ => rfl
  | .ow true o :: as, e :: es => by simp [backA, backA_len as es]
  | .ow false o :: as, e :: es => by simp [backA, backA_len as es]
  | .un :: as, e :: es => by simp [backA, backA_len as es]
  | .va d :: as, e :: es => by simp [backA, backA_len as es]
  | .ow true o :: as, [] => by simp [backA, backA_len as []]
  | .ow false o :: as, [] => by simp [backA, backA_len as []]
  | .un :: as, [] => by simp [backA, backA_len as []]
  | .va d :: as, [] => by simp [backA, backA_len as []]
theorem backA_ow : ∀ {as es : Env} {i : Nat} {o : Ob} {s : SV}, as[i]? = some (.ow true o) → es[i]? = some s → (backA as es)[i]? = some s
  | [], _, _, _, _, h, _ => by simp at h
  | a :: as, [], i, _, _, _, k => by simp at k
  | .ow true u :: as, e :: es, 0, _, _, h, k => by simpa [backA] using k
  | .ow true u :: as, e :: es, i + 1, o, s, h, k => by
    have := backA_ow (as := as) (es := es) (i := i) (o := o) (s := s) (by simpa using h) (by simpa using k)
    simpa [backA] using this
  | .ow false u :: as, e :: es, 0, _, _, h, k => by simp at h
  | .un :: as, e :: es, 0, _, _, h, k => by simp at h
  | .va d :: as, e :: es, 0, _, _, h, k => by simp at h
  | .ow false u :: as, e :: es, i + 1, o, s, h, k => by
    have := backA_ow (as := as) (es := es) (i := i) (o := o) (s := s) (by simpa using h) (by simpa using k)
    simpa [backA] using this
  | .un :: as, e :: es, i + 1, o, s, h, k => by
    have := backA_ow (as := as) (es := es) (i := i) (o := o) (s := s) (by simpa using h) (by simpa using k)
    simpa [backA] using this
  | .va d :: as, e :: es, i + 1, o, s, h, k => by
    have := backA_ow (as := as) (es := es) (i := i) (o := o) (s := s) (by simpa using h) (by simpa using k)
    simpa [backA] using this
theorem backA_inv : ∀ {as es : Env} {i : Nat} {s : SV}, (backA as es)[i]? = some s → as[i]? = some s ∨ ∃ o, as[i]? = some (.ow true o) ∧ es[i]? = some s
  | [], _, _, _, h => by simp [backA] at h
  | .ow true u :: as, e :: es, 0, s, h => .inr ⟨u, rfl, by simpa [backA] using h⟩
  | .ow true u :: as, e :: es, i + 1, s, h => by
    have := backA_inv (as := as) (es := es) (i := i) (s := s) (by simpa [backA] using h)
    simpa using this
  | .ow false u :: as, e :: es, 0, s, h => .inl (by simpa [backA] using h)
  | .un :: as, e :: es, 0, s, h => .inl (by simpa [backA] using h)
  | .va d :: as, e :: es, 0, s, h => .inl (by simpa [backA] using h)
  | .ow false u :: as, e :: es, i + 1, s, h => by
    have := backA_inv (as := as) (es := es) (i := i) (s := s) (by simpa [backA] using h)
    simpa using this
  | .un :: as, e :: es, i + 1, s, h => by
    have := backA_inv (as := as) (es := es) (i := i) (s := s) (by simpa [backA] using h)
    simpa using this
  | .va d :: as, e :: es, i + 1, s, h => by
    have := backA_inv (as := as) (es := es) (i := i) (s := s) (by simpa [backA] using h)
    simpa using this
  | .ow true u :: as, [], 0, s, h => .inl (by simpa [backA] using h)
  | .ow false u :: as, [], 0, s, h => .inl (by simpa [backA] using h)
  | .un :: as, [], 0, s, h => .inl (by simpa [backA] using h)
  | .va d :: as, [], 0, s, h => .inl (by simpa [backA] using h)
  | .ow true u :: as, [], i + 1, s, h => by
    have := backA_inv (as := as) (es := []) (i := i) (s := s) (by simpa [backA] using h)
    simpa using this
  | .ow false u :: as, [], i + 1, s, h => by
    have := backA_inv (as := as) (es := []) (i := i) (s := s) (by simpa [backA] using h)
    simpa using this
  | .un :: as, [], i + 1, s, h => by
    have := backA_inv (as := as) (es := []) (i := i) (s := s) (by simpa [backA] using h)
    simpa using this
  | .va d :: as, [], i + 1, s, h => by
    have := backA_inv (as := as) (es := []) (i := i) (s := s) (by simpa [backA] using h)
    simpa using this
section
variable {K : PySem.W.Frag} {H H' : Hp} {Z Z' : Addr → Prop} {args ρ : Env} {vs : List V} {σ' : L2.St} {n : Nat}
theorem hid_start (hl : vs.length = args.length) : hid H Z (args ++ List.replicate n .un) (vs.map some ++ List.replicate n none) = hid H Z args (vs.map some) := by
  refine hid_congr fun b => or_congr Iff.rfl ?_
  constructor
  · rintro ⟨i, f, o, e, s⟩
    by_cases hi : i < args.length
    · rw [List.getElem?_append_left hi] at e
      rw [List.getElem?_append_left (by rw [List.length_map, hl]; exact hi)] at s
      exact ⟨i, f, o, e, s⟩
    · rw [List.getElem?_append_right (by omega), List.getElem?_replicate] at e
      split at e <;> cases e
  · rintro ⟨i, f, o, e, s⟩
    have hi : i < args.length := (List.getElem?_eq_some_iff.mp e).1
    exact ⟨i, f, o, by rw [List.getElem?_append_left hi]; exact e, by rw [List.getElem?_append_left (by rw [List.length_map, hl]; exact hi)]; exact s⟩
theorem start_get {i : Nat} {s : SV} (hs : s ≠ .un) (e : (args ++ List.replicate n SV.un)[i]? = some s) : args[i]? = some s ∧ i < args.length := by
  by_cases hi : i < args.length
  · rw [List.getElem?_append_left hi] at e
    exact ⟨e, hi⟩
  · rw [List.getElem?_append_right (by omega), List.getElem?_replicate] at e
    split at e <;> cases e
    exact absurd rfl hs
theorem Ok.start (k : Ok K H H Z args (vs.map some)) : Ok K H H Z (args ++ List.replicate n .un) (vs.map some ++ List.replicate n none) := by
  have hl : vs.length = args.length := by have := k.len; rwa [List.length_map] at this
  have hh := hid_start (H := H) (Z := Z) (n := n) hl
  have sg : ∀ {i : Nat} {x : Option V}, i < args.length → (vs.map some)[i]? = some x → (vs.map some ++ List.replicate n none)[i]? = some x := fun {i x} hi e => by
    rw [List.getElem?_append_left (by rw [List.length_map, hl]; exact hi)]
    exact e
  refine ⟨by simp [hl], fun i d e => ?_, fun i f o e => ?_, fun i j f g u1 u2 a e1 e2 s1 s2 => ?_, k.zt, k.nn⟩
  · obtain ⟨e, hi⟩ := start_get (by simp) e
    obtain ⟨v, x, y⟩ := k.va i d e
    exact ⟨v, sg hi x, by rw [hh]; exact y⟩
  · obtain ⟨e, hi⟩ := start_get (by simp) e
    obtain ⟨a, x, y, z, w⟩ := k.ow i f o e
    exact ⟨a, sg hi x, y, by rw [hh]; exact z, w⟩
  · obtain ⟨e1, h1⟩ := start_get (by simp) e1
    obtain ⟨e2, h2⟩ := start_get (by simp) e2
    rw [List.getElem?_append_left (by rw [List.length_map, hl]; exact h1)] at s1
    rw [List.getElem?_append_left (by rw [List.length_map, hl]; exact h2)] at s2
    exact k.inj i j f g u1 u2 a e1 e2 s1 s2
/-- a def's end, seen by its caller -/
theorem Ok.finish (k : Ok K H H Z args (vs.map some)) (k' : Ok K H H' Z' ρ σ') (f : Fr H Z (args ++ List.replicate n .un) (vs.map some ++ List.replicate n none) H' Z' ρ σ') :
    Ok K H H' Z' (backA args ρ) (vs.map some) ∧ Fr H Z args (vs.map some) H' Z' (backA args ρ) (vs.map some) ∧ Inc (hid H' Z' ρ σ') (hid H' Z' (backA args ρ) (vs.map some)) := by
  have hl : vs.length = args.length := by have := k.len; rwa [List.length_map] at this
  have hh := hid_start (H := H) (Z := Z) (n := n) hl
  -- an object that was handed in: it stands where it stood
  have io : ∀ (i : Nat) o, args[i]? = some (.ow true o) → ∃ o', ρ[i]? = some (.ow true o') ∧ σ'[i]? = (vs.map some)[i]? := fun i o e => by
    have hi : i < args.length := (List.getElem?_eq_some_iff.mp e).1
    obtain ⟨⟨o', h1⟩, h2⟩ := f.io i o (by rw [List.getElem?_append_left hi]; exact e)
    refine ⟨o', h1, h2.trans ?_⟩
    rw [List.getElem?_append_left (by rw [List.length_map, hl]; exact hi)]
  have noF : ∀ (i : Nat) o, args[i]? ≠ some (.ow false o) := fun i o e => by
    obtain ⟨a, x, y, z, w⟩ := k.ow i false o e
    exact z.there (w rfl)
  have inv : ∀ (i : Nat) (f : Bool) (u : Ob), (backA args ρ)[i]? = some (.ow f u) → ∃ g u', ρ[i]? = some (.ow g u') ∧ (ρ[i]? = some (.ow f u)) ∧ σ'[i]? = (vs.map some)[i]? := fun i f u e => by
    rcases backA_inv e with h | ⟨o, h, h2⟩
    · cases f with
      | false => exact absurd h (noF i u)
      | true =>
        obtain ⟨o', h1, h3⟩ := io i u h
        have h4 := backA_ow h h1
        rw [e] at h4
        cases h4
        exact ⟨true, u, h1, h1, h3⟩
    · obtain ⟨o', h1, h3⟩ := io i o h
      exact ⟨f, u, h2, h2, h3⟩
  have own : ∀ b, Own (backA args ρ) (vs.map some) b → Own ρ σ' b := fun b ⟨i, g, u, e, s⟩ => by
    obtain ⟨_, _, _, h2, h3⟩ := inv i g u e
    exact ⟨i, g, u, h2, h3.trans s⟩
  have inc : Inc (hid H' Z' ρ σ') (hid H' Z' (backA args ρ) (vs.map some)) := hid_le (fun _ _ e _ _ => e) (fun _ z _ => .inl z) fun b z _ => .inr (own b z)
  have inc0 : Inc (hid H Z args (vs.map some)) (hid H' Z' (backA args ρ) (vs.map some)) := fun b o e => inc b o (f.inc b o (by rw [hh]; exact e))
  refine ⟨⟨by rw [List.length_map, backA_len]; exact hl, fun i d e => ?_, fun i g u e => ?_, fun i j g1 g2 u1 u2 a e1 e2 s1 s2 => ?_, k'.zt, k'.nn⟩, ⟨inc0, f.z, f.zz, f.nn, fun i o e => ?_⟩, inc⟩
  · rcases backA_inv e with h | ⟨o, h, h2⟩
    · obtain ⟨v, x, y⟩ := k.va i d h
      exact ⟨v, x, y.mono inc0⟩
    · obtain ⟨o', h1, h3⟩ := io i o h
      rw [h1] at h2
      cases h2
  · obtain ⟨_, _, _, h2, h3⟩ := inv i g u e
    obtain ⟨a, x, y, z, w⟩ := k'.ow i g u h2
    exact ⟨a, h3.symm.trans x, y, z.mono inc, w⟩
  · obtain ⟨_, _, _, h2, h3⟩ := inv i g1 u1 e1
    obtain ⟨_, _, _, h4, h5⟩ := inv j g2 u2 e2
    exact k'.inj i j g1 g2 u1 u2 a h2 h4 (h3.trans s1) (h5.trans s2)
  · obtain ⟨o', h1, h3⟩ := io i o e
    exact ⟨⟨o', backA_ow e h1⟩, rfl⟩
end
section
variable {P : Program} {w : World} {K : PySem.W.Frag} {mg : Str → Option Value} {base : Heap}
theorem fn_ok {x qual : Str} {st : Stmt} {f : Addr} {fd : FuncData} {N ps : List Str} {k n : Nat} {body : M Fl} (F : L2.Fun K x qual st f fd) (S : FnScope N ps (defScope st)) (hn : N.length = n)
    (hb : ∀ (cdv : Value) (A : Around) (outer : List PySem.Env) (s : Shared) (H : Hp) (E : XK), Room k (A.deeper (envOfC qual (defScope st) s.heap.objs.size f cdv)) →
      Takes (cxOf (L2.CX P w) P w K mg base N qual (defScope st) f cdv A outer s H E) (fun c d _ H' => E c d H') →
      PassesOwn (model P w) (cxOf (L2.CX P w) P w K mg base N qual (defScope st) f cdv A outer s H E).A (cxOf (L2.CX P w) P w K mg base N qual (defScope st) f cdv A outer s H E).env (cxOf (L2.CX P w) P w K mg base N qual (defScope st) f cdv A outer s H E).xe →
      SB (cxOf (L2.CX P w) P w K mg base N qual (defScope st) f cdv A outer s H E) (fun c d _ H' => E c d H') (defBody st) body) :
    FnOk P w K mg base (L2.CX P w) (k + 1) f fd ps (spF K (runF n body) ps.length) := by
  refine F.okX S (fun vs H Q E h => h.1) fun cdv A outer s H vs Q E hr h => ?_
  obtain ⟨hl, Z, args, ko, q⟩ := h
  obtain ⟨t, p, sem⟩ := hb cdv A outer s H E hr (takes_of rfl rfl rfl rfl) (passes_of rfl)
  refine ⟨t, p, ?_⟩
  have la : vs.length = args.length := by have := ko.len; rwa [List.length_map] at this
  have e0 : L2.start N vs = vs.map some ++ List.replicate (n - args.length) none := by
    unfold L2.start
    rw [hn, la]
  rw [e0]
  refine sem H Z (args ++ List.replicate (n - args.length) SV.un) _ H _ (Ok.start (n := n - args.length) ko) ?_
  unfold runF at q
  cases e : body (args ++ List.replicate (n - args.length) .un) with
  | fail => simp only [e] at q; exact q
  | ex y ρ =>
    simp only [e] at q
    intro c d σ' H' k' f' wx
    obtain ⟨b1, b2, b3⟩ := ko.finish k' f'
    refine q c d H' b1 b2 ⟨wx.1, fun z => ?_⟩
    obtain ⟨p, fs, h1, h2, h3, h4⟩ := wx.2 z
    exact ⟨p, fs, h1, h2, h3, h4.mono b3⟩
  | ok fl ρ =>
    cases fl with
    | nx =>
      simp only [e] at q
      intro σ' H' k' f'
      obtain ⟨b1, b2, b3⟩ := ko.finish k' f'
      exact q .non H' b1 b2 rfl
    | bk => simp only [e] at q; exact q.elim
    | ct => simp only [e] at q; exact q.elim
    | rt rv =>
      simp only [e] at q
      intro v σ' H' k' f' r
      obtain ⟨b1, b2, b3⟩ := ko.finish k' f'
      refine q v H' b1 b2 ?_
      cases rv with
      | va d => exact Rep.mono b3 d r
      | ow o =>
        obtain ⟨a, e5, nz, nb, h4⟩ := r
        exact ⟨a, e5, nz, nb, h4.mono b3⟩
/-- .. as the global x -/
theorem cal_mk {x y qual : Str} {st : Stmt} {f : Addr} {fd : FuncData} {ps : List Str} {k : Nat} {G : M RV} (F : L2.Fun K y qual st f fd) (h : FnOk P w K mg base (L2.CX P w) k f fd ps (spF K G ps.length)) (hm : mg x = some (.ref f)) (hb : L2.Binds K fd ps []) : Cal P w K mg base k x ps.length G :=
  ⟨f, fd, ps, h, hm, F.kp, hb⟩
theorem Cal.mono {x : Str} {n j k : Nat} {G : M RV} (h : Cal P w K mg base j x n G) (hk : j ≤ k) : Cal P w K mg base k x n G := by
  obtain ⟨f, fd, ps, F, a, b, c⟩ := h
  exact ⟨f, fd, ps, F.mono hk, a, b, c⟩
end
/-! ### the law's own end -/
theorem law_end {K : PySem.W.Frag} {G : M RV} {H : Hp} {a : Addr} {ns : List Int} (hS : SqL K H a (ns.map V.int)) (h : ∃ ρ, G [.va (.rls (ns.map D.int))] = .ok (.va (.bl true)) ρ) : spF K G 1 [.ref a] H (fun v _ => v = .bl true) fun _ _ _ => False := by
  obtain ⟨ρ, e⟩ := h
  have hh : Inc H (hid H (fun _ => False) [SV.va (.rls (ns.map D.int))] [some (V.ref a)]) := fun b o e => hid_some.mpr ⟨e, fun z => z, fun ⟨i, f, u, e1, _⟩ => by
    cases i with
    | zero => cases e1
    | succ i => simp at e1⟩
  refine ⟨rfl, fun _ => False, [.va (.rls (ns.map D.int))], ⟨rfl, fun i d e1 => ?_, fun i f o e1 => ?_, fun i j f g o u a e1 => ?_, fun _ z => z.elim, fun _ z => z⟩, ?_⟩
  · cases i with
    | zero =>
      cases e1
      exact ⟨.ref a, rfl, a, ns.map V.int, rfl, Inc.sl hh hS, RepL.ints ns⟩
    | succ i => simp at e1
  · cases i with
    | zero => cases e1
    | succ i => simp at e1
  · cases i with
    | zero => cases e1
    | succ i => simp at e1
  · rw [e]
    exact fun v H' _ _ r => r
end RF

namespace RF
open PySem PySem.Spec PyProof.Rows L2

/-! ### enumerate of a list or a tuple -/
theorem meets_enum1 {v : Value} {o : Obj} {Hc : Heap → Prop} (B : Begins v o Hc) :
    Meets (Builtin.«enumerate.__new__» ⟨[.type "enumerate", v], []⟩) (fun _ R s => Hc s.heap ∧
      R (.ok (.ret (.ref (s.heap.push o).objs.size))) { s with heap := (s.heap.push o).push { cls := .type "enumerate", data := .fields #[.none, .bool false, .ref s.heap.objs.size, rawInt 0, .none, .none] } }) :=
  .of_wp fun prog w A R s h => by
    obtain ⟨hp, g, d, tk, os⟩ := s
    obtain ⟨h1, h⟩ := h
    have hsub := sub_enumerate
    have q1 : ∀ {A' : Around} {E : Value → Shared → Prop} {Q : Value → Shared → Prop}, Q (.ref hp.objs.size) ⟨hp.push o, g, d, tk, os⟩ → wpAny (model prog w) A' (pyIter v) Q E ⟨hp, g, d, tk, os⟩ := fun q => B.iter prog w _ _ _ _ h1 q
    wp_walk using q1
    refine wpAny_stack_any fun st => wpAny_pure ?_
    split
    · rename_i c _ _ _ _ _
      cases (c == Value.type "enumerate") <;> (wp_walk using q1; exact ⟨_, rfl, h⟩)
    · wp_walk using q1
      exact ⟨_, rfl, h⟩
theorem call_enum1 {prog : Program} {w : World} {A : Around} {E : Value → Shared → Prop} {s : Shared} {v : Value} {o : Obj} {Hc : Heap → Prop} {Q : Value → Shared → Prop} (B : Begins v o Hc) (h1 : Hc s.heap)
    (h : ∀ h', IsEnum h' (s.heap.objs.size + 1) s.heap.objs.size 0 .none → h'.get? s.heap.objs.size = some o → h'.objs.size = s.heap.objs.size + 2 →
      (∀ b u, s.heap.get? b = some u → h'.get? b = some u) → Q (.ref (s.heap.objs.size + 1)) { s with heap := h' }) :
    wpAny (model prog w) A (call (.type "enumerate") [v]) Q E s := by
  refine callType_new F.called_enumerate (by decide) (F.typeCall_enumerate_1 _) (F.newCall_enumerate_1 _) (fun obj => F.args_object_init_2 obj _) F.entry_enumerate_new (meets_enum1 B) ⟨h1, ?_⟩
  have hz : (s.heap.push o).objs.size = s.heap.objs.size + 1 := Heap.size_push ..
  have he : IsEnum ((s.heap.push o).push { cls := .type "enumerate", data := .fields #[.none, .bool false, .ref s.heap.objs.size, rawInt 0, .none, .none] }) (s.heap.objs.size + 1) s.heap.objs.size 0 .none := by
    have q := Heap.get?_push_size (s.heap.push o) (o := { cls := .type "enumerate", data := .fields #[.none, .bool false, .ref s.heap.objs.size, rawInt 0, .none, .none] }) rfl
    rw [hz] at q
    exact q
  show _ ∧ _
  rw [hz]
  exact ⟨⟨_, he, rfl⟩, h _ he (Heap.get?_push_of_some _ (Heap.get?_push_size _ B.free)) (by rw [Heap.size_push, hz]) fun b u x => Heap.get?_push_of_some _ (Heap.get?_push_of_some _ x)⟩
/-- the tuple at a, each item in a new pair -/
def IteT (K : PySem.W.Frag) (a : Addr) : It :=
  ⟨fun i H => ∃ (xs : List V) (x : V), SqT K H a xs ∧ xs[i]? = some x, fun i H v H' => ∃ T x, v = .ref T ∧ H T = none ∧ H' = upd H T (.tup [.int (i : Nat), x]) ∧ ∀ xs, SqT K H a xs → xs[i]? = some x, fun i H => ∃ xs : List V, SqT K H a xs ∧ xs.length = i⟩
theorem tup_apart {h : Heap} {a it : Addr} {items : Array Value} {i : Nat} (p : h.IsTuple a items) (q : h.IsTupleIter it a i) : a ≠ it := fun e => by
  subst e
  obtain ⟨o1, h1, c1, _⟩ := p
  obtain ⟨o2, h2, c2, _⟩ := q
  rw [h1] at h2
  cases h2
  rw [c1] at c2
  exact absurd c2 (by simp)
theorem turn_enumT {P : Program} {w : World} {K : PySem.W.Frag} {elts : List Expr} {kk : Nat} {tpos : Pos} (a e it : Addr) :
    Turn P w K (.Tuple elts kk tpos) (IteT K a) [e, it] e (fun i h => (∃ old, IsEnum h e it ((i : Nat) : Int) old) ∧ h.IsTupleIter it a i ∧ e ≠ it) where
  mem := by simp
  obj := fun i h st b hb => by
    obtain ⟨⟨old, he⟩, ⟨o, ho, hc, hd⟩, _⟩ := st
    have e' : b = e ∨ b = it := by simpa using hb
    rcases e' with z | z
    · rw [z]; exact ⟨_, he, fun v q => nomatch q⟩
    · rw [z]; exact ⟨o, ho, fun v q => by rw [hd] at q; cases q⟩
  keep := fun i h h' st k => by
    obtain ⟨⟨old, he⟩, hi, hne⟩ := st
    exact ⟨⟨old, k e (by simp) _ he⟩, hi.at fun o q => k it (by simp) o q, hne⟩
  item := by
    intro X hP hw hK hc i pins s σ H E I hf st hg
    subst hP hw hK
    obtain ⟨⟨old, he⟩, hit, hne⟩ := st
    obtain ⟨xs, x, hq, hx⟩ := hg
    obtain ⟨its, rv, p, _⟩ := I.tuple hq
    have p : s.heap.IsTuple a its.toArray := p
    obtain ⟨u, hu, ru⟩ := rv.get hx
    have hel : e < s.heap.objs.size := Heap.lt_size he
    have hil : it < s.heap.objs.size := by obtain ⟨_, q, _⟩ := hit; exact Heap.lt_size q
    have hai : a ≠ it := tup_apart p hit
    have hae : e ≠ a := fun z => by
      subst z
      obtain ⟨o1, h1, c1, _⟩ := p
      have he' := he
      unfold IsEnum at he'
      rw [h1] at he'
      cases he'
      exact absurd c1 (by simp)
    have hul : i < its.toArray.size := by
      have := (List.getElem?_eq_some_iff.mp hu).1
      simpa using this
    refine wpAny_pyNext_enum_itemD (Draws.tuple (A := X.A.in1) (I.ok.hd hc) it a hai its.toArray) he ⟨hit, p⟩ hul hne (by simp [hne, hae]) fun x' h' tk hP ho hs' hT hsz hk => ?_
    have hxu : x' = u := by
      have : its[i]? = some x' := by simpa using hP
      rw [hu] at this
      cases this
      rfl
    subst hxu
    refine ⟨_, rfl, wpAny_letOwnedTupleGo_enum (s := { s with heap := h', toks := tk + 1 }) ho fun h'' he' sb => ?_⟩
    have hT2 : h''.get? s.heap.objs.size = some { cls := .type "tuple", data := .seq #[.int i tk, x'] } := (sb.2 _ (Nat.ne_of_gt hel)).trans hT
    have new : ObjOk X.prog X.w (upd H s.heap.objs.size (.tup [.int (i : Nat), x])) h'' s.heap.objs.size (.tup [.int (i : Nat), x]) :=
      ⟨by show 2 ≤ sizeLine; decide, [.int i tk, x'], .cons ⟨_, rfl⟩ (.cons ru .nil), ⟨_, hT2, rfl, _, rfl⟩⟩
    have I1 : Inv X pins σ (upd H s.heap.objs.size (.tup [.int (i : Nat), x])) { s with heap := h'', toks := tk + 1 } :=
      I.turnedNew (ch := [e, it]) (fun b ob hb q => (sb.2 b (fun z => hb (by simp [z]))).trans (hk b ob (fun z => hb (by simp [z])) (fun z => hb (by simp [z])) q)) hf (Nat.le_refl _) new
    refine ⟨.ref s.heap.objs.size, _, I1, rfl, ⟨_, x, rfl, I.hok.fresh (Nat.le_refl _), rfl, fun ys hy => by rw [I.tuple_inj hy hq]; exact hx⟩, ⟨⟨x', ?_⟩, hs'.1.at fun o q => (sb.2 it (Ne.symm hne)).trans q, hne⟩, fun b hb => ?_⟩
    · have e1 : ((i + 1 : Nat) : Int) = (i : Int) + 1 := by omega
      rw [e1]
      exact he'
    · have e' : b = e ∨ b = it := by simpa using hb
      have hb' : b < s.heap.objs.size := by
        rcases e' with z | z
        · rw [z]; exact hel
        · rw [z]; exact hil
      rw [upd_ne (Nat.ne_of_lt hb')]
      exact (hf b hb).1
  done := by
    intro X hP hw hK hc i pins s σ H E I hf st hg
    subst hP hw hK
    obtain ⟨⟨old, he⟩, hit, hne⟩ := st
    obtain ⟨xs, hq, hx⟩ := hg
    obtain ⟨its, rv, p, _⟩ := I.tuple hq
    have p : s.heap.IsTuple a its.toArray := p
    obtain ⟨f0, f1, f2, f3, f4, f5⟩ := hf it (by simp)
    have hl := rv.length
    have hn : its.toArray.size = i := by rw [List.size_toArray]; omega
    have hai : a ≠ it := tup_apart p hit
    exact wpAny_pyNext_enum_endD (Draws.tuple (A := X.A.in1) (I.ok.hd hc) it a hai its.toArray) he (by rw [hn]; exact ⟨hit, p⟩) fun h' eb => ⟨rfl, I.turned (t' := s.toks) (fun b o hb q => eb b o hb q) f0 f1 f3 f4 f5⟩
  self := fun A i s Q E st h => by
    obtain ⟨⟨_, he⟩, _⟩ := st
    exact wpAny_pyIter_enum he h
theorem walk_enumT {K : PySem.W.Frag} {a : Addr} {xs : List V} : Walk (IteT K a) xs.length (fun H => SqT K H a xs) (YPair (fun i => some (.int (i : Nat))) (fun i => xs[i]?)) := by
  refine ⟨fun i _ hi q => ⟨xs, xs[i], q, by simp [hi]⟩, fun _ q => ⟨xs, q, rfl⟩, fun i H v H' _ q y => ?_⟩
  obtain ⟨T, x, h1, h2, h3, h4⟩ := y
  exact ⟨T, .int (i : Nat), x, h1, h2, h3, rfl, h4 xs q⟩
def enumD : List D → Nat → List D
  | [], _ => []
  | d :: ds, i => .tup [.int i, d] :: enumD ds (i + 1)
theorem enumD_get : ∀ (ds : List D) (k i : Nat), (enumD ds k)[i]? = (ds[i]?).map fun d => .tup [.int ((k + i : Nat) : Int), d]
  | [], _, _ => rfl
  | d :: ds, k, 0 => rfl
  | d :: ds, k, i + 1 => by
    rw [enumD, List.getElem?_cons_succ, List.getElem?_cons_succ, enumD_get ds (k + 1) i]
    have e : k + 1 + i = k + (i + 1) := by omega
    rw [e]
theorem enumD_len : ∀ (ds : List D) (k : Nat), (enumD ds k).length = ds.length
  | [], _ => rfl
  | d :: ds, k => by rw [enumD, List.length_cons, List.length_cons, enumD_len ds]
def iEnumA (K : PySem.W.Frag) (ta : TA) : TI := fun σ H R => ta σ H fun vs H1 => ∃ a xs, vs = [.ref a] ∧ ((SqL K H1 a xs ∧ R (Ite K a) H1) ∨ (SqT K H1 a xs ∧ R (IteT K a) H1))
theorem pi_enumA {X : Cx} {e : Expr} {ta : TA} {p pos tpos : Pos} {elts : List Expr} {kk : Nat} (hg : Gl X "enumerate") (hm : X.mg "enumerate" = none) (ha : PA X [e] ta) (hs : starEach [e] X.env = [(false, eval e X.env)] := by rfl) :
    PI X (.Tuple elts kk tpos) (.Call (.Name "enumerate" p) [e] [] pos) (iEnumA X.K ta) := by
  refine ⟨fun pins s σ H R I h => ?_⟩
  refine Call_ (ld_blt I hg hm boot_enumerate (PyProof.Rows.callWith_type1 (thn (ha.run pos pins s σ H _ I h) fun us s1 hv => ?_) hs rfl))
  obtain ⟨vs, H1, I1, r1, q1⟩ := hv
  obtain ⟨a, xs, rfl, q1⟩ := q1
  have hu : us = [.ref a] := Vals.ref1 r1
  subst hu
  have fpo : ∀ b ∈ [s1.heap.objs.size + 1, s1.heap.objs.size], FpOk X pins H1 b := fun b hb => by
    have hle : s1.heap.objs.size ≤ b := by
      rcases List.mem_cons.mp hb with z | z
      · rw [z]; exact Nat.le_add_right _ _
      · rw [List.mem_singleton.mp z]; exact Nat.le_refl _
    exact I1.fpOk hle (I1.hok.fresh hle)
  rcases q1 with ⟨hq, q⟩ | ⟨hq, q⟩
  · obtain ⟨its, rv, p', _⟩ := I1.list hq
    refine call_enumerate_list p'.isList fun h' he hit hsz hk => wpAny_pyIter_enum he ?_
    exact ⟨_, _, _, _, H1, rfl, I1.kept (t' := s1.toks) hk, turn_enum a (s1.heap.objs.size + 1) s1.heap.objs.size, ⟨⟨.none, he⟩, hit, Nat.succ_ne_self _⟩, fpo, q⟩
  · obtain ⟨its, rv, p', _⟩ := I1.tuple hq
    refine call_enum1 (begins_tuple a its.toArray) (show s1.heap.IsTuple a its.toArray from p') fun h' he hit hsz hk => wpAny_pyIter_enum he ?_
    exact ⟨_, _, _, _, H1, rfl, I1.kept (t' := s1.toks) hk, turn_enumT a (s1.heap.objs.size + 1) s1.heap.objs.size, ⟨⟨.none, he⟩, ⟨_, hit, rfl, rfl⟩, Nat.succ_ne_self _⟩, fpo, q⟩
def cEnum (f : M D) : M (List D) := bnd f fun d => fun ρ => opt ((seqD d).map fun ds => enumD ds 0) ρ
theorem itOk_enumV {K : PySem.W.Frag} {Hh : Hp} {J : It} {vs : List V} {ds : List D} {G : Hp → Prop} (hw : Walk J vs.length G (YPair (fun i => some (.int (i : Nat))) (fun i => vs[i]?))) (hg : ∀ H2, Inc Hh H2 → G H2) (r : RepL K Hh ds vs) : ItOk K Hh J (enumD ds 0) :=
  ⟨G, YPair (fun i => some (.int (i : Nat))) (fun i => vs[i]?), by rw [enumD_len, ← r.length]; exact hw, hg, fun i d H2 x H3 e _ y => by
    rw [enumD_get] at e
    obtain ⟨T, u, v, h1, h2, h3, h4, h5⟩ := y
    cases h4
    obtain ⟨d', g1, g2⟩ := r.getV h5
    rw [g1] at e
    cases e
    exact .inr ⟨T, _, _, h1, h2, h3, rfl, RepL.cons (by show V.int _ = V.int _; simp) (RepL.cons g2 RepL.nil)⟩⟩
theorem i_enum {X : Cx} {W : WX} {elts : List Expr} {kk : Nat} {tpos p pos : Pos} {e : Expr} {f : M D} (hm : X.mg "enumerate" = none) (h : SD X W e f) (hg : Gl X "enumerate" := by rfl) (hs : Na e X := by rfl) : SI X W (.Tuple elts kk tpos) (.Call (.Name "enumerate" p) [e] [] pos) (cEnum f) := by
  obtain ⟨t, pe, s⟩ := h
  refine ⟨_, pi_enumA hg hm (pa_cons pe pa_nil hs) hs, fun B Z env σ H Q k q => s B Z env σ H _ k ?_⟩
  unfold cEnum at q
  cases e1 : f env with
  | fail => rw [bnd_fail e1] at q; exact q
  | ex x ρ => rw [bnd_ex e1] at q; exact q
  | ok d ρ =>
    rw [bnd_ok e1] at q
    intro v H1 k1 f1 r1
    cases d with
    | lst ds =>
      obtain ⟨a, vs, rfl, h1, h2⟩ := r1
      exact ⟨a, vs, rfl, .inl ⟨.inl (.inl (hid_inc a _ h1)), q _ H1 k1 f1 (itOk_enumV walk_enum (fun H2 i => .inl (.inl (i a _ h1))) h2)⟩⟩
    | rls ds =>
      obtain ⟨a, vs, rfl, h1, h2⟩ := r1
      exact ⟨a, vs, rfl, .inl ⟨Inc.sl hid_inc h1, q _ H1 k1 f1 (itOk_enumV walk_enum (fun H2 i => Inc.sl i h1) h2)⟩⟩
    | tup ds =>
      obtain ⟨a, vs, rfl, h1, h2⟩ := r1
      exact ⟨a, vs, rfl, .inr ⟨Inc.st hid_inc h1, q _ H1 k1 f1 (itOk_enumV walk_enumT (fun H2 i => Inc.st i h1) h2)⟩⟩
    | _ => exact q.elim
end RF

namespace RF
open PySem PySem.Spec PyProof.Rows L2

/-! ### the program's own defs -/
structure DefAt (K : PySem.W.Frag) (mg : Str → Option Value) (x : Str) (st : Stmt) (ps : List Str) (f : Addr) (fd : FuncData) : Prop where
  F : L2.Fun K x x st f fd
  mgx : mg x = some (.ref f)
  bi : L2.Binds K fd ps []
def DefOk (K : PySem.W.Frag) (mg : Str → Option Value) (x : Str) (st : Stmt) (ps : List Str) : Prop := ∃ f fd, DefAt K mg x st ps f fd
theorem def_mk {K : PySem.W.Frag} {h : Heap} {mg : Str → Option Value} {x : Str} {st : Stmt} {ps : List Str} (X : K.In h) (G : h.Ns mainGlobals mg) {f : Addr} {od an : Option Addr} {sl : Array (Option Value)} {oc kV dc pm cd ct : Value}
    (hb : ∀ (kV doc pm : Value) (an : Option Addr) (cdv ct : Value) (us : List Value), us.length = ps.length → bindArgs (PySem.W.fnOf x x (defArgs st) (defBody st) (defScope st) .none kV doc pm an cdv ct) ⟨us, []⟩ = pure (ps.zip us))
    (a : PySem.W.nsIn K mainGlobals x = some (some (.ref f))) (l : K.lookup f = some ⟨oc, od, .func (PySem.W.fnOf x x (defArgs st) (defBody st) (defScope st) .none kV dc pm an cd ct), sl⟩) (c : PySem.W.codeIn K cd x = true) (k : PySem.W.keepIn K (.ref f) = true) :
    DefAt K mg x st ps f (PySem.W.fnOf x x (defArgs st) (defBody st) (defScope st) .none kV dc pm an cd ct) :=
  ⟨fun_mk l c k, PySem.W.mg_of X G a, (fun_mk l c k).binds hb⟩
theorem DefAt.ok {K : PySem.W.Frag} {mg : Str → Option Value} {x : Str} {st : Stmt} {ps : List Str} {f : Addr} {fd : FuncData} (h : DefAt K mg x st ps f fd) : DefOk K mg x st ps := ⟨f, fd, h⟩
section
variable {P : Program} {w : World} {K : PySem.W.Frag} {mg : Str → Option Value} {base : Heap}
abbrev Bd (P : Program) (w : World) (K : PySem.W.Frag) (mg : Str → Option Value) (base : Heap) (x : Str) (st : Stmt) (N : List Str) (k : Nat) (f : Addr) (body : M Fl) : Prop :=
  ∀ (cdv : Value) (A : Around) (outer : List PySem.Env) (s : Shared) (H : Hp) (E : XK), Room k (A.deeper (envOfC x (defScope st) s.heap.objs.size f cdv)) →
      Takes (cxOf (L2.CX P w) P w K mg base N x (defScope st) f cdv A outer s H E) (fun c d _ H' => E c d H') →
      PassesOwn (model P w) (cxOf (L2.CX P w) P w K mg base N x (defScope st) f cdv A outer s H E).A (cxOf (L2.CX P w) P w K mg base N x (defScope st) f cdv A outer s H E).env (cxOf (L2.CX P w) P w K mg base N x (defScope st) f cdv A outer s H E).xe →
      SB (cxOf (L2.CX P w) P w K mg base N x (defScope st) f cdv A outer s H E) (fun c d _ H' => E c d H') (defBody st) body
theorem cal_ok {x : Str} {st : Stmt} {N ps : List Str} {k n m : Nat} {body : M Fl} (D : DefOk K mg x st ps) (S : FnScope N ps (defScope st)) (hn : N.length = n) (hm : ps.length = m) (hb : ∀ f, Bd P w K mg base x st N k f body) : Cal P w K mg base (k + 1) x m (runF n body) := by
  obtain ⟨f, fd, D⟩ := D
  rw [← hm]
  exact cal_mk D.F (fn_ok D.F S hn (hb f)) D.mgx D.bi
theorem fnok_at {x : Str} {st : Stmt} {N ps : List Str} {k n : Nat} {f : Addr} {fd : FuncData} {body : M Fl} (D : DefAt K mg x st ps f fd) (S : FnScope N ps (defScope st)) (hn : N.length = n) (hb : ∀ f, Bd P w K mg base x st N k f body) : FnOk P w K mg base (L2.CX P w) (k + 1) f fd ps (spF K (runF n body) ps.length) :=
  fn_ok D.F S hn (hb f)
/-- no promise at all -/
theorem cal_0 {x : Str} {st : Stmt} {ps : List Str} {k m : Nat} (D : DefOk K mg x st ps) (hm : ps.length = m) : Cal P w K mg base k x m (fun _ => .fail) := by
  obtain ⟨f, fd, D⟩ := D
  rw [← hm]
  refine ⟨f, fd, ps, ⟨fun vs H Q E h => h.1, fun A outer s H args us vs Q E hr he hb hv hs => ?_⟩, D.mgx, D.F.kp, D.bi⟩
  obtain ⟨_, Z, as, _, q⟩ := hs
  exact q.elim
end
theorem room65 {k : Nat} {A : Around} (hr : Room k A) : A.units + 65 < cLine := by
  have := hr.un
  omega
/-! ### f() -/
def cCall0 (G : M RV) : M RV := fun ρ => match G [] with
  | .ok rv _ => .ok rv ρ
  | _ => .fail
theorem e_call0 {X : Cx} {W : WX} {k : Nat} {x : Str} {G : M RV} {p pos : Pos} (c : Cal X.prog X.w X.K X.mg X.base k x 0 G) (hr : Room k X.A) (hg : Gl X x := by rfl) (hdb : (x == ("__debug__" : Str)) = false := by decide) :
    SE X W (.Call (.Name x p) [] [] pos) (cCall0 G) := by
  obtain ⟨f, fd, ps, F, hm, hk, hb⟩ := c
  refine ⟨_, pe_call0 (E := E0) F hr hg hm hk hb .nil passL hdb, fun B Z env σ H Q k q => ?_⟩
  unfold cCall0 at q
  have hown : ∀ b, ¬ Own ([] : Env) (([] : List V).map some) b := fun b ⟨i, f, o, e, _⟩ => by simp at e
  have hh : hid H (fun b => Z b ∨ Own env σ b) ([] : Env) (([] : List V).map some) = hid H Z env σ := hid_congr fun b => ⟨fun z => z.resolve_right (hown b), .inl⟩
  have ko : Ok X.K H H (fun b => Z b ∨ Own env σ b) ([] : Env) (([] : List V).map some) := ⟨rfl, fun i d e => by simp at e, fun i f o e => by simp at e, fun i j f g o u a e => by simp at e, fun a z => z.elim (k.zt a) fun z => (k.ownT z).1, fun _ z => z⟩
  refine ⟨rfl, fun b => Z b ∨ Own env σ b, [], ko, ?_⟩
  cases e : G [] with
  | fail => simp only [e] at q; exact q.elim
  | ex y ρ => simp only [e] at q; exact q.elim
  | ok rv as' =>
    simp only [e] at q
    intro v H' k' f' r
    have hz1 : ∀ a, zx Z rv v a → zx (fun b => Z b ∨ Own env σ b) rv v a := fun a z => by
      cases rv with
      | va d => exact .inl z
      | ow o => exact z.imp .inl id
    have hz : ∀ a, zx Z rv v a → Z a ∨ ¬ Own env σ a := fun a z => by
      cases rv with
      | va d => exact .inl z
      | ow o =>
        rcases z with z | z
        · exact .inl z
        · obtain ⟨a', e5, nz, _⟩ := r
          rw [e5] at z
          cases z
          exact .inr fun y => nz (.inr y)
    have inc : Inc (hid H' (zx (fun b => Z b ∨ Own env σ b) rv v) as' (([] : List V).map some)) (hid H' (zx Z rv v) env σ) := fun b o z => by
      obtain ⟨z1, z2, z3⟩ := hid_some.mp z
      refine hid_some.mpr ⟨z1, fun y => z2 (hz1 b y), fun y => z2 (f'.zz b (.inr y))⟩
    have inc0 : Inc (hid H Z env σ) (hid H' (zx Z rv v) env σ) := fun b o z => inc b o (f'.inc b o (by show hid H (fun b => Z b ∨ Own env σ b) ([] : Env) (([] : List V).map some) b = some o; rw [hh]; exact z))
    refine q v H' ⟨k.len, fun i d e => ?_, fun i f o e => ?_, k.inj, fun a z => k'.zt a (hz1 a z), fun a z => f'.nn a (k.nn a z)⟩ ⟨inc0, fun a o z e => f'.z a o (.inl z) e, zx_le rv v, f'.nn, fun i o e => ⟨⟨o, e⟩, rfl⟩⟩ ?_
    · obtain ⟨u, x, y⟩ := k.va i d e
      exact ⟨u, x, y.mono inc0⟩
    · obtain ⟨a, x, y, z, t⟩ := k.ow i f o e
      have oa : Own env σ a := ⟨i, f, o, e, x⟩
      refine ⟨a, x, fun z => (hz a z).elim y fun n => n oa, ?_, t⟩
      cases ha : H a with
      | none => exact absurd ha z.there
      | some u =>
        rw [f'.z a u (.inr oa) ha]
        rw [ha] at z
        exact z.mono inc0
    · cases rv with
      | va d => exact Rep.mono inc d r
      | ow o =>
        obtain ⟨a, e5, nz, nb, h4⟩ := r
        refine ⟨a, e5, fun z => nz (.inl z), ?_, h4.mono inc⟩
        cases hb : B a with
        | none => rfl
        | some u => exact absurd nb (k.nn a (by rw [hb]; simp))
/-! ### a < b < c -/
def cChain (g g' : D → D → Option RV) (a b c : M D) : M RV := bnd a fun x => bnd b fun y => match g x y with
  | some (.va (.bl true)) => bnd c fun z => fun ρ => opt (g' y z) ρ
  | some (.va (.bl false)) => fun ρ => .ok (.va (.bl false)) ρ
  | _ => fun _ => .fail
theorem chain_run {X : Cx} {W : WX} {a b c : Expr} {fa fb fc : M D} {g g' : D → D → Option RV} {r r' : R2} (o1 : OpOk X.K r g) (o2 : OpOk X.K r' g') (ha : SD X W a fa) (hb : SD X W b fb) (hc : SD X W c fc) :
    ∃ ta tb tc, PE X a ta ∧ PE X b tb ∧ PE X c tc ∧ ∀ B Z env σ H Q, Ok X.K B H Z env σ → EPost X.K W B Z env σ H (cChain g g' fa fb fc env) Q → tChain r r' ta tb tc σ H Q := by
  obtain ⟨ta, pa, sa⟩ := ha
  obtain ⟨tb, pb, sb⟩ := hb
  obtain ⟨tc, pc, sc⟩ := hc
  refine ⟨ta, tb, tc, pa, pb, pc, fun B Z env σ H Q k q => sa B Z env σ H _ k ?_⟩
  unfold cChain at q
  cases e1 : fa env with
  | fail => rw [bnd_fail e1] at q; exact q
  | ex x ρ => rw [bnd_ex e1] at q; exact q
  | ok x ρ =>
    rw [bnd_ok e1] at q
    intro v1 H1 k1 f1 r1
    refine sb B Z ρ σ H1 _ k1 ?_
    cases e2 : fb ρ with
    | fail => rw [bnd_fail e2] at q; exact q
    | ex x ρ2 => rw [bnd_ex e2] at q; exact fun c d H' k' f' w => q c d H' k' (f1.trans f') w
    | ok y ρ2 =>
      rw [bnd_ok e2] at q
      intro v2 H2 k2 f2 r2
      cases e3 : g x y with
      | none => simp only [e3] at q; exact q.elim
      | some rv =>
        refine o1 B Z ρ2 σ H2 v1 v2 x y rv _ k2 ((r1.mono f2.inc).t hid_inc) (r2.t hid_inc) e3 fun v3 H3 k3 f3 r3 => ?_
        cases rv with
        | ow o => simp only [e3] at q; exact q.elim
        | va d =>
          cases d with
          | bl t =>
            refine ⟨t, r3, ?_⟩
            cases t with
            | false =>
              simp only [e3] at q
              rw [if_neg (by simp)]
              exact q _ H3 k3 ((f1.trans f2).trans f3) rfl
            | true =>
              simp only [e3] at q
              rw [if_pos rfl]
              have k3' : Ok X.K B H3 Z ρ2 σ := k3
              have f3' : Fr H2 Z ρ2 σ H3 Z ρ2 σ := f3
              refine sc B Z ρ2 σ H3 _ k3' ?_
              cases e4 : fc ρ2 with
              | fail => rw [bnd_fail e4] at q; exact q
              | ex x ρ4 => rw [bnd_ex e4] at q; exact fun c d H' k' f' w => q c d H' k' (((f1.trans f2).trans f3').trans f') w
              | ok z ρ4 =>
                rw [bnd_ok e4] at q
                intro v4 H4 k4 f4 r4
                cases e5 : g' y z with
                | none => simp only [e5, opt] at q; exact q.elim
                | some rv' =>
                  simp only [e5, opt] at q
                  exact o2 B Z ρ4 σ H4 v2 v4 y z rv' Q k4 ((r2.mono fun p o h => f4.inc p o (f3'.inc p o h)).t hid_inc) (r4.t hid_inc) e5 fun v' H' k' f' r' => q v' H' k' ((((f1.trans f2).trans f3').trans f4).trans f') r'
          | _ => simp only [e3] at q; exact q.elim
section
variable {X : Cx} {W : WX} {a b c : Expr} {fa fb fc : M D} {op op' : CmpOp} {g g' : D → D → Option RV} {pos : Pos}
theorem e_chain (k1 : CmpOk X op g) (k2 : CmpOk X op' g') (ha : SD X W a fa) (hb : SD X W b fb) (hc : SD X W c fc) (hm : lastMarks [op, op'] [b, c] = false := by with_unfolding_all rfl) : SE X W (.Compare a [op, op'] [b, c] pos) (cChain g g' fa fb fc) := by
  obtain ⟨r, h1, o1⟩ := k1
  obtain ⟨r', h2, o2⟩ := k2
  obtain ⟨ta, tb, tc, pa, pb, pc, s⟩ := chain_run o1 o2 ha hb hc
  exact ⟨_, pe_chain h1 h2 pa pb pc hm, s⟩
theorem t_chain (k1 : CmpOk X op g) (k2 : CmpOk X op' g') (ha : SD X W a fa) (hb : SD X W b fb) (hc : SD X W c fc) (hm : lastMarks [op, op'] [b, c] = false := by with_unfolding_all rfl) : ST X W (.Compare a [op, op'] [b, c] pos) (cB (cChain g g' fa fb fc)) := by
  obtain ⟨r, h1, o1⟩ := k1
  obtain ⟨r', h2, o2⟩ := k2
  obtain ⟨ta, tb, tc, pa, pb, pc, s⟩ := chain_run o1 o2 ha hb hc
  exact ⟨_, pt_chain h1 h2 pa pb pc hm, fun B Z env σ H Q k q => s B Z env σ H _ k (EPost.of_b q)⟩
end
/-! ### a module's constants -/
def GConst (K : PySem.W.Frag) (mg : Str → Option Value) (x : Str) (d : D) : Prop := ∃ v u, mg x = some u ∧ RelV v u ∧ ∀ H, Rep K H d v
theorem e_glob {X : Cx} {W : WX} {x : Str} {pos : Pos} {d : D} (h : GConst X.K X.mg x d) (hg : Gl X x := by rfl) (hd : (x == ("__debug__" : Str)) = false := by decide) : SE X W (.Name x pos) (cC d) := by
  obtain ⟨v, u, hm, r, hr⟩ := h
  exact e_c (pe_glob hg hm r hd) hr
theorem cx_false {P : Program} {w : World} {outer : List PySem.Env} {H : Hp} {s : Shared} {e : Value} {s' : Shared} (h : L2.CX P w outer H s (fun _ _ _ => False) e s') : False := by
  obtain ⟨_, _, _, _, _, _, _, _, _, _, _, _, z⟩ := h
  exact z
/-! ### small coats for printed derivations -/
section
variable {X : Cx} {W : WX} {e : Expr} {f : M D} {c : Expr} {t : M Bool}
theorem SD.o (h : SD X W e f) : SO X W e (.ev f) := h
theorem sp_none : SP X W none none := trivial
theorem sp_some (h : SD X W e f) : SP X W (some e) (some f) := h
theorem c_nil : SC X W [] (fun ρ => .ok true ρ) := rfl
theorem c_one (h : ST X W c t) : SC X W [c] t := h
end
end RF

/-! RF13: what a body comes to, read from the front. -/
namespace RF
open PySem PySem.Spec PyProof.Rows L2
/-- held still by the simplifier -/
class Hd {α : Sort _} (a : α) : Type where
instance {α : Sort _} {a : α} : Hd a := {}
def wp {α : Type} (m : M α) (ρ : Env) (Q : α → Env → Prop) (E : Exc → Env → Prop) [Hd Q] [Hd E] : Prop := match m ρ with
  | .ok a ρ' => Q a ρ'
  | .ex x ρ' => E x ρ'
  | .fail => False
def oK {α : Type} (o : Option α) (K : α → Prop) [Hd K] : Prop := match o with
  | some a => K a
  | none => False
def ifK (b : Bool) (p q : Prop) [Hd p] [Hd q] : Prop := (b = true → p) ∧ (b = false → q)
theorem oK_some {α : Type} {a : α} {K : α → Prop} : oK (some a) K = K a := rfl
theorem oK_none {α : Type} {K : α → Prop} : oK none K = False := rfl
theorem oK_ite {α : Type} {c : Prop} [Decidable c] {a : Option α} {K : α → Prop} : oK (if c then a else none) K = (c ∧ oK a K) := by
  by_cases h : c
  · rw [if_pos h]; simp [h]
  · rw [if_neg h]; simp [h, oK]
theorem ifK_true {p q : Prop} : ifK true p q = p := by simp [ifK]
theorem ifK_false {p q : Prop} : ifK false p q = q := by simp [ifK]
theorem ifK_not {b : Bool} {p q : Prop} : ifK (!b) p q = ifK b q p := by cases b <;> simp [ifK]
theorem ifK_dec {c : Prop} [Decidable c] {p q : Prop} : ifK (decide c) p q = ((c → p) ∧ (¬ c → q)) := by simp [ifK]
theorem ifK_beq {i j : Int} {p q : Prop} : ifK (i == j) p q = ((i = j → p) ∧ (i ≠ j → q)) := by simp [ifK]
theorem ifK_pos {b : Bool} {p q : Prop} (h : b = true) : ifK b p q = p := by rw [h, ifK_true]
theorem ifK_neg {b : Bool} {p q : Prop} (h : b = false) : ifK b p q = q := by rw [h, ifK_false]
/-! the front -/
section
variable {α β : Type} {ρ : Env} {E : Exc → Env → Prop}
theorem wp_of {m : M α} {a : α} {ρ' : Env} {Q : α → Env → Prop} (h : m ρ = .ok a ρ') : wp m ρ Q E = Q a ρ' := by unfold wp; rw [h]
theorem wp_ok {m : M α} {a : α} {ρ' : Env} (h : wp m ρ (fun b ρ1 => b = a ∧ ρ1 = ρ') fun _ _ => False) : m ρ = .ok a ρ' := by
  unfold wp at h
  cases e : m ρ with
  | fail => rw [e] at h; exact h.elim
  | ex x r => rw [e] at h; exact h.elim
  | ok b r => rw [e] at h; rw [h.1, h.2]
theorem wp_ex {m : M α} {Q : α → Env → Prop} (h : wp m ρ Q fun _ _ => False) : ∃ a ρ', m ρ = .ok a ρ' ∧ Q a ρ' := by
  unfold wp at h
  cases e : m ρ with
  | fail => rw [e] at h; exact h.elim
  | ex x r => rw [e] at h; exact h.elim
  | ok b r => rw [e] at h; exact ⟨b, r, rfl, h⟩
theorem wp_ext {m : M α} {Q Q' : α → Env → Prop} {ρ1 : Env} (h : ∀ a ρ', Q a ρ' = Q' a ρ') : wp m ρ1 Q E = wp m ρ1 Q' E := by
  have e : Q = Q' := funext fun a => funext fun r => h a r
  subst e
  rfl
theorem oK_ext {o : Option α} {K K' : α → Prop} (h : ∀ a, K a = K' a) : oK o K = oK o K' := by
  have e : K = K' := funext h
  subst e
  rfl
theorem wp_mono {m : M α} {Q Q' : α → Env → Prop} {E' : Exc → Env → Prop} (h : wp m ρ Q E) (f : ∀ a ρ', Q a ρ' → Q' a ρ') (g : ∀ x ρ', E x ρ' → E' x ρ') : wp m ρ Q' E' := by
  unfold wp at *
  cases e : m ρ with
  | fail => rw [e] at h; exact h
  | ex x r => rw [e] at h; exact g _ _ h
  | ok b r => rw [e] at h; exact f _ _ h
/-- a call whose promise is known -/
theorem wp_use {m : M α} {Q Q' : α → Env → Prop} (h : wp m ρ Q fun _ _ => False) (f : ∀ a ρ', Q a ρ' → Q' a ρ') : wp m ρ Q' E := wp_mono h f fun _ _ z => z.elim
theorem w_bnd {m : M α} {k : α → M β} {Q : β → Env → Prop} : wp (bnd m k) ρ Q E = wp m ρ (fun a ρ' => wp (k a) ρ' Q E) E := by
  unfold wp bnd
  cases m ρ <;> rfl
theorem w_lam {a : α} {Q : α → Env → Prop} : wp (fun ρ => .ok a ρ) ρ Q E = Q a ρ := rfl
theorem w_opt {o : Option α} {Q : α → Env → Prop} : wp (fun ρ => opt o ρ) ρ Q E = oK o fun a => Q a ρ := by cases o <;> rfl
theorem w_optf {o : Env → Option α} {Q : α → Env → Prop} : wp (fun ρ => opt (o ρ) ρ) ρ Q E = oK (o ρ) fun a => Q a ρ := by
  unfold wp
  simp only [opt, oK]
  cases o ρ <;> rfl
end
section
variable {ρ : Env} {E : Exc → Env → Prop} {Q : RV → Env → Prop} {QD : D → Env → Prop} {QF : Fl → Env → Prop} {QB : Bool → Env → Prop}
def seqK (b : M Fl) (Q : Fl → Env → Prop) (E : Exc → Env → Prop) [Hd Q] [Hd E] : Fl → Env → Prop
  | .nx, ρ => wp b ρ Q E
  | fl, ρ => Q fl ρ
theorem seqK_nx {b : M Fl} : seqK b QF E .nx ρ = wp b ρ QF E := rfl
theorem seqK_bk {b : M Fl} : seqK b QF E .bk ρ = QF .bk ρ := rfl
theorem seqK_ct {b : M Fl} : seqK b QF E .ct ρ = QF .ct ρ := rfl
theorem seqK_rt {b : M Fl} {r : RV} : seqK b QF E (.rt r) ρ = QF (.rt r) ρ := rfl
theorem w_seq {a b : M Fl} : wp (cSeq a b) ρ QF E = wp a ρ (seqK b QF E) E := by
  unfold cSeq
  rw [w_bnd]
  refine wp_ext fun fl ρ' => ?_
  cases fl <;> rfl
theorem w_if {α : Type} {Q : α → Env → Prop} {c : M Bool} {f g : M α} : wp (cIf c f g) ρ Q E = wp c ρ (fun b ρ' => ifK b (wp f ρ' Q E) (wp g ρ' Q E)) E := by
  unfold cIf
  rw [w_bnd]
  refine wp_ext fun b ρ' => ?_
  cases b <;> simp [ifK]
def stO (s : Option SV) (p : Prop) [Hd p] : Prop := match s with
  | none => False
  | some (.ow true _) => False
  | some _ => p
theorem stO_un {p : Prop} : stO (some .un) p = p := rfl
theorem stO_va {d : D} {p : Prop} : stO (some (.va d)) p = p := rfl
theorem stO_ow {o : Ob} {p : Prop} : stO (some (.ow false o)) p = p := rfl
theorem w_st {i : Nat} {rv : RV} : wp (stV i rv) ρ QF E = stO (ρ[i]?) (QF .nx (ρ.set i (asV rv))) := by
  unfold wp stV
  cases ρ[i]? with
  | none => rfl
  | some s =>
    cases s with
    | ow f o => cases f <;> rfl
    | _ => rfl
theorem w_asg {i : Nat} {f : M RV} : wp (cAsg i f) ρ QF E = wp f ρ (fun rv ρ' => stO (ρ'[i]?) (QF .nx (ρ'.set i (asV rv)))) E := by
  unfold cAsg
  rw [w_bnd]
  exact wp_ext fun rv r => w_st
theorem w_ret {f : M RV} : wp (cRet f) ρ QF E = wp f ρ (fun rv ρ' => QF (.rt rv) ρ') E := by
  unfold cRet
  rw [w_bnd]
  rfl
theorem w_drop {f : M RV} : wp (cDrop f) ρ QF E = wp f ρ (fun _ ρ' => QF .nx ρ') E := by
  unfold cDrop
  rw [w_bnd]
  rfl
theorem w_nx : wp cNx ρ QF E = QF .nx ρ := rfl
def retK (args : Env) (Q : RV → Env → Prop) [Hd Q] : Fl → Env → Prop
  | .rt rv, ρ => Q rv (backA args ρ)
  | .nx, ρ => Q (.va .non) (backA args ρ)
  | _, _ => False
theorem retK_rt {args : Env} {rv : RV} : retK args Q (.rt rv) ρ = Q rv (backA args ρ) := rfl
theorem retK_nx {args : Env} : retK args Q .nx ρ = Q (.va .non) (backA args ρ) := rfl
theorem w_run {n : Nat} {b : M Fl} {args : Env} : wp (runF n b) args Q E = wp b (args ++ List.replicate (n - args.length) .un) (retK args Q) (fun x ρ => E x (backA args ρ)) := by
  unfold wp runF
  cases b (args ++ List.replicate (n - args.length) .un) with
  | fail => rfl
  | ex x r => rfl
  | ok fl r => cases fl <;> rfl
theorem back_nil {e : Env} : backA [] e = [] := rfl
theorem back_ow {o : Ob} {as es : Env} {e : SV} : backA (.ow true o :: as) (e :: es) = e :: backA as es := rfl
theorem back_va {d : D} {as es : Env} {e : SV} : backA (.va d :: as) (e :: es) = .va d :: backA as es := rfl
theorem w_C {d : D} : wp (cC d) ρ Q E = Q (.va d) ρ := rfl
def varK (i : Nat) (ρ : Env) (Q : RV → Env → Prop) [Hd Q] : Option SV → Prop
  | some (.va d) => Q (.va d) ρ
  | some (.ow false o) => oK o.toD fun d => Q (.va d) (ρ.set i (.va d))
  | _ => False
theorem varK_va {i : Nat} {d : D} : varK i ρ Q (some (.va d)) = Q (.va d) ρ := rfl
theorem varK_ow {i : Nat} {o : Ob} : varK i ρ Q (some (.ow false o)) = oK o.toD fun d => Q (.va d) (ρ.set i (.va d)) := rfl
theorem toD_lst {ds : List D} : Ob.toD (.lst ds) = some (.lst ds) := rfl
theorem toD_dct {ks : List Key} {ds : List D} : Ob.toD (.dct ks ds) = some (.dct ks ds) := rfl
theorem w_var {i : Nat} : wp (cVar i) ρ Q E = varK i ρ Q (ρ[i]?) := by
  unfold wp cVar
  cases ρ[i]? with
  | none => rfl
  | some s =>
    cases s with
    | ow f o =>
      cases f
      · simp only [varK]; cases o.toD <;> rfl
      · rfl
    | _ => rfl
def mvK (i : Nat) (ρ : Env) (Q : RV → Env → Prop) [Hd Q] : Option SV → Prop
  | some (.va d) => Q (.va d) ρ
  | some (.ow false o) => Q (.ow o) (ρ.set i .un)
  | _ => False
theorem mvK_va {i : Nat} {d : D} : mvK i ρ Q (some (.va d)) = Q (.va d) ρ := rfl
theorem mvK_ow {i : Nat} {o : Ob} : mvK i ρ Q (some (.ow false o)) = Q (.ow o) (ρ.set i .un) := rfl
theorem w_mv {i : Nat} : wp (cMv i) ρ Q E = mvK i ρ Q (ρ[i]?) := by
  unfold wp cMv
  cases ρ[i]? with
  | none => rfl
  | some s =>
    cases s with
    | ow f o => cases f <;> rfl
    | _ => rfl
def rvK (rv : RV) (K : D → Prop) [Hd K] : Prop := match rv with
  | .va d => K d
  | .ow o => oK o.toD K
theorem rvK_va {d : D} {K : D → Prop} : rvK (.va d) K = K d := rfl
theorem rvK_ow {o : Ob} {K : D → Prop} : rvK (.ow o) K = oK o.toD K := rfl
theorem w_D {f : M RV} : wp (cD f) ρ QD E = wp f ρ (fun rv ρ' => rvK rv fun d => QD d ρ') E := by
  unfold wp cD
  cases f ρ with
  | fail => rfl
  | ex x r => rfl
  | ok rv r =>
    cases rv with
    | va d => rfl
    | ow o => simp only [asD, rvK]; cases o.toD <;> rfl
theorem w_V {f : M D} : wp (cV f) ρ Q E = wp f ρ (fun d ρ' => Q (.va d) ρ') E := by
  unfold wp cV
  cases f ρ <;> rfl
theorem w_ev {f : M D} {Q : Option D → Env → Prop} : wp (st1 (.ev f)) ρ Q E = wp f ρ (fun d ρ' => Q (some d) ρ') E := by
  simp only [wp, st1]
  cases f ρ <;> rfl
def rdS : Option SV → Option D
  | some (.va d) => some d
  | some (.ow _ o) => o.toD
  | _ => none
theorem rdS_va {d : D} : rdS (some (.va d)) = some d := rfl
theorem rdS_ow {b : Bool} {o : Ob} : rdS (some (.ow b o)) = o.toD := rfl
theorem rd_eq {i : Nat} : rd ρ i = rdS (ρ[i]?) := by
  unfold rd rdS
  cases ρ[i]? with
  | none => rfl
  | some s => cases s <;> rfl
theorem w_lv {i : Nat} {Q : Option D → Env → Prop} : wp (st1 (.lv i)) ρ Q E = oK (rdS (ρ[i]?)) fun _ => Q none ρ := by
  rw [← rd_eq]
  simp only [wp, st1]
  cases rd ρ i <;> rfl
theorem fin_ev {f : M D} {x : Option D} : fin1 (.ev f) x ρ = x := rfl
theorem fin_lv {i : Nat} {x : Option D} : fin1 (.lv i) x ρ = rdS (ρ[i]?) := rd_eq
theorem ap2_some {g : D → D → Option RV} {x y : D} : ap2 g (some x) (some y) = g x y := rfl
theorem w_op {g : D → D → Option RV} {a b : Op} : wp (cOp g a b) ρ Q E = wp (st1 a) ρ (fun x ρ1 => wp (st1 b) ρ1 (fun y ρ2 => oK (ap2 g (fin1 a x ρ2) (fin1 b y ρ2)) fun rv => Q rv ρ2) E) E := by
  unfold cOp
  rw [w_bnd]
  refine wp_ext fun x r => ?_
  rw [w_bnd]
  exact wp_ext fun y r2 => w_optf
theorem w_T {o : Op} : wp (cT o) ρ QB E = wp (st1 o) ρ (fun x ρ1 => oK ((fin1 o x ρ1).bind truthD) fun b => QB b ρ1) E := by
  unfold cT
  rw [w_bnd]
  exact wp_ext fun x r => w_optf
def blK (rv : RV) (K : Bool → Prop) [Hd K] : Prop := match rv with
  | .va (.bl b) => K b
  | _ => False
theorem blK_bl {b : Bool} {K : Bool → Prop} : blK (.va (.bl b)) K = K b := rfl
theorem w_B {f : M RV} : wp (cB f) ρ QB E = wp f ρ (fun rv ρ1 => blK rv fun b => QB b ρ1) E := by
  unfold wp cB
  cases f ρ with
  | fail => rfl
  | ex x r => rfl
  | ok rv r =>
    cases rv with
    | ow o => rfl
    | va d => cases d <;> rfl
theorem w_notT {f : M Bool} : wp (cNotT f) ρ QB E = wp f ρ (fun b ρ1 => QB (!b) ρ1) E := by
  unfold wp cNotT
  cases f ρ <;> rfl
theorem w_andT {f g : M Bool} : wp (cAndT f g) ρ QB E = wp f ρ (fun b ρ1 => ifK b (wp g ρ1 QB E) (QB false ρ1)) E := by
  unfold cAndT
  rw [w_bnd]
  refine wp_ext fun b ρ' => ?_
  cases b <;> simp [ifK, w_lam]
theorem w_orT {f g : M Bool} : wp (cOrT f g) ρ QB E = wp f ρ (fun b ρ1 => ifK b (QB true ρ1) (wp g ρ1 QB E)) E := by
  unfold cOrT
  rw [w_bnd]
  refine wp_ext fun b ρ' => ?_
  cases b <;> simp [ifK, w_lam]
theorem w_andV {f g : M D} : wp (cAndV f g) ρ QD E = wp f ρ (fun d ρ1 => oK (truthD d) fun b => ifK b (wp g ρ1 QD E) (QD d ρ1)) E := by
  unfold cAndV
  rw [w_bnd]
  refine wp_ext fun d ρ' => ?_
  cases truthD d with
  | none => rfl
  | some b => cases b <;> simp [ifK, w_lam, oK]
theorem w_orV {f g : M D} : wp (cOrV f g) ρ QD E = wp f ρ (fun d ρ1 => oK (truthD d) fun b => ifK b (QD d ρ1) (wp g ρ1 QD E)) E := by
  unfold cOrV
  rw [w_bnd]
  refine wp_ext fun d ρ' => ?_
  cases truthD d with
  | none => rfl
  | some b => cases b <;> simp [ifK, w_lam, oK]
theorem w_not {o : Op} : wp (cNot o) ρ Q E = wp (st1 o) ρ (fun x ρ1 => oK ((fin1 o x ρ1).bind truthD) fun b => Q (.va (.bl (!b))) ρ1) E := by
  unfold cNot
  rw [w_bnd]
  refine wp_ext fun x ρ1 => ?_
  rw [w_optf]
  cases (fin1 o x ρ1).bind truthD <;> rfl
def negD : D → Option RV
  | .int i => some (.va (.int (-i)))
  | _ => none
theorem w_neg {o : Op} : wp (cNeg o) ρ Q E = wp (st1 o) ρ (fun x ρ1 => oK ((fin1 o x ρ1).bind negD) fun b => Q b ρ1) E := by
  unfold cNeg
  rw [w_bnd]
  refine wp_ext fun x ρ1 => ?_
  rw [w_optf]
  cases fin1 o x ρ1 with
  | none => rfl
  | some d => cases d <;> rfl
theorem w_CB {g : List D → Option RV} {os : List Op} : wp (cCB g os) ρ Q E = wp (pre os) ρ (fun xs ρ1 => oK ((finL os xs ρ1).bind g) fun rv => Q rv ρ1) E := by
  unfold cCB
  rw [w_bnd]
  exact wp_ext fun x r => w_optf
theorem w_pre0 {Q : List (Option D) → Env → Prop} : wp (pre []) ρ Q E = Q [] ρ := rfl
theorem w_pre {o : Op} {os : List Op} {Q : List (Option D) → Env → Prop} : wp (pre (o :: os)) ρ Q E = wp (st1 o) ρ (fun x ρ1 => wp (pre os) ρ1 (fun xs ρ2 => Q (x :: xs) ρ2) E) E := by
  simp only [pre]
  rw [w_bnd]
  refine wp_ext fun x r => ?_
  rw [w_bnd]
  rfl
def cons2 : Option D → Option (List D) → Option (List D)
  | some d, some ds => some (d :: ds)
  | _, _ => none
theorem cons2_some {d : D} {ds : List D} : cons2 (some d) (some ds) = some (d :: ds) := rfl
theorem finL_nil {xs : List (Option D)} : finL [] xs ρ = some [] := by cases xs <;> rfl
theorem finL_cons {o : Op} {os : List Op} {x : Option D} {xs : List (Option D)} : finL (o :: os) (x :: xs) ρ = cons2 (fin1 o x ρ) (finL os xs ρ) := by
  simp only [finL, cons2]
  all_goals (cases fin1 o x ρ <;> cases finL os xs ρ <;> rfl)
theorem w_isi {T : String} {o : Op} : wp (cIsi T o) ρ Q E = wp (st1 o) ρ (fun x ρ1 => oK ((fin1 o x ρ1).bind (dIsi T)) fun rv => Q rv ρ1) E := by
  unfold cIsi
  rw [w_bnd]
  exact wp_ext fun x r => w_optf
theorem w_evs0 {Q : List D → Env → Prop} : wp (evs []) ρ Q E = Q [] ρ := rfl
theorem w_evs {f : M D} {fs : List (M D)} {Q : List D → Env → Prop} : wp (evs (f :: fs)) ρ Q E = wp f ρ (fun d ρ1 => wp (evs fs) ρ1 (fun ds ρ2 => Q (d :: ds) ρ2) E) E := by
  simp only [evs]
  rw [w_bnd]
  refine wp_ext fun x r => ?_
  rw [w_bnd]
  rfl
theorem w_tup {fs : List (M D)} : wp (cTup fs) ρ Q E = wp (evs fs) ρ (fun ds ρ1 => Q (.va (.tup ds)) ρ1) E := by
  unfold cTup
  rw [w_bnd]
  rfl
theorem w_lst {fs : List (M D)} : wp (cLst fs) ρ Q E = wp (evs fs) ρ (fun ds ρ1 => Q (.ow (.lst ds)) ρ1) E := by
  unfold cLst
  rw [w_bnd]
  rfl
def intK (d : D) (K : Int → Prop) [Hd K] : Prop := match d with
  | .int i => K i
  | _ => False
theorem intK_int {i : Int} {K : Int → Prop} : intK (.int i) K = K i := rfl
theorem w_part0 {Q : Option Int → Env → Prop} : wp (cPart none) ρ Q E = Q none ρ := rfl
theorem w_part {f : M D} {Q : Option Int → Env → Prop} : wp (cPart (some f)) ρ Q E = wp f ρ (fun d ρ1 => intK d fun i => Q (some i) ρ1) E := by
  unfold wp cPart
  simp only
  cases f ρ with
  | fail => rfl
  | ex x r => rfl
  | ok d r => cases d <;> rfl
theorem w_sl {o : Op} {lo hi : Option (M D)} : wp (cSl o lo hi) ρ Q E = wp (st1 o) ρ (fun x ρ1 => wp (cPart lo) ρ1 (fun l ρ2 => wp (cPart hi) ρ2 (fun h ρ3 => oK ((fin1 o x ρ3).bind fun d => dSl d l h) fun rv => Q rv ρ3) E) E) E := by
  unfold cSl
  rw [w_bnd]
  refine wp_ext fun x r => ?_
  rw [w_bnd]
  refine wp_ext fun y r2 => ?_
  rw [w_bnd]
  exact wp_ext fun z r3 => w_optf
theorem w_call {G : M RV} {os : List Op} : wp (cCall G os) ρ Q E = wp (pre os) ρ (fun xs ρ1 => oK (mkA os xs ρ1) fun as => wp G as (fun rv as' => oK (putA os as' ρ1) fun ρ2 => Q rv ρ2) (fun x as' => oK (putA os as' ρ1) fun ρ2 => E x ρ2)) E := by
  unfold cCall
  rw [w_bnd]
  refine wp_ext fun xs ρ1 => ?_
  cases h : mkA os xs ρ1 with
  | none => simp [wp, oK, h]
  | some as =>
    cases h2 : G as with
    | fail => simp [wp, oK, h, h2]
    | ok rv as' => cases h3 : putA os as' ρ1 <;> simp [wp, oK, h, h2, h3]
    | ex x as' => cases h3 : putA os as' ρ1 <;> simp [wp, oK, h, h2, h3]
theorem w_call0 {G : M RV} : wp (cCall0 G) ρ Q E = wp G [] (fun rv _ => Q rv ρ) (fun _ _ => False) := by
  unfold wp cCall0
  cases G [] <;> rfl
theorem mkA_nil : mkA [] [] ρ = some [] := rfl
theorem mkA_ev {f : M D} {os : List Op} {d : D} {xs : List (Option D)} : mkA (.ev f :: os) (some d :: xs) ρ = (mkA os xs ρ).map (SV.va d :: ·) := rfl
def mkS (s : Option SV) (r : Option Env) : Option Env := match s with
  | some (.ow _ o) => r.map (SV.ow true o :: ·)
  | _ => none
theorem mkS_ow {b : Bool} {o : Ob} {r : Option Env} : mkS (some (.ow b o)) r = r.map (SV.ow true o :: ·) := rfl
theorem mkA_lv {i : Nat} {os : List Op} {x : Option D} {xs : List (Option D)} : mkA (.lv i :: os) (x :: xs) ρ = mkS (ρ[i]?) (mkA os xs ρ) := by
  simp only [mkA, mkS]
  all_goals (rcases ρ[i]? with _ | s <;> first | rfl | (cases s <;> rfl))
theorem putA_nil {as : Env} : putA [] as ρ = some ρ := by cases as <;> rfl
theorem putA_ev {f : M D} {os : List Op} {a : SV} {as : Env} : putA (.ev f :: os) (a :: as) ρ = putA os as ρ := rfl
def putS (s : Option SV) (K : Bool → Option Env) : Option Env := match s with
  | some (.ow f _) => K f
  | _ => none
theorem putS_ow {b : Bool} {o : Ob} {K : Bool → Option Env} : putS (some (.ow b o)) K = K b := rfl
theorem putA_lv {i : Nat} {os : List Op} {o : Ob} {as : Env} : putA (.lv i :: os) (.ow true o :: as) ρ = putS (ρ[i]?) fun f => putA os as (ρ.set i (.ow f o)) := by
  simp only [putA, putS]
  all_goals (rcases ρ[i]? with _ | s <;> first | rfl | (cases s <;> rfl))
def owS : Option SV → Option (Bool × List D)
  | some (.ow f (.lst ds)) => some (f, ds)
  | _ => none
theorem owS_ow {f : Bool} {ds : List D} : owS (some (.ow f (.lst ds))) = some (f, ds) := rfl
theorem owL_eq {i : Nat} : owL ρ i = owS (ρ[i]?) := by
  unfold owL owS
  cases ρ[i]? with
  | none => rfl
  | some s =>
    cases s with
    | ow f o => cases o <;> rfl
    | _ => rfl
theorem w_chk {i : Nat} {Q : Unit → Env → Prop} : wp (chk i) ρ Q E = oK (owS (ρ[i]?)) fun _ => Q () ρ := by
  rw [← owL_eq]
  unfold wp chk
  cases owL ρ i <;> rfl
theorem w_app {i : Nat} {f : M D} : wp (cApp i f) ρ Q E = oK (owS (ρ[i]?)) fun _ => wp f ρ (fun d ρ1 => oK (owS (ρ1[i]?)) fun p => p.2.length < sizeLine ∧ Q (.va .non) (ρ1.set i (.ow p.1 (.lst (p.2 ++ [d]))))) E := by
  unfold cApp
  rw [w_bnd, w_chk]
  refine oK_ext fun _ => ?_
  rw [w_bnd]
  refine wp_ext fun d ρ1 => ?_
  rw [← owL_eq]
  cases e : owL ρ1 i with
  | none => simp [wp, oK, e]
  | some p => by_cases h : p.2.length < sizeLine <;> simp [wp, h, oK, e]
theorem w_ext {i : Nat} {o : Op} : wp (cExt i o) ρ Q E = oK (owS (ρ[i]?)) fun _ => wp (st1 o) ρ (fun x ρ1 => oK (owS (ρ1[i]?)) fun p => oK ((fin1 o x ρ1).bind fun d => match d with | .lst es => some es | _ => none) fun es => p.2.length + es.length ≤ sizeLine ∧ Q (.va .non) (ρ1.set i (.ow p.1 (.lst (p.2 ++ es))))) E := by
  unfold cExt
  rw [w_bnd, w_chk]
  refine oK_ext fun _ => ?_
  rw [w_bnd]
  refine wp_ext fun x ρ1 => ?_
  rw [← owL_eq]
  cases e : owL ρ1 i with
  | none => simp [wp, oK, e]
  | some p =>
    cases e2 : fin1 o x ρ1 with
    | none => simp [wp, oK, e, e2]
    | some d =>
      cases d with
      | lst es => by_cases h : p.2.length + es.length ≤ sizeLine <;> simp [wp, h, oK, e, e2]
      | _ => simp [wp, oK, e, e2]
theorem w_ins {i : Nat} {a f : M D} : wp (cIns i a f) ρ Q E = oK (owS (ρ[i]?)) fun _ => wp a ρ (fun n ρ0 => wp f ρ0 (fun d ρ1 => oK (owS (ρ1[i]?)) fun p => intK n fun n => (p.2.length < sizeLine ∧ 0 ≤ n ∧ n < 2 ^ 63) ∧ Q (.va .non) (ρ1.set i (.ow p.1 (.lst (p.2.take n.toNat ++ [d] ++ p.2.drop n.toNat))))) E) E := by
  unfold cIns
  rw [w_bnd, w_chk]
  refine oK_ext fun _ => ?_
  rw [w_bnd]
  refine wp_ext fun n ρ0 => ?_
  rw [w_bnd]
  refine wp_ext fun d ρ1 => ?_
  rw [← owL_eq]
  cases e : owL ρ1 i with
  | none => simp [wp, oK, e]
  | some p =>
    cases n with
    | int n =>
      by_cases h : p.2.length < sizeLine ∧ 0 ≤ n ∧ n < 2 ^ 63
      · simp only [wp, oK, intK, e, h, and_self, true_and, if_true]
      · simp only [wp, oK, intK, e, h, false_and, if_false]
    | _ => simp [wp, oK, intK, e]
theorem w_pop {i : Nat} : wp (cPop i) ρ Q E = oK (owS (ρ[i]?)) fun p => oK (p.2[p.2.length - 1]?) fun d => Q (.va d) (ρ.set i (.ow p.1 (.lst p.2.dropLast))) := by
  rw [← owL_eq]
  cases e : owL ρ i with
  | none => simp [wp, cPop, oK, e]
  | some p => cases e2 : p.2[p.2.length - 1]? <;> simp [wp, cPop, oK, e, e2]
theorem w_setI {i : Nat} {fe fi : M D} : wp (cSetI i fe fi) ρ QF E = wp fe ρ (fun d ρ1 => oK (owS (ρ1[i]?)) fun _ => wp fi ρ1 (fun n ρ2 => oK (owS (ρ2[i]?)) fun p => intK n fun n => oK (ixN p.2.length n) fun j => QF .nx (ρ2.set i (.ow p.1 (.lst (p.2.set j d))))) E) E := by
  unfold cSetI
  rw [w_bnd]
  refine wp_ext fun d ρ1 => ?_
  rw [w_bnd, w_chk]
  refine oK_ext fun _ => ?_
  rw [w_bnd]
  refine wp_ext fun n ρ2 => ?_
  rw [← owL_eq]
  cases e : owL ρ2 i with
  | none => simp [wp, oK, e]
  | some p =>
    cases n with
    | int n => cases e2 : ixN p.2.length n <;> simp [wp, oK, intK, e, e2]
    | _ => simp [wp, oK, intK, e]
def vaS : Option SV → Option D
  | some (.va d) => some d
  | _ => none
theorem vaS_va {d : D} : vaS (some (.va d)) = some d := rfl
theorem w_aug {op : Operator} {i : Nat} {f : M D} : wp (cAug op i f) ρ QF E = oK (vaS (ρ[i]?)) fun x => wp f ρ (fun y ρ1 => oK (dAug op x y) fun z => stO (ρ1[i]?) (QF .nx (ρ1.set i (.va z)))) E := by
  have e : vaAt ρ i = vaS (ρ[i]?) := by
    unfold vaAt vaS
    cases ρ[i]? with
    | none => rfl
    | some s => cases s <;> rfl
  rw [← e]
  unfold cAug
  cases h : vaAt ρ i with
  | none => unfold wp; simp only [h, oK]
  | some x =>
    show wp _ ρ QF E = wp f ρ _ E
    have e2 : wp (fun ρ0 => match vaAt ρ0 i with | none => .fail | some x => bnd f (fun y => fun ρ => match dAug op x y with | some z => stV i (.va z) ρ | none => .fail) ρ0) ρ QF E = wp (bnd f (fun y => fun ρ => match dAug op x y with | some z => stV i (.va z) ρ | none => .fail)) ρ QF E := by
      unfold wp
      simp only [h]
    refine e2.trans ?_
    rw [w_bnd]
    refine wp_ext fun y ρ1 => ?_
    cases e3 : dAug op x y with
    | none => unfold wp; simp only [oK]
    | some z =>
      show wp (stV i (.va z)) ρ1 QF E = _
      rw [w_st]
      rfl
theorem w_asgT {g : Tg} {f : M D} : wp (cAsgT g f) ρ QF E = wp f ρ (fun d ρ1 => oK (g d ρ1) fun ρ2 => QF .nx ρ2) E := by
  unfold cAsgT
  rw [w_bnd]
  refine wp_ext fun d ρ1 => ?_
  unfold wp
  cases h : g d ρ1 with
  | none => simp [opt, oK, h]
  | some r => simp [opt, oK, h]
def tgO : Option SV → Env → Option Env
  | none, _ => none
  | some (.ow true _), _ => none
  | some _, ρ => some ρ
theorem tgO_un : tgO (some .un) ρ = some ρ := rfl
theorem tgO_va {d : D} : tgO (some (.va d)) ρ = some ρ := rfl
theorem tgO_ow {o : Ob} : tgO (some (.ow false o)) ρ = some ρ := rfl
theorem tgN_eq {i : Nat} {d : D} : tgN i d ρ = tgO (ρ[i]?) (ρ.set i (.va d)) := by
  unfold tgN tgO
  cases ρ[i]? with
  | none => rfl
  | some s =>
    cases s with
    | ow f o => cases f <;> rfl
    | _ => rfl
theorem tgT_tup {gs : List Tg} {ds : List D} : tgT gs (.tup ds) ρ = tgL gs ds ρ := rfl
theorem tgL_nil : tgL [] [] ρ = some ρ := rfl
theorem tgL_cons {g : Tg} {gs : List Tg} {d : D} {ds : List D} : tgL (g :: gs) (d :: ds) ρ = (g d ρ).bind (tgL gs ds) := rfl
/-! loops -/
theorem w_for {tg : Tg} {it : M (List D)} {b : M Fl} : wp (cFor tg it b) ρ QF E = wp it ρ (fun ds ρ1 => wp (forL tg b ds) ρ1 QF E) E := by
  unfold cFor
  rw [w_bnd]
theorem w_for0 {tg : Tg} {b : M Fl} : wp (forL tg b []) ρ QF E = QF .nx ρ := rfl
def forK (tg : Tg) (b : M Fl) (ds : List D) (Q : Fl → Env → Prop) (E : Exc → Env → Prop) [Hd Q] [Hd E] : Fl → Env → Prop
  | .nx, ρ => wp (forL tg b ds) ρ Q E
  | .ct, ρ => wp (forL tg b ds) ρ Q E
  | .bk, ρ => Q .nx ρ
  | .rt rv, ρ => Q (.rt rv) ρ
theorem forK_nx {tg : Tg} {b : M Fl} {ds : List D} : forK tg b ds QF E .nx ρ = wp (forL tg b ds) ρ QF E := rfl
theorem forK_ct {tg : Tg} {b : M Fl} {ds : List D} : forK tg b ds QF E .ct ρ = wp (forL tg b ds) ρ QF E := rfl
theorem forK_bk {tg : Tg} {b : M Fl} {ds : List D} : forK tg b ds QF E .bk ρ = QF .nx ρ := rfl
theorem forK_rt {tg : Tg} {b : M Fl} {ds : List D} {rv : RV} : forK tg b ds QF E (.rt rv) ρ = QF (.rt rv) ρ := rfl
theorem w_for1 {tg : Tg} {b : M Fl} {d : D} {ds : List D} : wp (forL tg b (d :: ds)) ρ QF E = oK (tg d ρ) fun ρ1 => wp b ρ1 (forK tg b ds QF E) E := by
  unfold wp
  simp only [forL]
  cases tg d ρ with
  | none => rfl
  | some ρ1 =>
    simp only [oK]
    unfold bnd
    cases b ρ1 with
    | fail => rfl
    | ex x r => rfl
    | ok fl r => cases fl <;> rfl
/-- a loop over a row by what holds ahead of each of its items -/
theorem wp_for {tg : Tg} {b : M Fl} (I : List D → Env → Prop) (h0 : ∀ r, I [] r → QF .nx r) (h1 : ∀ d ds r, I (d :: ds) r → ∃ r1, tg d r = some r1 ∧ wp b r1 (fun fl r2 => match fl with | .nx => I ds r2 | .ct => I ds r2 | .bk => QF .nx r2 | .rt rv => QF (.rt rv) r2) E) : ∀ (ds : List D) (ρ : Env), I ds ρ → wp (forL tg b ds) ρ QF E
  | [], ρ, h => h0 ρ h
  | d :: ds, ρ, h => by
    obtain ⟨r1, e, q⟩ := h1 d ds ρ h
    rw [w_for1, e]
    refine wp_mono q (fun fl r2 z => ?_) fun _ _ z => z
    cases fl with
    | nx => exact wp_for I h0 h1 ds r2 z
    | ct => exact wp_for I h0 h1 ds r2 z
    | bk => exact z
    | rt rv => exact z
theorem w_while1 {c : M Bool} {b : M Fl} {n : Nat} : wp (whileN c b (n + 1)) ρ QF E = wp c ρ (fun t ρ1 => ifK t (wp b ρ1 (fun fl r2 => match fl with | .nx => wp (whileN c b n) r2 QF E | .ct => wp (whileN c b n) r2 QF E | .bk => QF .nx r2 | .rt rv => QF (.rt rv) r2) E) (QF .nx ρ1)) E := by
  simp only [whileN]
  rw [w_bnd]
  refine wp_ext fun t ρ1 => ?_
  cases t with
  | false => rw [ifK_false]; rfl
  | true =>
    rw [ifK_true]
    simp only [if_true]
    rw [w_bnd]
    refine wp_ext fun fl r2 => ?_
    cases fl <;> rfl
/-- a while loop by an invariant and a measure -/
theorem wp_while {c : M Bool} {b : M Fl} (I : Nat → Env → Prop) (h : ∀ k r, I k r → wp c r (fun t r1 => ifK t (wp b r1 (fun fl r2 => match fl with | .nx => ∃ j, j < k ∧ I j r2 | .ct => ∃ j, j < k ∧ I j r2 | .bk => QF .nx r2 | .rt rv => QF (.rt rv) r2) E) (QF .nx r1)) E) : ∀ (k n : Nat) (ρ : Env), k < n → I k ρ → wp (whileN c b n) ρ QF E := by
  intro k n
  induction n generalizing k with
  | zero => intro ρ hk; omega
  | succ n ih =>
    intro ρ hk hI
    rw [w_while1]
    refine wp_mono (h k ρ hI) (fun t r1 z => ?_) fun _ _ z => z
    cases t with
    | false => rw [ifK_false] at z ⊢; exact z
    | true =>
      rw [ifK_true] at z ⊢
      refine wp_mono z (fun fl r2 q => ?_) fun _ _ z => z
      cases fl with
      | nx => obtain ⟨j, hj, q⟩ := q; exact ih j r2 (by omega) q
      | ct => obtain ⟨j, hj, q⟩ := q; exact ih j r2 (by omega) q
      | bk => exact q
      | rt rv => exact q
theorem w_while {c : M Bool} {b : M Fl} : wp (cWhile c b) ρ QF E = wp (whileN c b wBig) ρ QF E := rfl
theorem w_it {f : M D} {Q : List D → Env → Prop} : wp (cIt f) ρ Q E = wp f ρ (fun d ρ1 => oK (seqI d) fun ds => Q ds ρ1) E := by
  unfold cIt
  rw [w_bnd]
  exact wp_ext fun x r => w_opt
theorem w_enum {f : M D} {Q : List D → Env → Prop} : wp (cEnum f) ρ Q E = wp f ρ (fun d ρ1 => oK (seqD d) fun ds => Q (enumD ds 0) ρ1) E := by
  unfold cEnum
  rw [w_bnd]
  refine wp_ext fun d ρ1 => ?_
  rw [w_opt]
  cases seqD d <;> rfl
theorem w_rng1 {o : Op} {Q : List D → Env → Prop} : wp (cRng1 o) ρ Q E = wp (st1 o) ρ (fun x ρ1 => oK (fin1 o x ρ1) fun d => intK d fun j => inRng j = true ∧ Q (rngL 0 j) ρ1) E := by
  unfold cRng1
  rw [w_bnd, w_pre]
  refine wp_ext fun x ρ1 => ?_
  rw [w_pre0]
  cases e : fin1 o x ρ1 with
  | none => simp [wp, oK, finL_cons, finL_nil, e, cons2]
  | some d =>
    cases d with
    | int j => by_cases h : inRng j = true <;> simp [wp, h, oK, intK, cons2, finL_cons, finL_nil, e]
    | _ => simp [wp, oK, intK, cons2, finL_cons, finL_nil, e]
theorem w_rng2 {o u : Op} {Q : List D → Env → Prop} : wp (cRng2 o u) ρ Q E = wp (st1 o) ρ (fun x ρ0 => wp (st1 u) ρ0 (fun y ρ1 => oK (fin1 o x ρ1) fun d => oK (fin1 u y ρ1) fun e => intK d fun i => intK e fun j => (inRng i = true ∧ inRng j = true) ∧ Q (rngL i j) ρ1) E) E := by
  unfold cRng2
  rw [w_bnd, w_pre]
  refine wp_ext fun x ρ0 => ?_
  rw [w_pre]
  refine wp_ext fun y ρ1 => ?_
  rw [w_pre0]
  cases e : fin1 o x ρ1 with
  | none => simp [wp, oK, finL_cons, finL_nil, e, cons2]
  | some d =>
    cases e2 : fin1 u y ρ1 with
    | none => simp [wp, oK, cons2, finL_cons, finL_nil, e, e2]
    | some d2 =>
      cases d with
      | int i =>
        cases d2 with
        | int j => by_cases h : inRng i = true ∧ inRng j = true <;> simp [wp, h, oK, intK, cons2, finL_cons, finL_nil, e, e2]
        | _ => simp [wp, oK, intK, cons2, finL_cons, finL_nil, e, e2]
      | _ => simp [wp, oK, intK, cons2, finL_cons, finL_nil, e, e2]
/-! comprehensions -/
theorem w_lc {vs : List Nat} {g : Tg} {it : M (List D)} {c : M Bool} {f : M D} : wp (cLc vs g it c f) ρ Q E = wp it ρ (fun ds ρ1 => okW vs ρ1 = true ∧ wp (lcL vs g c f ds) (wipeE ρ1 vs) (fun ys ρ2 => ys.length ≤ sizeLine ∧ Q (.ow (.lst ys)) (restE ρ1 ρ2 vs)) (fun _ _ => False)) E := by
  unfold cLc
  rw [w_bnd]
  refine wp_ext fun ds ρ1 => ?_
  unfold wp
  by_cases h : okW vs ρ1 = true
  · simp only [h, if_true]
    cases lcL vs g c f ds (wipeE ρ1 vs) with
    | fail => simp
    | ex x r => simp
    | ok ys r => by_cases h2 : ys.length ≤ sizeLine <;> simp [h2]
  · simp [h]
theorem w_lc0 {vs : List Nat} {g : Tg} {c : M Bool} {f : M D} {Q : List D → Env → Prop} : wp (lcL vs g c f []) ρ Q E = Q [] ρ := rfl
theorem w_lc1 {vs : List Nat} {g : Tg} {c : M Bool} {f : M D} {d : D} {ds : List D} {Q : List D → Env → Prop} : wp (lcL vs g c f (d :: ds)) ρ Q E = oK (g d ρ) fun ρ1 => wp c ρ1 (fun t ρ2 => ifK t (wp f ρ2 (fun y ρ3 => wp (lcL vs g c f ds) (wipeE ρ3 vs) (fun r ρ4 => Q (y :: r) ρ4) E) fun _ _ => False) (wp (lcL vs g c f ds) (wipeE ρ2 vs) Q E)) fun _ _ => False := by
  have e : ∀ (r : Env) (o : Option D), wp (bnd (lcL vs g c f ds) fun r => fun ρ => .ok (o.toList ++ r) ρ) r Q E = wp (lcL vs g c f ds) r (fun r ρ4 => Q (o.toList ++ r) ρ4) E := fun r o => by rw [w_bnd]; rfl
  simp only [lcL]
  rw [w_bnd]
  rw [show wp (lcT vs g c f d) ρ (fun a ρ' => wp (bnd (lcL vs g c f ds) fun r => fun ρ => .ok (a.toList ++ r) ρ) ρ' Q E) E = wp (lcT vs g c f d) ρ (fun a ρ' => wp (lcL vs g c f ds) ρ' (fun r ρ4 => Q (a.toList ++ r) ρ4) E) E from wp_ext fun a r => e r a]
  unfold wp lcT
  cases g d ρ with
  | none => rfl
  | some ρ1 =>
    simp only [oK]
    cases c ρ1 with
    | fail => rfl
    | ex x r => rfl
    | ok t r =>
      cases t with
      | true =>
        simp only [ifK_true]
        cases f r with
        | fail => rfl
        | ex x r => rfl
        | ok y r => rfl
      | false => simp only [ifK_false]; rfl
theorem w_chain {g g' : D → D → Option RV} {a b c : M D} : wp (cChain g g' a b c) ρ Q E = wp a ρ (fun x ρ1 => wp b ρ1 (fun y ρ2 => oK (g x y) fun rv => blK rv fun t => ifK t (wp c ρ2 (fun z ρ3 => oK (g' y z) fun rv => Q rv ρ3) E) (Q (.va (.bl false)) ρ2)) E) E := by
  unfold cChain
  rw [w_bnd]
  refine wp_ext fun x ρ1 => ?_
  rw [w_bnd]
  refine wp_ext fun y ρ2 => ?_
  show wp _ _ _ _ = _
  cases g x y with
  | none => rfl
  | some rv =>
    cases rv with
    | ow o => rfl
    | va d =>
      cases d with
      | bl t =>
        cases t with
        | true =>
          simp only [oK_some, blK_bl, ifK_true]
          rw [w_bnd]
          exact wp_ext fun z r => w_opt
        | false => simp only [oK_some, blK_bl, ifK_false, w_lam]
      | _ => rfl
end
/-! literal places -/
theorem ix_lst0 {a : D} {ds : List D} : dIx (.lst (a :: ds)) (.int 0) = some (.va a) := by
  simp only [dIx, atI, ixN, List.length_cons]
  rw [if_pos (by omega), if_pos (by omega)]
  rfl
theorem ix_tup0 {a : D} {ds : List D} : dIx (.tup (a :: ds)) (.int 0) = some (.va a) := by
  simp only [dIx, atI, ixN, List.length_cons]
  rw [if_pos (by omega), if_pos (by omega)]
  rfl
theorem ixN_0 {n : Nat} : ixN (n + 1) 0 = some 0 := by
  simp only [ixN]
  rw [if_pos (by omega), if_pos (by omega)]
  rfl
theorem ix_lst1 {a b : D} {ds : List D} : dIx (.lst (a :: b :: ds)) (.int 1) = some (.va b) := by
  simp only [dIx, atI, ixN, List.length_cons]
  rw [if_pos (by omega), if_pos (by omega)]
  rfl
theorem ix_tup1 {a b : D} {ds : List D} : dIx (.tup (a :: b :: ds)) (.int 1) = some (.va b) := by
  simp only [dIx, atI, ixN, List.length_cons]
  rw [if_pos (by omega), if_pos (by omega)]
  rfl
theorem ixN_1 {n : Nat} : ixN (n + 2) 1 = some 1 := by
  simp only [ixN]
  rw [if_pos (by omega), if_pos (by omega)]
  rfl
theorem ix_lst2 {a b c : D} {ds : List D} : dIx (.lst (a :: b :: c :: ds)) (.int 2) = some (.va c) := by
  simp only [dIx, atI, ixN, List.length_cons]
  rw [if_pos (by omega), if_pos (by omega)]
  rfl
theorem ix_tup2 {a b c : D} {ds : List D} : dIx (.tup (a :: b :: c :: ds)) (.int 2) = some (.va c) := by
  simp only [dIx, atI, ixN, List.length_cons]
  rw [if_pos (by omega), if_pos (by omega)]
  rfl
theorem ixN_2 {n : Nat} : ixN (n + 3) 2 = some 2 := by
  simp only [ixN]
  rw [if_pos (by omega), if_pos (by omega)]
  rfl
theorem ix_lst3 {a b c d : D} {ds : List D} : dIx (.lst (a :: b :: c :: d :: ds)) (.int 3) = some (.va d) := by
  simp only [dIx, atI, ixN, List.length_cons]
  rw [if_pos (by omega), if_pos (by omega)]
  rfl
theorem ix_tup3 {a b c d : D} {ds : List D} : dIx (.tup (a :: b :: c :: d :: ds)) (.int 3) = some (.va d) := by
  simp only [dIx, atI, ixN, List.length_cons]
  rw [if_pos (by omega), if_pos (by omega)]
  rfl
theorem ixN_3 {n : Nat} : ixN (n + 4) 3 = some 3 := by
  simp only [ixN]
  rw [if_pos (by omega), if_pos (by omega)]
  rfl
theorem ix_lst4 {a b c d e : D} {ds : List D} : dIx (.lst (a :: b :: c :: d :: e :: ds)) (.int 4) = some (.va e) := by
  simp only [dIx, atI, ixN, List.length_cons]
  rw [if_pos (by omega), if_pos (by omega)]
  rfl
theorem ix_tup4 {a b c d e : D} {ds : List D} : dIx (.tup (a :: b :: c :: d :: e :: ds)) (.int 4) = some (.va e) := by
  simp only [dIx, atI, ixN, List.length_cons]
  rw [if_pos (by omega), if_pos (by omega)]
  rfl
theorem ixN_4 {n : Nat} : ixN (n + 5) 4 = some 4 := by
  simp only [ixN]
  rw [if_pos (by omega), if_pos (by omega)]
  rfl
theorem ix_lst5 {a b c d e f : D} {ds : List D} : dIx (.lst (a :: b :: c :: d :: e :: f :: ds)) (.int 5) = some (.va f) := by
  simp only [dIx, atI, ixN, List.length_cons]
  rw [if_pos (by omega), if_pos (by omega)]
  rfl
theorem ix_tup5 {a b c d e f : D} {ds : List D} : dIx (.tup (a :: b :: c :: d :: e :: f :: ds)) (.int 5) = some (.va f) := by
  simp only [dIx, atI, ixN, List.length_cons]
  rw [if_pos (by omega), if_pos (by omega)]
  rfl
theorem ixN_5 {n : Nat} : ixN (n + 6) 5 = some 5 := by
  simp only [ixN]
  rw [if_pos (by omega), if_pos (by omega)]
  rfl
theorem ix_lst6 {a b c d e f g : D} {ds : List D} : dIx (.lst (a :: b :: c :: d :: e :: f :: g :: ds)) (.int 6) = some (.va g) := by
  simp only [dIx, atI, ixN, List.length_cons]
  rw [if_pos (by omega), if_pos (by omega)]
  rfl
theorem ix_tup6 {a b c d e f g : D} {ds : List D} : dIx (.tup (a :: b :: c :: d :: e :: f :: g :: ds)) (.int 6) = some (.va g) := by
  simp only [dIx, atI, ixN, List.length_cons]
  rw [if_pos (by omega), if_pos (by omega)]
  rfl
theorem ixN_6 {n : Nat} : ixN (n + 7) 6 = some 6 := by
  simp only [ixN]
  rw [if_pos (by omega), if_pos (by omega)]
  rfl
theorem ix_lst7 {a b c d e f g h : D} {ds : List D} : dIx (.lst (a :: b :: c :: d :: e :: f :: g :: h :: ds)) (.int 7) = some (.va h) := by
  simp only [dIx, atI, ixN, List.length_cons]
  rw [if_pos (by omega), if_pos (by omega)]
  rfl
theorem ix_tup7 {a b c d e f g h : D} {ds : List D} : dIx (.tup (a :: b :: c :: d :: e :: f :: g :: h :: ds)) (.int 7) = some (.va h) := by
  simp only [dIx, atI, ixN, List.length_cons]
  rw [if_pos (by omega), if_pos (by omega)]
  rfl
theorem ixN_7 {n : Nat} : ixN (n + 8) 7 = some 7 := by
  simp only [ixN]
  rw [if_pos (by omega), if_pos (by omega)]
  rfl
theorem ix_lst8 {a b c d e f g h i : D} {ds : List D} : dIx (.lst (a :: b :: c :: d :: e :: f :: g :: h :: i :: ds)) (.int 8) = some (.va i) := by
  simp only [dIx, atI, ixN, List.length_cons]
  rw [if_pos (by omega), if_pos (by omega)]
  rfl
theorem ix_tup8 {a b c d e f g h i : D} {ds : List D} : dIx (.tup (a :: b :: c :: d :: e :: f :: g :: h :: i :: ds)) (.int 8) = some (.va i) := by
  simp only [dIx, atI, ixN, List.length_cons]
  rw [if_pos (by omega), if_pos (by omega)]
  rfl
theorem ixN_8 {n : Nat} : ixN (n + 9) 8 = some 8 := by
  simp only [ixN]
  rw [if_pos (by omega), if_pos (by omega)]
  rfl
theorem ixN_nat {n k : Nat} (h : k < n) : ixN n (k : Int) = some k := by
  unfold ixN
  simp only [Int.natCast_nonneg, if_true, Int.toNat_natCast]
  rw [if_pos (by omega)]
theorem atI_nat {α : Type} {xs : List α} {k : Nat} (h : k < xs.length) : atI xs (k : Int) = some xs[k] := by
  unfold atI
  rw [ixN_nat h]
  simp [h]
theorem le_int {i j : Int} : dLe (.int i) (.int j) = some (.va (.bl (decide (i ≤ j)))) := rfl
theorem gt_int {i j : Int} : dGt (.int i) (.int j) = some (.va (.bl (decide (j < i)))) := rfl
theorem ge_int {i j : Int} : dGe (.int i) (.int j) = some (.va (.bl (decide (j ≤ i)))) := rfl
/-! loops by the place -/
section
variable {E : Exc → Env → Prop} {QF : Fl → Env → Prop}
theorem wp_forI {tg : Tg} {b : M Fl} (ds : List D) (I : Nat → Env → Prop) (h1 : ∀ (i : Nat) d r, ds[i]? = some d → I i r → ∃ r1, tg d r = some r1 ∧ wp b r1 (fun fl r2 => match fl with | .nx => I (i + 1) r2 | .ct => I (i + 1) r2 | .bk => QF .nx r2 | .rt rv => QF (.rt rv) r2) E) (h0 : ∀ r, I ds.length r → QF .nx r) (ρ : Env) (h : I 0 ρ) : wp (forL tg b ds) ρ QF E := by
  refine wp_for (fun es r => ∃ k, k + es.length = ds.length ∧ es = ds.drop k ∧ I k r) (fun r ⟨k, e, _, z⟩ => h0 r ((show k = ds.length by simpa using e) ▸ z)) (fun d es r ⟨k, e, e2, z⟩ => ?_) ds ρ ⟨0, by simp, rfl, h⟩
  have hk : ds[k]? = some d := by
    have := congrArg (·[0]?) e2
    simpa using this.symm
  obtain ⟨r1, a, q⟩ := h1 k d r hk z
  have e3 : es = ds.drop (k + 1) := by
    have := congrArg List.tail e2
    simpa using this
  have e4 : k + 1 + es.length = ds.length := by rw [← e, List.length_cons]; omega
  refine ⟨r1, a, wp_mono q (fun fl r2 y => ?_) fun _ _ y => y⟩
  cases fl with
  | nx => exact ⟨k + 1, e4, e3, y⟩
  | ct => exact ⟨k + 1, e4, e3, y⟩
  | bk => exact y
  | rt rv => exact y
theorem wp_lcA {vs : List Nat} {g : Tg} {c : M Bool} {f : M D} (I : List D → List D → Env → Prop) (h1 : ∀ d ds ys r, I (d :: ds) ys r → ∃ r1, g d r = some r1 ∧ wp c r1 (fun t r2 => ifK t (wp f r2 (fun y r3 => I ds (ys ++ [y]) (wipeE r3 vs)) fun _ _ => False) (I ds ys (wipeE r2 vs))) fun _ _ => False) : ∀ (ds : List D) (ρ : Env) (ys : List D) (Q : List D → Env → Prop), (∀ zs r, I [] (ys ++ zs) r → Q zs r) → I ds ys ρ → wp (lcL vs g c f ds) ρ Q E
  | [], ρ, ys, Q, h0, h => h0 [] ρ (by rw [List.append_nil]; exact h)
  | d :: ds, ρ, ys, Q, h0, h => by
    obtain ⟨r1, a, q⟩ := h1 d ds ys ρ h
    rw [w_lc1, a, oK_some]
    refine wp_mono q (fun t r2 y => ?_) fun _ _ y => y
    cases t with
    | true =>
      rw [ifK_true] at y ⊢
      refine wp_mono y (fun v r3 z => ?_) fun _ _ z => z
      exact wp_lcA I h1 ds _ (ys ++ [v]) _ (fun zs r w => h0 _ r (by simpa using w)) z
    | false =>
      rw [ifK_false] at y ⊢
      exact wp_lcA I h1 ds _ ys _ h0 y
theorem wp_lcI {vs : List Nat} {g : Tg} {c : M Bool} {f : M D} (ds : List D) {Q : List D → Env → Prop} (I : Nat → List D → Env → Prop) (h1 : ∀ (i : Nat) d ys r, ds[i]? = some d → I i ys r → ∃ r1, g d r = some r1 ∧ wp c r1 (fun t r2 => ifK t (wp f r2 (fun y r3 => I (i + 1) (ys ++ [y]) (wipeE r3 vs)) fun _ _ => False) (I (i + 1) ys (wipeE r2 vs))) fun _ _ => False) (h0 : ∀ ys r, I ds.length ys r → Q ys r) (ρ : Env) (h : I 0 [] ρ) : wp (lcL vs g c f ds) ρ Q E := by
  refine wp_lcA (fun es ys r => ∃ k, k + es.length = ds.length ∧ es = ds.drop k ∧ I k ys r) (fun d es ys r ⟨k, e, e2, z⟩ => ?_) ds ρ [] Q (fun zs r ⟨k, e, _, z⟩ => h0 _ r ((show k = ds.length by simpa using e) ▸ z)) ⟨0, by simp, rfl, h⟩
  have hk : ds[k]? = some d := by
    have := congrArg (·[0]?) e2
    simpa using this.symm
  obtain ⟨r1, a, q⟩ := h1 k d ys r hk z
  have e3 : es = ds.drop (k + 1) := by
    have := congrArg List.tail e2
    simpa using this
  have e4 : k + 1 + es.length = ds.length := by rw [← e, List.length_cons]; omega
  refine ⟨r1, a, wp_mono q (fun t r2 y => ?_) fun _ _ y => y⟩
  cases t with
  | true => rw [ifK_true] at y ⊢; exact wp_mono y (fun v r3 w => ⟨k + 1, e4, e3, w⟩) fun _ _ w => w
  | false => rw [ifK_false] at y ⊢; exact ⟨k + 1, e4, e3, y⟩
/-- a comprehension that asks for nothing and changes nothing -/
theorem lc_map {vs : List Nat} {g : Tg} {f : M D} (h : D → D) {ρ : Env} : ∀ (ds : List D), (∀ (i : Nat) d, ds[i]? = some d → ∃ r1, g d ρ = some r1 ∧ wp f r1 (fun y r3 => y = h d ∧ wipeE r3 vs = ρ) fun _ _ => False) → lcL vs g (fun ρ => .ok true ρ) f ds ρ = .ok (ds.map h) ρ
  | [], _ => rfl
  | d :: ds, H => by
    refine wp_ok ?_
    obtain ⟨r1, a, q⟩ := H 0 d rfl
    rw [w_lc1, a, oK_some, w_lam, ifK_true]
    refine wp_mono q (fun y r3 z => ?_) fun _ _ z => z
    rw [z.2, wp_of (lc_map h ds fun i d e => H (i + 1) d e), z.1]
    exact ⟨rfl, rfl⟩
theorem lc_filter {vs : List Nat} {g : Tg} {c : M Bool} {f : M D} (h : D → Option D) {ρ : Env} : ∀ (ds : List D), (∀ (i : Nat) d, ds[i]? = some d → ∃ r1, g d ρ = some r1 ∧ wp c r1 (fun t r2 => ifK t (wp f r2 (fun y r3 => h d = some y ∧ wipeE r3 vs = ρ) fun _ _ => False) (h d = none ∧ wipeE r2 vs = ρ)) fun _ _ => False) → lcL vs g c f ds ρ = .ok (ds.filterMap h) ρ
  | [], _ => rfl
  | d :: ds, H => by
    refine wp_ok ?_
    obtain ⟨r1, a, q⟩ := H 0 d rfl
    rw [w_lc1, a, oK_some]
    refine wp_mono q (fun t r2 y => ?_) fun _ _ z => z
    have ih := lc_filter h ds fun i d e => H (i + 1) d e
    cases t with
    | true =>
      rw [ifK_true] at y ⊢
      refine wp_mono y (fun v r3 z => ?_) fun _ _ z => z
      rw [z.2, wp_of ih, List.filterMap_cons, z.1]
      exact ⟨rfl, rfl⟩
    | false =>
      rw [ifK_false] at y ⊢
      rw [y.2, wp_of ih, List.filterMap_cons, y.1]
      exact ⟨rfl, rfl⟩
theorem rngL_nat (n : Nat) : rngL 0 (n : Int) = (List.range n).map fun (i : Nat) => D.int (i : Int) := by
  unfold rngL
  simp
theorem rngL_get {n i : Nat} {d : D} (h : (rngL 0 (n : Int))[i]? = some d) : i < n ∧ d = .int (i : Int) := by
  rw [rngL_nat, List.getElem?_map] at h
  by_cases hi : i < n
  · rw [List.getElem?_range hi] at h
    exact ⟨hi, (Option.some.inj h).symm⟩
  · rw [List.getElem?_eq_none (by simpa using hi)] at h
    cases h
theorem rngL_len (n : Nat) : (rngL 0 (n : Int)).length = n := by rw [rngL_nat]; simp
theorem enumD_at : ∀ {ds : List D} {k i : Nat} {e : D}, (enumD ds k)[i]? = some e → ∃ d, ds[i]? = some d ∧ e = .tup [.int ((k + i : Nat) : Int), d]
  | [], _, _, _, h => by simp [enumD] at h
  | d :: ds, k, 0, e, h => ⟨d, rfl, by simpa [enumD] using h.symm⟩
  | d :: ds, k, i + 1, e, h => by
    obtain ⟨d', a, b⟩ := enumD_at (ds := ds) (k := k + 1) (i := i) (e := e) (by simpa [enumD] using h)
    exact ⟨d', by simpa using a, by rw [b]; congr 3; omega⟩
theorem cut_to {α : Type} {xs : List α} {k : Nat} : cutL xs none (some (k : Int)) = xs.take k := by
  unfold cutL
  rw [HT.sIx_nat, HT.sIx_none]
  simp only [List.drop_zero, Nat.sub_zero]
  rw [List.take_eq_take_iff]
  omega
theorem cut_of {α : Type} {xs : List α} {k : Nat} : cutL xs (some (k : Int)) none = xs.drop k := by
  unfold cutL
  rw [HT.sIx_nat, HT.sIx_none]
  by_cases h : k ≤ xs.length
  · rw [Nat.min_eq_left h, List.take_of_length_le (by simp)]
  · rw [Nat.min_eq_right (by omega), List.drop_of_length_le (Nat.le_refl _), List.drop_of_length_le (by omega)]
    simp
theorem cut_ofS {α : Type} {xs : List α} {k : Nat} : cutL xs (some ((k : Int) + 1)) none = xs.drop (k + 1) := cut_of (k := k + 1)
theorem inRng_nat {n : Nat} (h : n ≤ 2 ^ 60) : inRng (n : Int) = true := by
  unfold inRng
  rw [decide_eq_true_eq]
  omega
end
theorem add_int {i j : Int} : dAdd (.int i) (.int j) = some (.va (.int (i + j))) := rfl
theorem eq_int {i j : Int} : dEq (.int i) (.int j) = some (.va (.bl (i == j))) := rfl
theorem eq_str {i j : Str} : dEq (.str i) (.str j) = some (.va (.bl (i == j))) := rfl
theorem ne_int {i j : Int} : dNe (.int i) (.int j) = some (.va (.bl (!(i == j)))) := rfl
theorem ne_str {i j : Str} : dNe (.str i) (.str j) = some (.va (.bl (!(i == j)))) := rfl
end RF

/-! RF14: what the laws' own draws come to. -/
namespace RF
open PySem PySem.Spec PyProof.Rows L2
def drawT : M Fl :=
  (cSeq (cIf (cB (cOp dGe (.lv 3) (.ev (cD (cOp dPow (.ev (cD (cC (.int 10)))) (.ev (cD (cC (.int 18))))))))) (cSeq (cSetI 0 (cD (cOp dFdiv (.lv 3) (.lv 1))) (cD (cC (.int 2))))
    (cRet (cOp dMod (.ev (cD (cCB dInt [(.lv 3)]))) (.lv 1)))) cNx)
    (cSeq (cAsg 4 (cOp dMod (.ev (cD (cCB dInt [(.ev (cD (cOp dAdd (.ev (cD (cOp dMul (.ev (cD (cOp dAdd (.lv 3) (.ev (cD (cC (.int 1))))))) (.ev (cD (cC (.int 48271))))))) (.ev (cD (cOp dMul (.ev (cD (cOp dIx (.lv 0) (.ev (cD (cC (.int 3))))))) (.ev (cD (cC (.int 69621))))))))))]))) (.ev (cD (cC (.int 2147483647))))))
    (cSeq (cAsg 4 (cOp dMod (.ev (cD (cCB dInt [(.ev (cD (cOp dAdd (.ev (cD (cOp dAdd (.ev (cD (cOp dMul (.lv 4) (.ev (cD (cC (.int 16807))))))) (.ev (cD (cOp dFdiv (.lv 3) (.ev (cD (cC (.int 97)))))))))) (.ev (cD (cOp dIx (.lv 0) (.ev (cD (cC (.int 3))))))))))]))) (.ev (cD (cC (.int 2147483629))))))
    (cRet (cOp dMod (.ev (cD (cOp dFdiv (.lv 4) (.ev (cD (cC (.int 11))))))) (.lv 1))))))
def drawB : M Fl :=
  (cSeq (cSetI 0 (cD (cOp dAdd (.ev (cD (cOp dIx (.lv 0) (.ev (cD (cC (.int 3))))))) (.ev (cD (cC (.int 1)))))) (cD (cC (.int 3))))
    (cSeq (cIf (cB (cOp dGt (.ev (cD (cOp dIx (.lv 0) (.ev (cD (cC (.int 2))))))) (.ev (cD (cC (.int 0)))))) (cSeq (cAsg 2 (cOp dMod (.ev (cD (cCB dInt [(.ev (cD (cOp dIx (.lv 0) (.ev (cD (cC (.int 2)))))))]))) (.lv 1)))
    (cSeq (cSetI 0 (cD (cOp dFdiv (.ev (cD (cOp dIx (.lv 0) (.ev (cD (cC (.int 2))))))) (.lv 1))) (cD (cC (.int 2))))
    (cRet (cMv 2)))) cNx)
    (cSeq (cAsg 3 (cC (.int 0)))
    (cSeq (cIf (cB (cOp dGt (.ev (cD (cCB dLen [(.ev (cD (cOp dIx (.lv 0) (.ev (cD (cC (.int 0)))))))]))) (.ev (cD (cC (.int 0)))))) (cAsg 3 (cCB dAbs [(.ev (cD (cOp dIx (.ev (cD (cOp dIx (.lv 0) (.ev (cD (cC (.int 0))))))) (.ev (cD (cOp dMod (.ev (cD (cCB dInt [(.ev (cD (cOp dIx (.lv 0) (.ev (cD (cC (.int 1)))))))]))) (.ev (cD (cCB dLen [(.ev (cD (cOp dIx (.lv 0) (.ev (cD (cC (.int 0)))))))])))))))))])) cNx)
    (cSeq (cSetI 0 (cD (cOp dAdd (.ev (cD (cOp dIx (.lv 0) (.ev (cD (cC (.int 1))))))) (.ev (cD (cC (.int 1)))))) (cD (cC (.int 1))))
    drawT)))))
def drawF : M RV := runF 5 drawB
/-- the state of the draws -/
def DrS (ns : List Int) (o : Ob) : Prop := ∃ pos buf cnt : Int, 0 ≤ pos ∧ 0 ≤ buf ∧ o = .lst [.lst (ns.map D.int), .int pos, .int buf, .int cnt]
def DrQ (ns : List Int) (m : Int) (rv : RV) (as : Env) : Prop := ∃ r o', 0 ≤ r ∧ r < m ∧ DrS ns o' ∧ rv = .va (.int r) ∧ as = [.ow true o', .va (.int m)]
theorem draw_end {ns : List Int} {o : Ob} {m pos buf cnt cell : Int} (hp : 0 ≤ pos) (hb : 0 ≤ buf) (hc : 0 ≤ cell) (h0 : 0 < m) (h1 : m ≤ 10 ^ 40) : wp drawT [.ow true (.lst [.lst (ns.map D.int), .int pos, .int buf, .int cnt]), .va (.int m), .un, .va (.int cell), .un] (retK [.ow true o, .va (.int m)] (DrQ ns m)) fun _ _ => False := by
  unfold drawT
  simp -dsimp -implicitDefEqProofs only [RF.w_seq, RF.w_if, RF.w_asg, RF.w_ret, RF.w_drop, RF.w_nx, RF.w_run, RF.w_C, RF.w_var, RF.w_mv, RF.w_D, RF.w_V, RF.w_ev, RF.w_lv, RF.w_op, RF.w_T, RF.w_B, RF.w_notT, RF.w_andT, RF.w_orT, RF.w_andV, RF.w_orV, RF.w_not, RF.w_neg, RF.w_CB, RF.w_pre0, RF.w_pre, RF.w_isi, RF.w_evs0, RF.w_evs, RF.w_tup, RF.w_lst, RF.w_part0, RF.w_part, RF.w_sl, RF.w_call, RF.w_call0, RF.w_app, RF.w_ext, RF.w_ins, RF.w_pop, RF.w_setI, RF.w_aug, RF.w_asgT, RF.w_for, RF.w_for0, RF.w_for1, RF.w_it, RF.w_enum, RF.w_rng1, RF.w_rng2, RF.w_lc, RF.w_lc0, RF.w_lc1, RF.w_chain, RF.w_lam, RF.w_bnd, RF.oK_some, RF.oK_none, RF.oK_ite, RF.ifK_true, RF.ifK_false, RF.ifK_not, RF.seqK_nx, RF.seqK_bk, RF.seqK_ct, RF.seqK_rt, RF.stO_un, RF.stO_va, RF.stO_ow, RF.retK_rt, RF.retK_nx, RF.back_nil, RF.back_ow, RF.back_va, RF.varK_va, RF.varK_ow, RF.toD_lst, RF.toD_dct, RF.mvK_va, RF.mvK_ow, RF.rvK_va, RF.rvK_ow, RF.rdS_va, RF.rdS_ow, RF.fin_ev, RF.fin_lv, RF.ap2_some, RF.blK_bl, RF.negD, RF.cons2_some, RF.finL_nil, RF.finL_cons, RF.intK_int, RF.mkA_nil, RF.mkA_ev, RF.mkS_ow, RF.mkA_lv, RF.putA_nil, RF.putA_ev, RF.putS_ow, RF.putA_lv, RF.owS_ow, RF.vaS_va, RF.tgN_eq, RF.tgO_un, RF.tgO_va, RF.tgO_ow, RF.tgT_tup, RF.tgL_nil, RF.tgL_cons, RF.forK_nx, RF.forK_ct, RF.forK_bk, RF.forK_rt, RF.asV, Option.map_some, Option.map_none, Option.bind_some, Option.bind_none, Option.some.injEq, List.getElem?_cons_zero, List.getElem?_cons_succ, List.set_cons_zero, List.set_cons_succ, List.length_cons, List.length_nil, List.cons_append, List.nil_append, List.replicate_succ, List.replicate_zero, Nat.reduceAdd, Nat.reduceSub, Nat.add_zero, Nat.zero_add, Nat.sub_self, RF.seqI, RF.seqD, RF.wipeE, RF.restE, Option.getD_some, RF.ix_lst0, RF.ix_tup0, RF.ixN_0, RF.ix_lst1, RF.ix_tup1, RF.ixN_1, RF.ix_lst2, RF.ix_tup2, RF.ixN_2, RF.ix_lst3, RF.ix_tup3, RF.ixN_3, RF.ix_lst4, RF.ix_tup4, RF.ixN_4, RF.ix_lst5, RF.ix_tup5, RF.ixN_5, RF.ix_lst6, RF.ix_tup6, RF.ixN_6, RF.ix_lst7, RF.ix_tup7, RF.ixN_7, RF.ix_lst8, RF.ix_tup8, RF.ixN_8, RF.add_int, RF.dSub, RF.dMul, RF.dFdiv, RF.dMod, RF.dPow, RF.eq_int, RF.eq_str, RF.ne_int, RF.ne_str, RF.dLt, RF.le_int, RF.gt_int, RF.ge_int, RF.dIs, RF.dLen, RF.dAbs, RF.dInt, RF.dList, RF.dTup, RF.dAll, RF.dAny, RF.dSum, RF.dMax2, RF.dMin2, RF.truthD, RF.isNon]
  refine ⟨by decide, ?_⟩
  rw [ifK_dec]
  refine ⟨fun c0 => ?_, fun c0 => ?_⟩
  · simp -dsimp -implicitDefEqProofs only [RF.w_seq, RF.w_if, RF.w_asg, RF.w_ret, RF.w_drop, RF.w_nx, RF.w_run, RF.w_C, RF.w_var, RF.w_mv, RF.w_D, RF.w_V, RF.w_ev, RF.w_lv, RF.w_op, RF.w_T, RF.w_B, RF.w_notT, RF.w_andT, RF.w_orT, RF.w_andV, RF.w_orV, RF.w_not, RF.w_neg, RF.w_CB, RF.w_pre0, RF.w_pre, RF.w_isi, RF.w_evs0, RF.w_evs, RF.w_tup, RF.w_lst, RF.w_part0, RF.w_part, RF.w_sl, RF.w_call, RF.w_call0, RF.w_app, RF.w_ext, RF.w_ins, RF.w_pop, RF.w_setI, RF.w_aug, RF.w_asgT, RF.w_for, RF.w_for0, RF.w_for1, RF.w_it, RF.w_enum, RF.w_rng1, RF.w_rng2, RF.w_lc, RF.w_lc0, RF.w_lc1, RF.w_chain, RF.w_lam, RF.w_bnd, RF.oK_some, RF.oK_none, RF.oK_ite, RF.ifK_true, RF.ifK_false, RF.ifK_not, RF.seqK_nx, RF.seqK_bk, RF.seqK_ct, RF.seqK_rt, RF.stO_un, RF.stO_va, RF.stO_ow, RF.retK_rt, RF.retK_nx, RF.back_nil, RF.back_ow, RF.back_va, RF.varK_va, RF.varK_ow, RF.toD_lst, RF.toD_dct, RF.mvK_va, RF.mvK_ow, RF.rvK_va, RF.rvK_ow, RF.rdS_va, RF.rdS_ow, RF.fin_ev, RF.fin_lv, RF.ap2_some, RF.blK_bl, RF.negD, RF.cons2_some, RF.finL_nil, RF.finL_cons, RF.intK_int, RF.mkA_nil, RF.mkA_ev, RF.mkS_ow, RF.mkA_lv, RF.putA_nil, RF.putA_ev, RF.putS_ow, RF.putA_lv, RF.owS_ow, RF.vaS_va, RF.tgN_eq, RF.tgO_un, RF.tgO_va, RF.tgO_ow, RF.tgT_tup, RF.tgL_nil, RF.tgL_cons, RF.forK_nx, RF.forK_ct, RF.forK_bk, RF.forK_rt, RF.asV, Option.map_some, Option.map_none, Option.bind_some, Option.bind_none, Option.some.injEq, List.getElem?_cons_zero, List.getElem?_cons_succ, List.set_cons_zero, List.set_cons_succ, List.length_cons, List.length_nil, List.cons_append, List.nil_append, List.replicate_succ, List.replicate_zero, Nat.reduceAdd, Nat.reduceSub, Nat.add_zero, Nat.zero_add, Nat.sub_self, RF.seqI, RF.seqD, RF.wipeE, RF.restE, Option.getD_some, RF.ix_lst0, RF.ix_tup0, RF.ixN_0, RF.ix_lst1, RF.ix_tup1, RF.ixN_1, RF.ix_lst2, RF.ix_tup2, RF.ixN_2, RF.ix_lst3, RF.ix_tup3, RF.ixN_3, RF.ix_lst4, RF.ix_tup4, RF.ixN_4, RF.ix_lst5, RF.ix_tup5, RF.ixN_5, RF.ix_lst6, RF.ix_tup6, RF.ixN_6, RF.ix_lst7, RF.ix_tup7, RF.ixN_7, RF.ix_lst8, RF.ix_tup8, RF.ixN_8, RF.add_int, RF.dSub, RF.dMul, RF.dFdiv, RF.dMod, RF.dPow, RF.eq_int, RF.eq_str, RF.ne_int, RF.ne_str, RF.dLt, RF.le_int, RF.gt_int, RF.ge_int, RF.dIs, RF.dLen, RF.dAbs, RF.dInt, RF.dList, RF.dTup, RF.dAll, RF.dAny, RF.dSum, RF.dMax2, RF.dMin2, RF.truthD, RF.isNon]
    exact ⟨⟨h0, h1⟩, h0, _, _, Int.emod_nonneg _ (by omega), Int.emod_lt_of_pos _ h0, ⟨pos, cell / m, cnt, hp, Int.ediv_nonneg hc (by omega), rfl⟩, rfl, rfl⟩
  · simp -dsimp -implicitDefEqProofs only [RF.w_seq, RF.w_if, RF.w_asg, RF.w_ret, RF.w_drop, RF.w_nx, RF.w_run, RF.w_C, RF.w_var, RF.w_mv, RF.w_D, RF.w_V, RF.w_ev, RF.w_lv, RF.w_op, RF.w_T, RF.w_B, RF.w_notT, RF.w_andT, RF.w_orT, RF.w_andV, RF.w_orV, RF.w_not, RF.w_neg, RF.w_CB, RF.w_pre0, RF.w_pre, RF.w_isi, RF.w_evs0, RF.w_evs, RF.w_tup, RF.w_lst, RF.w_part0, RF.w_part, RF.w_sl, RF.w_call, RF.w_call0, RF.w_app, RF.w_ext, RF.w_ins, RF.w_pop, RF.w_setI, RF.w_aug, RF.w_asgT, RF.w_for, RF.w_for0, RF.w_for1, RF.w_it, RF.w_enum, RF.w_rng1, RF.w_rng2, RF.w_lc, RF.w_lc0, RF.w_lc1, RF.w_chain, RF.w_lam, RF.w_bnd, RF.oK_some, RF.oK_none, RF.oK_ite, RF.ifK_true, RF.ifK_false, RF.ifK_not, RF.seqK_nx, RF.seqK_bk, RF.seqK_ct, RF.seqK_rt, RF.stO_un, RF.stO_va, RF.stO_ow, RF.retK_rt, RF.retK_nx, RF.back_nil, RF.back_ow, RF.back_va, RF.varK_va, RF.varK_ow, RF.toD_lst, RF.toD_dct, RF.mvK_va, RF.mvK_ow, RF.rvK_va, RF.rvK_ow, RF.rdS_va, RF.rdS_ow, RF.fin_ev, RF.fin_lv, RF.ap2_some, RF.blK_bl, RF.negD, RF.cons2_some, RF.finL_nil, RF.finL_cons, RF.intK_int, RF.mkA_nil, RF.mkA_ev, RF.mkS_ow, RF.mkA_lv, RF.putA_nil, RF.putA_ev, RF.putS_ow, RF.putA_lv, RF.owS_ow, RF.vaS_va, RF.tgN_eq, RF.tgO_un, RF.tgO_va, RF.tgO_ow, RF.tgT_tup, RF.tgL_nil, RF.tgL_cons, RF.forK_nx, RF.forK_ct, RF.forK_bk, RF.forK_rt, RF.asV, Option.map_some, Option.map_none, Option.bind_some, Option.bind_none, Option.some.injEq, List.getElem?_cons_zero, List.getElem?_cons_succ, List.set_cons_zero, List.set_cons_succ, List.length_cons, List.length_nil, List.cons_append, List.nil_append, List.replicate_succ, List.replicate_zero, Nat.reduceAdd, Nat.reduceSub, Nat.add_zero, Nat.zero_add, Nat.sub_self, RF.seqI, RF.seqD, RF.wipeE, RF.restE, Option.getD_some, RF.ix_lst0, RF.ix_tup0, RF.ixN_0, RF.ix_lst1, RF.ix_tup1, RF.ixN_1, RF.ix_lst2, RF.ix_tup2, RF.ixN_2, RF.ix_lst3, RF.ix_tup3, RF.ixN_3, RF.ix_lst4, RF.ix_tup4, RF.ixN_4, RF.ix_lst5, RF.ix_tup5, RF.ixN_5, RF.ix_lst6, RF.ix_tup6, RF.ixN_6, RF.ix_lst7, RF.ix_tup7, RF.ixN_7, RF.ix_lst8, RF.ix_tup8, RF.ixN_8, RF.add_int, RF.dSub, RF.dMul, RF.dFdiv, RF.dMod, RF.dPow, RF.eq_int, RF.eq_str, RF.ne_int, RF.ne_str, RF.dLt, RF.le_int, RF.gt_int, RF.ge_int, RF.dIs, RF.dLen, RF.dAbs, RF.dInt, RF.dList, RF.dTup, RF.dAll, RF.dAny, RF.dSum, RF.dMax2, RF.dMin2, RF.truthD, RF.isNon]
    refine ⟨.inr (by decide), .inr (by decide), by decide, .inr (by decide), by decide, by decide, by decide, h0, ?_⟩
    exact ⟨_, _, Int.emod_nonneg _ (by omega), Int.emod_lt_of_pos _ h0, ⟨pos, buf, cnt, hp, hb, rfl⟩, rfl, rfl⟩
theorem draw_spec {ns : List Int} {o : Ob} {m : Int} (h : DrS ns o) (h0 : 0 < m) (h1 : m ≤ 10 ^ 40) : wp drawF [.ow true o, .va (.int m)] (DrQ ns m) fun _ _ => False := by
  obtain ⟨pos, buf, cnt, hp, hb, rfl⟩ := h
  unfold drawF drawB
  simp -dsimp -implicitDefEqProofs only [RF.w_seq, RF.w_if, RF.w_asg, RF.w_ret, RF.w_drop, RF.w_nx, RF.w_run, RF.w_C, RF.w_var, RF.w_mv, RF.w_D, RF.w_V, RF.w_ev, RF.w_lv, RF.w_op, RF.w_T, RF.w_B, RF.w_notT, RF.w_andT, RF.w_orT, RF.w_andV, RF.w_orV, RF.w_not, RF.w_neg, RF.w_CB, RF.w_pre0, RF.w_pre, RF.w_isi, RF.w_evs0, RF.w_evs, RF.w_tup, RF.w_lst, RF.w_part0, RF.w_part, RF.w_sl, RF.w_call, RF.w_call0, RF.w_app, RF.w_ext, RF.w_ins, RF.w_pop, RF.w_setI, RF.w_aug, RF.w_asgT, RF.w_for, RF.w_for0, RF.w_for1, RF.w_it, RF.w_enum, RF.w_rng1, RF.w_rng2, RF.w_lc, RF.w_lc0, RF.w_lc1, RF.w_chain, RF.w_lam, RF.w_bnd, RF.oK_some, RF.oK_none, RF.oK_ite, RF.ifK_true, RF.ifK_false, RF.ifK_not, RF.seqK_nx, RF.seqK_bk, RF.seqK_ct, RF.seqK_rt, RF.stO_un, RF.stO_va, RF.stO_ow, RF.retK_rt, RF.retK_nx, RF.back_nil, RF.back_ow, RF.back_va, RF.varK_va, RF.varK_ow, RF.toD_lst, RF.toD_dct, RF.mvK_va, RF.mvK_ow, RF.rvK_va, RF.rvK_ow, RF.rdS_va, RF.rdS_ow, RF.fin_ev, RF.fin_lv, RF.ap2_some, RF.blK_bl, RF.negD, RF.cons2_some, RF.finL_nil, RF.finL_cons, RF.intK_int, RF.mkA_nil, RF.mkA_ev, RF.mkS_ow, RF.mkA_lv, RF.putA_nil, RF.putA_ev, RF.putS_ow, RF.putA_lv, RF.owS_ow, RF.vaS_va, RF.tgN_eq, RF.tgO_un, RF.tgO_va, RF.tgO_ow, RF.tgT_tup, RF.tgL_nil, RF.tgL_cons, RF.forK_nx, RF.forK_ct, RF.forK_bk, RF.forK_rt, RF.asV, Option.map_some, Option.map_none, Option.bind_some, Option.bind_none, Option.some.injEq, List.getElem?_cons_zero, List.getElem?_cons_succ, List.set_cons_zero, List.set_cons_succ, List.length_cons, List.length_nil, List.cons_append, List.nil_append, List.replicate_succ, List.replicate_zero, Nat.reduceAdd, Nat.reduceSub, Nat.add_zero, Nat.zero_add, Nat.sub_self, RF.seqI, RF.seqD, RF.wipeE, RF.restE, Option.getD_some, RF.ix_lst0, RF.ix_tup0, RF.ixN_0, RF.ix_lst1, RF.ix_tup1, RF.ixN_1, RF.ix_lst2, RF.ix_tup2, RF.ixN_2, RF.ix_lst3, RF.ix_tup3, RF.ixN_3, RF.ix_lst4, RF.ix_tup4, RF.ixN_4, RF.ix_lst5, RF.ix_tup5, RF.ixN_5, RF.ix_lst6, RF.ix_tup6, RF.ixN_6, RF.ix_lst7, RF.ix_tup7, RF.ixN_7, RF.ix_lst8, RF.ix_tup8, RF.ixN_8, RF.add_int, RF.dSub, RF.dMul, RF.dFdiv, RF.dMod, RF.dPow, RF.eq_int, RF.eq_str, RF.ne_int, RF.ne_str, RF.dLt, RF.le_int, RF.gt_int, RF.ge_int, RF.dIs, RF.dLen, RF.dAbs, RF.dInt, RF.dList, RF.dTup, RF.dAll, RF.dAny, RF.dSum, RF.dMax2, RF.dMin2, RF.truthD, RF.isNon]
  rw [ifK_dec]
  refine ⟨fun c0 => ?_, fun c0 => ?_⟩
  · simp -dsimp -implicitDefEqProofs only [RF.w_seq, RF.w_if, RF.w_asg, RF.w_ret, RF.w_drop, RF.w_nx, RF.w_run, RF.w_C, RF.w_var, RF.w_mv, RF.w_D, RF.w_V, RF.w_ev, RF.w_lv, RF.w_op, RF.w_T, RF.w_B, RF.w_notT, RF.w_andT, RF.w_orT, RF.w_andV, RF.w_orV, RF.w_not, RF.w_neg, RF.w_CB, RF.w_pre0, RF.w_pre, RF.w_isi, RF.w_evs0, RF.w_evs, RF.w_tup, RF.w_lst, RF.w_part0, RF.w_part, RF.w_sl, RF.w_call, RF.w_call0, RF.w_app, RF.w_ext, RF.w_ins, RF.w_pop, RF.w_setI, RF.w_aug, RF.w_asgT, RF.w_for, RF.w_for0, RF.w_for1, RF.w_it, RF.w_enum, RF.w_rng1, RF.w_rng2, RF.w_lc, RF.w_lc0, RF.w_lc1, RF.w_chain, RF.w_lam, RF.w_bnd, RF.oK_some, RF.oK_none, RF.oK_ite, RF.ifK_true, RF.ifK_false, RF.ifK_not, RF.seqK_nx, RF.seqK_bk, RF.seqK_ct, RF.seqK_rt, RF.stO_un, RF.stO_va, RF.stO_ow, RF.retK_rt, RF.retK_nx, RF.back_nil, RF.back_ow, RF.back_va, RF.varK_va, RF.varK_ow, RF.toD_lst, RF.toD_dct, RF.mvK_va, RF.mvK_ow, RF.rvK_va, RF.rvK_ow, RF.rdS_va, RF.rdS_ow, RF.fin_ev, RF.fin_lv, RF.ap2_some, RF.blK_bl, RF.negD, RF.cons2_some, RF.finL_nil, RF.finL_cons, RF.intK_int, RF.mkA_nil, RF.mkA_ev, RF.mkS_ow, RF.mkA_lv, RF.putA_nil, RF.putA_ev, RF.putS_ow, RF.putA_lv, RF.owS_ow, RF.vaS_va, RF.tgN_eq, RF.tgO_un, RF.tgO_va, RF.tgO_ow, RF.tgT_tup, RF.tgL_nil, RF.tgL_cons, RF.forK_nx, RF.forK_ct, RF.forK_bk, RF.forK_rt, RF.asV, Option.map_some, Option.map_none, Option.bind_some, Option.bind_none, Option.some.injEq, List.getElem?_cons_zero, List.getElem?_cons_succ, List.set_cons_zero, List.set_cons_succ, List.length_cons, List.length_nil, List.cons_append, List.nil_append, List.replicate_succ, List.replicate_zero, Nat.reduceAdd, Nat.reduceSub, Nat.add_zero, Nat.zero_add, Nat.sub_self, RF.seqI, RF.seqD, RF.wipeE, RF.restE, Option.getD_some, RF.ix_lst0, RF.ix_tup0, RF.ixN_0, RF.ix_lst1, RF.ix_tup1, RF.ixN_1, RF.ix_lst2, RF.ix_tup2, RF.ixN_2, RF.ix_lst3, RF.ix_tup3, RF.ixN_3, RF.ix_lst4, RF.ix_tup4, RF.ixN_4, RF.ix_lst5, RF.ix_tup5, RF.ixN_5, RF.ix_lst6, RF.ix_tup6, RF.ixN_6, RF.ix_lst7, RF.ix_tup7, RF.ixN_7, RF.ix_lst8, RF.ix_tup8, RF.ixN_8, RF.add_int, RF.dSub, RF.dMul, RF.dFdiv, RF.dMod, RF.dPow, RF.eq_int, RF.eq_str, RF.ne_int, RF.ne_str, RF.dLt, RF.le_int, RF.gt_int, RF.ge_int, RF.dIs, RF.dLen, RF.dAbs, RF.dInt, RF.dList, RF.dTup, RF.dAll, RF.dAny, RF.dSum, RF.dMax2, RF.dMin2, RF.truthD, RF.isNon]
    exact ⟨h0, ⟨h0, h1⟩, _, _, Int.emod_nonneg _ (by omega), Int.emod_lt_of_pos _ h0, ⟨pos, buf / m, cnt + 1, hp, Int.ediv_nonneg hb (by omega), rfl⟩, rfl, rfl⟩
  · simp -dsimp -implicitDefEqProofs only [RF.w_seq, RF.w_if, RF.w_asg, RF.w_ret, RF.w_drop, RF.w_nx, RF.w_run, RF.w_C, RF.w_var, RF.w_mv, RF.w_D, RF.w_V, RF.w_ev, RF.w_lv, RF.w_op, RF.w_T, RF.w_B, RF.w_notT, RF.w_andT, RF.w_orT, RF.w_andV, RF.w_orV, RF.w_not, RF.w_neg, RF.w_CB, RF.w_pre0, RF.w_pre, RF.w_isi, RF.w_evs0, RF.w_evs, RF.w_tup, RF.w_lst, RF.w_part0, RF.w_part, RF.w_sl, RF.w_call, RF.w_call0, RF.w_app, RF.w_ext, RF.w_ins, RF.w_pop, RF.w_setI, RF.w_aug, RF.w_asgT, RF.w_for, RF.w_for0, RF.w_for1, RF.w_it, RF.w_enum, RF.w_rng1, RF.w_rng2, RF.w_lc, RF.w_lc0, RF.w_lc1, RF.w_chain, RF.w_lam, RF.w_bnd, RF.oK_some, RF.oK_none, RF.oK_ite, RF.ifK_true, RF.ifK_false, RF.ifK_not, RF.seqK_nx, RF.seqK_bk, RF.seqK_ct, RF.seqK_rt, RF.stO_un, RF.stO_va, RF.stO_ow, RF.retK_rt, RF.retK_nx, RF.back_nil, RF.back_ow, RF.back_va, RF.varK_va, RF.varK_ow, RF.toD_lst, RF.toD_dct, RF.mvK_va, RF.mvK_ow, RF.rvK_va, RF.rvK_ow, RF.rdS_va, RF.rdS_ow, RF.fin_ev, RF.fin_lv, RF.ap2_some, RF.blK_bl, RF.negD, RF.cons2_some, RF.finL_nil, RF.finL_cons, RF.intK_int, RF.mkA_nil, RF.mkA_ev, RF.mkS_ow, RF.mkA_lv, RF.putA_nil, RF.putA_ev, RF.putS_ow, RF.putA_lv, RF.owS_ow, RF.vaS_va, RF.tgN_eq, RF.tgO_un, RF.tgO_va, RF.tgO_ow, RF.tgT_tup, RF.tgL_nil, RF.tgL_cons, RF.forK_nx, RF.forK_ct, RF.forK_bk, RF.forK_rt, RF.asV, Option.map_some, Option.map_none, Option.bind_some, Option.bind_none, Option.some.injEq, List.getElem?_cons_zero, List.getElem?_cons_succ, List.set_cons_zero, List.set_cons_succ, List.length_cons, List.length_nil, List.cons_append, List.nil_append, List.replicate_succ, List.replicate_zero, Nat.reduceAdd, Nat.reduceSub, Nat.add_zero, Nat.zero_add, Nat.sub_self, RF.seqI, RF.seqD, RF.wipeE, RF.restE, Option.getD_some, RF.ix_lst0, RF.ix_tup0, RF.ixN_0, RF.ix_lst1, RF.ix_tup1, RF.ixN_1, RF.ix_lst2, RF.ix_tup2, RF.ixN_2, RF.ix_lst3, RF.ix_tup3, RF.ixN_3, RF.ix_lst4, RF.ix_tup4, RF.ixN_4, RF.ix_lst5, RF.ix_tup5, RF.ixN_5, RF.ix_lst6, RF.ix_tup6, RF.ixN_6, RF.ix_lst7, RF.ix_tup7, RF.ixN_7, RF.ix_lst8, RF.ix_tup8, RF.ixN_8, RF.add_int, RF.dSub, RF.dMul, RF.dFdiv, RF.dMod, RF.dPow, RF.eq_int, RF.eq_str, RF.ne_int, RF.ne_str, RF.dLt, RF.le_int, RF.gt_int, RF.ge_int, RF.dIs, RF.dLen, RF.dAbs, RF.dInt, RF.dList, RF.dTup, RF.dAll, RF.dAny, RF.dSum, RF.dMax2, RF.dMin2, RF.truthD, RF.isNon]
    rw [ifK_dec]
    refine ⟨fun c1 => ?_, fun c1 => ?_⟩
    · simp -dsimp -implicitDefEqProofs only [RF.w_seq, RF.w_if, RF.w_asg, RF.w_ret, RF.w_drop, RF.w_nx, RF.w_run, RF.w_C, RF.w_var, RF.w_mv, RF.w_D, RF.w_V, RF.w_ev, RF.w_lv, RF.w_op, RF.w_T, RF.w_B, RF.w_notT, RF.w_andT, RF.w_orT, RF.w_andV, RF.w_orV, RF.w_not, RF.w_neg, RF.w_CB, RF.w_pre0, RF.w_pre, RF.w_isi, RF.w_evs0, RF.w_evs, RF.w_tup, RF.w_lst, RF.w_part0, RF.w_part, RF.w_sl, RF.w_call, RF.w_call0, RF.w_app, RF.w_ext, RF.w_ins, RF.w_pop, RF.w_setI, RF.w_aug, RF.w_asgT, RF.w_for, RF.w_for0, RF.w_for1, RF.w_it, RF.w_enum, RF.w_rng1, RF.w_rng2, RF.w_lc, RF.w_lc0, RF.w_lc1, RF.w_chain, RF.w_lam, RF.w_bnd, RF.oK_some, RF.oK_none, RF.oK_ite, RF.ifK_true, RF.ifK_false, RF.ifK_not, RF.seqK_nx, RF.seqK_bk, RF.seqK_ct, RF.seqK_rt, RF.stO_un, RF.stO_va, RF.stO_ow, RF.retK_rt, RF.retK_nx, RF.back_nil, RF.back_ow, RF.back_va, RF.varK_va, RF.varK_ow, RF.toD_lst, RF.toD_dct, RF.mvK_va, RF.mvK_ow, RF.rvK_va, RF.rvK_ow, RF.rdS_va, RF.rdS_ow, RF.fin_ev, RF.fin_lv, RF.ap2_some, RF.blK_bl, RF.negD, RF.cons2_some, RF.finL_nil, RF.finL_cons, RF.intK_int, RF.mkA_nil, RF.mkA_ev, RF.mkS_ow, RF.mkA_lv, RF.putA_nil, RF.putA_ev, RF.putS_ow, RF.putA_lv, RF.owS_ow, RF.vaS_va, RF.tgN_eq, RF.tgO_un, RF.tgO_va, RF.tgO_ow, RF.tgT_tup, RF.tgL_nil, RF.tgL_cons, RF.forK_nx, RF.forK_ct, RF.forK_bk, RF.forK_rt, RF.asV, Option.map_some, Option.map_none, Option.bind_some, Option.bind_none, Option.some.injEq, List.getElem?_cons_zero, List.getElem?_cons_succ, List.set_cons_zero, List.set_cons_succ, List.length_cons, List.length_nil, List.cons_append, List.nil_append, List.replicate_succ, List.replicate_zero, Nat.reduceAdd, Nat.reduceSub, Nat.add_zero, Nat.zero_add, Nat.sub_self, RF.seqI, RF.seqD, RF.wipeE, RF.restE, Option.getD_some, RF.ix_lst0, RF.ix_tup0, RF.ixN_0, RF.ix_lst1, RF.ix_tup1, RF.ixN_1, RF.ix_lst2, RF.ix_tup2, RF.ixN_2, RF.ix_lst3, RF.ix_tup3, RF.ixN_3, RF.ix_lst4, RF.ix_tup4, RF.ixN_4, RF.ix_lst5, RF.ix_tup5, RF.ixN_5, RF.ix_lst6, RF.ix_tup6, RF.ixN_6, RF.ix_lst7, RF.ix_tup7, RF.ixN_7, RF.ix_lst8, RF.ix_tup8, RF.ixN_8, RF.add_int, RF.dSub, RF.dMul, RF.dFdiv, RF.dMod, RF.dPow, RF.eq_int, RF.eq_str, RF.ne_int, RF.ne_str, RF.dLt, RF.le_int, RF.gt_int, RF.ge_int, RF.dIs, RF.dLen, RF.dAbs, RF.dInt, RF.dList, RF.dTup, RF.dAll, RF.dAny, RF.dSum, RF.dMax2, RF.dMin2, RF.truthD, RF.isNon]
      rw [List.length_map] at c1 ⊢
      obtain ⟨k, hk, e⟩ : ∃ k : Nat, k < ns.length ∧ pos % (ns.length : Int) = (k : Int) := by
        have a := Int.emod_lt_of_pos pos c1
        have b := Int.emod_nonneg pos (show (ns.length : Int) ≠ 0 by omega)
        exact ⟨(pos % (ns.length : Int)).toNat, by omega, by omega⟩
      have e2 : dIx (.lst (ns.map D.int)) (.int (pos % (ns.length : Int))) = some (.va (.int ns[k])) := by
        rw [e]
        simp only [dIx]
        rw [atI_nat (by rw [List.length_map]; exact hk), List.getElem_map]
        rfl
      refine ⟨c1, ?_⟩
      rw [e2]
      simp -dsimp -implicitDefEqProofs only [RF.w_seq, RF.w_if, RF.w_asg, RF.w_ret, RF.w_drop, RF.w_nx, RF.w_run, RF.w_C, RF.w_var, RF.w_mv, RF.w_D, RF.w_V, RF.w_ev, RF.w_lv, RF.w_op, RF.w_T, RF.w_B, RF.w_notT, RF.w_andT, RF.w_orT, RF.w_andV, RF.w_orV, RF.w_not, RF.w_neg, RF.w_CB, RF.w_pre0, RF.w_pre, RF.w_isi, RF.w_evs0, RF.w_evs, RF.w_tup, RF.w_lst, RF.w_part0, RF.w_part, RF.w_sl, RF.w_call, RF.w_call0, RF.w_app, RF.w_ext, RF.w_ins, RF.w_pop, RF.w_setI, RF.w_aug, RF.w_asgT, RF.w_for, RF.w_for0, RF.w_for1, RF.w_it, RF.w_enum, RF.w_rng1, RF.w_rng2, RF.w_lc, RF.w_lc0, RF.w_lc1, RF.w_chain, RF.w_lam, RF.w_bnd, RF.oK_some, RF.oK_none, RF.oK_ite, RF.ifK_true, RF.ifK_false, RF.ifK_not, RF.seqK_nx, RF.seqK_bk, RF.seqK_ct, RF.seqK_rt, RF.stO_un, RF.stO_va, RF.stO_ow, RF.retK_rt, RF.retK_nx, RF.back_nil, RF.back_ow, RF.back_va, RF.varK_va, RF.varK_ow, RF.toD_lst, RF.toD_dct, RF.mvK_va, RF.mvK_ow, RF.rvK_va, RF.rvK_ow, RF.rdS_va, RF.rdS_ow, RF.fin_ev, RF.fin_lv, RF.ap2_some, RF.blK_bl, RF.negD, RF.cons2_some, RF.finL_nil, RF.finL_cons, RF.intK_int, RF.mkA_nil, RF.mkA_ev, RF.mkS_ow, RF.mkA_lv, RF.putA_nil, RF.putA_ev, RF.putS_ow, RF.putA_lv, RF.owS_ow, RF.vaS_va, RF.tgN_eq, RF.tgO_un, RF.tgO_va, RF.tgO_ow, RF.tgT_tup, RF.tgL_nil, RF.tgL_cons, RF.forK_nx, RF.forK_ct, RF.forK_bk, RF.forK_rt, RF.asV, Option.map_some, Option.map_none, Option.bind_some, Option.bind_none, Option.some.injEq, List.getElem?_cons_zero, List.getElem?_cons_succ, List.set_cons_zero, List.set_cons_succ, List.length_cons, List.length_nil, List.cons_append, List.nil_append, List.replicate_succ, List.replicate_zero, Nat.reduceAdd, Nat.reduceSub, Nat.add_zero, Nat.zero_add, Nat.sub_self, RF.seqI, RF.seqD, RF.wipeE, RF.restE, Option.getD_some, RF.ix_lst0, RF.ix_tup0, RF.ixN_0, RF.ix_lst1, RF.ix_tup1, RF.ixN_1, RF.ix_lst2, RF.ix_tup2, RF.ixN_2, RF.ix_lst3, RF.ix_tup3, RF.ixN_3, RF.ix_lst4, RF.ix_tup4, RF.ixN_4, RF.ix_lst5, RF.ix_tup5, RF.ixN_5, RF.ix_lst6, RF.ix_tup6, RF.ixN_6, RF.ix_lst7, RF.ix_tup7, RF.ixN_7, RF.ix_lst8, RF.ix_tup8, RF.ixN_8, RF.add_int, RF.dSub, RF.dMul, RF.dFdiv, RF.dMod, RF.dPow, RF.eq_int, RF.eq_str, RF.ne_int, RF.ne_str, RF.dLt, RF.le_int, RF.gt_int, RF.ge_int, RF.dIs, RF.dLen, RF.dAbs, RF.dInt, RF.dList, RF.dTup, RF.dAll, RF.dAny, RF.dSum, RF.dMax2, RF.dMin2, RF.truthD, RF.isNon]
      refine draw_end (by omega) hb ?_ h0 h1
      split <;> omega
    · simp -dsimp -implicitDefEqProofs only [RF.w_seq, RF.w_if, RF.w_asg, RF.w_ret, RF.w_drop, RF.w_nx, RF.w_run, RF.w_C, RF.w_var, RF.w_mv, RF.w_D, RF.w_V, RF.w_ev, RF.w_lv, RF.w_op, RF.w_T, RF.w_B, RF.w_notT, RF.w_andT, RF.w_orT, RF.w_andV, RF.w_orV, RF.w_not, RF.w_neg, RF.w_CB, RF.w_pre0, RF.w_pre, RF.w_isi, RF.w_evs0, RF.w_evs, RF.w_tup, RF.w_lst, RF.w_part0, RF.w_part, RF.w_sl, RF.w_call, RF.w_call0, RF.w_app, RF.w_ext, RF.w_ins, RF.w_pop, RF.w_setI, RF.w_aug, RF.w_asgT, RF.w_for, RF.w_for0, RF.w_for1, RF.w_it, RF.w_enum, RF.w_rng1, RF.w_rng2, RF.w_lc, RF.w_lc0, RF.w_lc1, RF.w_chain, RF.w_lam, RF.w_bnd, RF.oK_some, RF.oK_none, RF.oK_ite, RF.ifK_true, RF.ifK_false, RF.ifK_not, RF.seqK_nx, RF.seqK_bk, RF.seqK_ct, RF.seqK_rt, RF.stO_un, RF.stO_va, RF.stO_ow, RF.retK_rt, RF.retK_nx, RF.back_nil, RF.back_ow, RF.back_va, RF.varK_va, RF.varK_ow, RF.toD_lst, RF.toD_dct, RF.mvK_va, RF.mvK_ow, RF.rvK_va, RF.rvK_ow, RF.rdS_va, RF.rdS_ow, RF.fin_ev, RF.fin_lv, RF.ap2_some, RF.blK_bl, RF.negD, RF.cons2_some, RF.finL_nil, RF.finL_cons, RF.intK_int, RF.mkA_nil, RF.mkA_ev, RF.mkS_ow, RF.mkA_lv, RF.putA_nil, RF.putA_ev, RF.putS_ow, RF.putA_lv, RF.owS_ow, RF.vaS_va, RF.tgN_eq, RF.tgO_un, RF.tgO_va, RF.tgO_ow, RF.tgT_tup, RF.tgL_nil, RF.tgL_cons, RF.forK_nx, RF.forK_ct, RF.forK_bk, RF.forK_rt, RF.asV, Option.map_some, Option.map_none, Option.bind_some, Option.bind_none, Option.some.injEq, List.getElem?_cons_zero, List.getElem?_cons_succ, List.set_cons_zero, List.set_cons_succ, List.length_cons, List.length_nil, List.cons_append, List.nil_append, List.replicate_succ, List.replicate_zero, Nat.reduceAdd, Nat.reduceSub, Nat.add_zero, Nat.zero_add, Nat.sub_self, RF.seqI, RF.seqD, RF.wipeE, RF.restE, Option.getD_some, RF.ix_lst0, RF.ix_tup0, RF.ixN_0, RF.ix_lst1, RF.ix_tup1, RF.ixN_1, RF.ix_lst2, RF.ix_tup2, RF.ixN_2, RF.ix_lst3, RF.ix_tup3, RF.ixN_3, RF.ix_lst4, RF.ix_tup4, RF.ixN_4, RF.ix_lst5, RF.ix_tup5, RF.ixN_5, RF.ix_lst6, RF.ix_tup6, RF.ixN_6, RF.ix_lst7, RF.ix_tup7, RF.ixN_7, RF.ix_lst8, RF.ix_tup8, RF.ixN_8, RF.add_int, RF.dSub, RF.dMul, RF.dFdiv, RF.dMod, RF.dPow, RF.eq_int, RF.eq_str, RF.ne_int, RF.ne_str, RF.dLt, RF.le_int, RF.gt_int, RF.ge_int, RF.dIs, RF.dLen, RF.dAbs, RF.dInt, RF.dList, RF.dTup, RF.dAll, RF.dAny, RF.dSum, RF.dMax2, RF.dMin2, RF.truthD, RF.isNon]
      exact draw_end (by omega) hb (by omega) h0 h1
def startF : M RV := runF 1 (cRet (cLst [(cD (cCB dList [(.lv 0)])), (cD (cC (.int 0))), (cD (cC (.int 0))), (cD (cC (.int 0)))]))
theorem start_spec {ns : List Int} {E : Exc → Env → Prop} : wp startF [.va (.rls (ns.map D.int))] (fun rv as => ∃ o, rv = .ow o ∧ as = [.va (.rls (ns.map D.int))] ∧ DrS ns o) E := by
  unfold startF
  simp -dsimp -implicitDefEqProofs only [RF.w_seq, RF.w_if, RF.w_asg, RF.w_ret, RF.w_drop, RF.w_nx, RF.w_run, RF.w_C, RF.w_var, RF.w_mv, RF.w_D, RF.w_V, RF.w_ev, RF.w_lv, RF.w_op, RF.w_T, RF.w_B, RF.w_notT, RF.w_andT, RF.w_orT, RF.w_andV, RF.w_orV, RF.w_not, RF.w_neg, RF.w_CB, RF.w_pre0, RF.w_pre, RF.w_isi, RF.w_evs0, RF.w_evs, RF.w_tup, RF.w_lst, RF.w_part0, RF.w_part, RF.w_sl, RF.w_call, RF.w_call0, RF.w_app, RF.w_ext, RF.w_ins, RF.w_pop, RF.w_setI, RF.w_aug, RF.w_asgT, RF.w_for, RF.w_for0, RF.w_for1, RF.w_it, RF.w_enum, RF.w_rng1, RF.w_rng2, RF.w_lc, RF.w_lc0, RF.w_lc1, RF.w_chain, RF.w_lam, RF.w_bnd, RF.oK_some, RF.oK_none, RF.oK_ite, RF.ifK_true, RF.ifK_false, RF.ifK_not, RF.seqK_nx, RF.seqK_bk, RF.seqK_ct, RF.seqK_rt, RF.stO_un, RF.stO_va, RF.stO_ow, RF.retK_rt, RF.retK_nx, RF.back_nil, RF.back_ow, RF.back_va, RF.varK_va, RF.varK_ow, RF.toD_lst, RF.toD_dct, RF.mvK_va, RF.mvK_ow, RF.rvK_va, RF.rvK_ow, RF.rdS_va, RF.rdS_ow, RF.fin_ev, RF.fin_lv, RF.ap2_some, RF.blK_bl, RF.negD, RF.cons2_some, RF.finL_nil, RF.finL_cons, RF.intK_int, RF.mkA_nil, RF.mkA_ev, RF.mkS_ow, RF.mkA_lv, RF.putA_nil, RF.putA_ev, RF.putS_ow, RF.putA_lv, RF.owS_ow, RF.vaS_va, RF.tgN_eq, RF.tgO_un, RF.tgO_va, RF.tgO_ow, RF.tgT_tup, RF.tgL_nil, RF.tgL_cons, RF.forK_nx, RF.forK_ct, RF.forK_bk, RF.forK_rt, RF.asV, Option.map_some, Option.map_none, Option.bind_some, Option.bind_none, Option.some.injEq, List.getElem?_cons_zero, List.getElem?_cons_succ, List.set_cons_zero, List.set_cons_succ, List.length_cons, List.length_nil, List.cons_append, List.nil_append, List.replicate_succ, List.replicate_zero, Nat.reduceAdd, Nat.reduceSub, Nat.add_zero, Nat.zero_add, Nat.sub_self, RF.seqI, RF.seqD, RF.wipeE, RF.restE, Option.getD_some, RF.ix_lst0, RF.ix_tup0, RF.ixN_0, RF.ix_lst1, RF.ix_tup1, RF.ixN_1, RF.ix_lst2, RF.ix_tup2, RF.ixN_2, RF.ix_lst3, RF.ix_tup3, RF.ixN_3, RF.ix_lst4, RF.ix_tup4, RF.ixN_4, RF.ix_lst5, RF.ix_tup5, RF.ixN_5, RF.ix_lst6, RF.ix_tup6, RF.ixN_6, RF.ix_lst7, RF.ix_tup7, RF.ixN_7, RF.ix_lst8, RF.ix_tup8, RF.ixN_8, RF.add_int, RF.dSub, RF.dMul, RF.dFdiv, RF.dMod, RF.dPow, RF.eq_int, RF.eq_str, RF.ne_int, RF.ne_str, RF.dLt, RF.le_int, RF.gt_int, RF.ge_int, RF.dIs, RF.dLen, RF.dAbs, RF.dInt, RF.dList, RF.dTup, RF.dAll, RF.dAny, RF.dSum, RF.dMax2, RF.dMin2, RF.truthD, RF.isNon]
  exact ⟨_, rfl, by trivial, 0, 0, 0, by omega, by omega, rfl⟩
def oneF : M RV := runF 2 (cRet (cOp dIx (.lv 1) (.ev (cD (cCall drawF [(.lv 0), (.ev (cD (cCB dLen [(.lv 1)])))])))))
def OneQ (ns : List Int) (ds : List D) (x : D) (rv : RV) (as : Env) : Prop := ∃ (i : Nat) (h : i < ds.length) (o' : Ob), DrS ns o' ∧ rv = .va ds[i] ∧ as = [.ow true o', .va x]
theorem one_lst {ns : List Int} {o : Ob} {ds : List D} (h : DrS ns o) (h0 : 0 < ds.length) (h1 : ds.length ≤ 2 ^ 24) : wp oneF [.ow true o, .va (.lst ds)] (OneQ ns ds (.lst ds)) fun _ _ => False := by
  unfold oneF
  simp -dsimp -implicitDefEqProofs only [RF.w_seq, RF.w_if, RF.w_asg, RF.w_ret, RF.w_drop, RF.w_nx, RF.w_run, RF.w_C, RF.w_var, RF.w_mv, RF.w_D, RF.w_V, RF.w_ev, RF.w_lv, RF.w_op, RF.w_T, RF.w_B, RF.w_notT, RF.w_andT, RF.w_orT, RF.w_andV, RF.w_orV, RF.w_not, RF.w_neg, RF.w_CB, RF.w_pre0, RF.w_pre, RF.w_isi, RF.w_evs0, RF.w_evs, RF.w_tup, RF.w_lst, RF.w_part0, RF.w_part, RF.w_sl, RF.w_call, RF.w_call0, RF.w_app, RF.w_ext, RF.w_ins, RF.w_pop, RF.w_setI, RF.w_aug, RF.w_asgT, RF.w_for, RF.w_for0, RF.w_for1, RF.w_it, RF.w_enum, RF.w_rng1, RF.w_rng2, RF.w_lc, RF.w_lc0, RF.w_lc1, RF.w_chain, RF.w_lam, RF.w_bnd, RF.oK_some, RF.oK_none, RF.oK_ite, RF.ifK_true, RF.ifK_false, RF.ifK_not, RF.seqK_nx, RF.seqK_bk, RF.seqK_ct, RF.seqK_rt, RF.stO_un, RF.stO_va, RF.stO_ow, RF.retK_rt, RF.retK_nx, RF.back_nil, RF.back_ow, RF.back_va, RF.varK_va, RF.varK_ow, RF.toD_lst, RF.toD_dct, RF.mvK_va, RF.mvK_ow, RF.rvK_va, RF.rvK_ow, RF.rdS_va, RF.rdS_ow, RF.fin_ev, RF.fin_lv, RF.ap2_some, RF.blK_bl, RF.negD, RF.cons2_some, RF.finL_nil, RF.finL_cons, RF.intK_int, RF.mkA_nil, RF.mkA_ev, RF.mkS_ow, RF.mkA_lv, RF.putA_nil, RF.putA_ev, RF.putS_ow, RF.putA_lv, RF.owS_ow, RF.vaS_va, RF.tgN_eq, RF.tgO_un, RF.tgO_va, RF.tgO_ow, RF.tgT_tup, RF.tgL_nil, RF.tgL_cons, RF.forK_nx, RF.forK_ct, RF.forK_bk, RF.forK_rt, RF.asV, Option.map_some, Option.map_none, Option.bind_some, Option.bind_none, Option.some.injEq, List.getElem?_cons_zero, List.getElem?_cons_succ, List.set_cons_zero, List.set_cons_succ, List.length_cons, List.length_nil, List.cons_append, List.nil_append, List.replicate_succ, List.replicate_zero, Nat.reduceAdd, Nat.reduceSub, Nat.add_zero, Nat.zero_add, Nat.sub_self, RF.seqI, RF.seqD, RF.wipeE, RF.restE, Option.getD_some, RF.ix_lst0, RF.ix_tup0, RF.ixN_0, RF.ix_lst1, RF.ix_tup1, RF.ixN_1, RF.ix_lst2, RF.ix_tup2, RF.ixN_2, RF.ix_lst3, RF.ix_tup3, RF.ixN_3, RF.ix_lst4, RF.ix_tup4, RF.ixN_4, RF.ix_lst5, RF.ix_tup5, RF.ixN_5, RF.ix_lst6, RF.ix_tup6, RF.ixN_6, RF.ix_lst7, RF.ix_tup7, RF.ixN_7, RF.ix_lst8, RF.ix_tup8, RF.ixN_8, RF.add_int, RF.dSub, RF.dMul, RF.dFdiv, RF.dMod, RF.dPow, RF.eq_int, RF.eq_str, RF.ne_int, RF.ne_str, RF.dLt, RF.le_int, RF.gt_int, RF.ge_int, RF.dIs, RF.dLen, RF.dAbs, RF.dInt, RF.dList, RF.dTup, RF.dAll, RF.dAny, RF.dSum, RF.dMax2, RF.dMin2, RF.truthD, RF.isNon]
  have h' := h
  obtain ⟨pos, buf, cnt, hp, hb, rfl⟩ := h'
  simp -dsimp -implicitDefEqProofs only [RF.w_seq, RF.w_if, RF.w_asg, RF.w_ret, RF.w_drop, RF.w_nx, RF.w_run, RF.w_C, RF.w_var, RF.w_mv, RF.w_D, RF.w_V, RF.w_ev, RF.w_lv, RF.w_op, RF.w_T, RF.w_B, RF.w_notT, RF.w_andT, RF.w_orT, RF.w_andV, RF.w_orV, RF.w_not, RF.w_neg, RF.w_CB, RF.w_pre0, RF.w_pre, RF.w_isi, RF.w_evs0, RF.w_evs, RF.w_tup, RF.w_lst, RF.w_part0, RF.w_part, RF.w_sl, RF.w_call, RF.w_call0, RF.w_app, RF.w_ext, RF.w_ins, RF.w_pop, RF.w_setI, RF.w_aug, RF.w_asgT, RF.w_for, RF.w_for0, RF.w_for1, RF.w_it, RF.w_enum, RF.w_rng1, RF.w_rng2, RF.w_lc, RF.w_lc0, RF.w_lc1, RF.w_chain, RF.w_lam, RF.w_bnd, RF.oK_some, RF.oK_none, RF.oK_ite, RF.ifK_true, RF.ifK_false, RF.ifK_not, RF.seqK_nx, RF.seqK_bk, RF.seqK_ct, RF.seqK_rt, RF.stO_un, RF.stO_va, RF.stO_ow, RF.retK_rt, RF.retK_nx, RF.back_nil, RF.back_ow, RF.back_va, RF.varK_va, RF.varK_ow, RF.toD_lst, RF.toD_dct, RF.mvK_va, RF.mvK_ow, RF.rvK_va, RF.rvK_ow, RF.rdS_va, RF.rdS_ow, RF.fin_ev, RF.fin_lv, RF.ap2_some, RF.blK_bl, RF.negD, RF.cons2_some, RF.finL_nil, RF.finL_cons, RF.intK_int, RF.mkA_nil, RF.mkA_ev, RF.mkS_ow, RF.mkA_lv, RF.putA_nil, RF.putA_ev, RF.putS_ow, RF.putA_lv, RF.owS_ow, RF.vaS_va, RF.tgN_eq, RF.tgO_un, RF.tgO_va, RF.tgO_ow, RF.tgT_tup, RF.tgL_nil, RF.tgL_cons, RF.forK_nx, RF.forK_ct, RF.forK_bk, RF.forK_rt, RF.asV, Option.map_some, Option.map_none, Option.bind_some, Option.bind_none, Option.some.injEq, List.getElem?_cons_zero, List.getElem?_cons_succ, List.set_cons_zero, List.set_cons_succ, List.length_cons, List.length_nil, List.cons_append, List.nil_append, List.replicate_succ, List.replicate_zero, Nat.reduceAdd, Nat.reduceSub, Nat.add_zero, Nat.zero_add, Nat.sub_self, RF.seqI, RF.seqD, RF.wipeE, RF.restE, Option.getD_some, RF.ix_lst0, RF.ix_tup0, RF.ixN_0, RF.ix_lst1, RF.ix_tup1, RF.ixN_1, RF.ix_lst2, RF.ix_tup2, RF.ixN_2, RF.ix_lst3, RF.ix_tup3, RF.ixN_3, RF.ix_lst4, RF.ix_tup4, RF.ixN_4, RF.ix_lst5, RF.ix_tup5, RF.ixN_5, RF.ix_lst6, RF.ix_tup6, RF.ixN_6, RF.ix_lst7, RF.ix_tup7, RF.ixN_7, RF.ix_lst8, RF.ix_tup8, RF.ixN_8, RF.add_int, RF.dSub, RF.dMul, RF.dFdiv, RF.dMod, RF.dPow, RF.eq_int, RF.eq_str, RF.ne_int, RF.ne_str, RF.dLt, RF.le_int, RF.gt_int, RF.ge_int, RF.dIs, RF.dLen, RF.dAbs, RF.dInt, RF.dList, RF.dTup, RF.dAll, RF.dAny, RF.dSum, RF.dMax2, RF.dMin2, RF.truthD, RF.isNon]
  refine wp_use (draw_spec h (by omega) (by omega)) ?_
  rintro _ _ ⟨r, o', r0, r1, h', rfl, rfl⟩
  obtain ⟨pos, buf, cnt, hp, hb, rfl⟩ := id h'
  obtain ⟨k, rfl⟩ : ∃ k : Nat, r = (k : Int) := ⟨r.toNat, by omega⟩
  simp -dsimp -implicitDefEqProofs only [RF.w_seq, RF.w_if, RF.w_asg, RF.w_ret, RF.w_drop, RF.w_nx, RF.w_run, RF.w_C, RF.w_var, RF.w_mv, RF.w_D, RF.w_V, RF.w_ev, RF.w_lv, RF.w_op, RF.w_T, RF.w_B, RF.w_notT, RF.w_andT, RF.w_orT, RF.w_andV, RF.w_orV, RF.w_not, RF.w_neg, RF.w_CB, RF.w_pre0, RF.w_pre, RF.w_isi, RF.w_evs0, RF.w_evs, RF.w_tup, RF.w_lst, RF.w_part0, RF.w_part, RF.w_sl, RF.w_call, RF.w_call0, RF.w_app, RF.w_ext, RF.w_ins, RF.w_pop, RF.w_setI, RF.w_aug, RF.w_asgT, RF.w_for, RF.w_for0, RF.w_for1, RF.w_it, RF.w_enum, RF.w_rng1, RF.w_rng2, RF.w_lc, RF.w_lc0, RF.w_lc1, RF.w_chain, RF.w_lam, RF.w_bnd, RF.oK_some, RF.oK_none, RF.oK_ite, RF.ifK_true, RF.ifK_false, RF.ifK_not, RF.seqK_nx, RF.seqK_bk, RF.seqK_ct, RF.seqK_rt, RF.stO_un, RF.stO_va, RF.stO_ow, RF.retK_rt, RF.retK_nx, RF.back_nil, RF.back_ow, RF.back_va, RF.varK_va, RF.varK_ow, RF.toD_lst, RF.toD_dct, RF.mvK_va, RF.mvK_ow, RF.rvK_va, RF.rvK_ow, RF.rdS_va, RF.rdS_ow, RF.fin_ev, RF.fin_lv, RF.ap2_some, RF.blK_bl, RF.negD, RF.cons2_some, RF.finL_nil, RF.finL_cons, RF.intK_int, RF.mkA_nil, RF.mkA_ev, RF.mkS_ow, RF.mkA_lv, RF.putA_nil, RF.putA_ev, RF.putS_ow, RF.putA_lv, RF.owS_ow, RF.vaS_va, RF.tgN_eq, RF.tgO_un, RF.tgO_va, RF.tgO_ow, RF.tgT_tup, RF.tgL_nil, RF.tgL_cons, RF.forK_nx, RF.forK_ct, RF.forK_bk, RF.forK_rt, RF.asV, Option.map_some, Option.map_none, Option.bind_some, Option.bind_none, Option.some.injEq, List.getElem?_cons_zero, List.getElem?_cons_succ, List.set_cons_zero, List.set_cons_succ, List.length_cons, List.length_nil, List.cons_append, List.nil_append, List.replicate_succ, List.replicate_zero, Nat.reduceAdd, Nat.reduceSub, Nat.add_zero, Nat.zero_add, Nat.sub_self, RF.seqI, RF.seqD, RF.wipeE, RF.restE, Option.getD_some, RF.ix_lst0, RF.ix_tup0, RF.ixN_0, RF.ix_lst1, RF.ix_tup1, RF.ixN_1, RF.ix_lst2, RF.ix_tup2, RF.ixN_2, RF.ix_lst3, RF.ix_tup3, RF.ixN_3, RF.ix_lst4, RF.ix_tup4, RF.ixN_4, RF.ix_lst5, RF.ix_tup5, RF.ixN_5, RF.ix_lst6, RF.ix_tup6, RF.ixN_6, RF.ix_lst7, RF.ix_tup7, RF.ixN_7, RF.ix_lst8, RF.ix_tup8, RF.ixN_8, RF.add_int, RF.dSub, RF.dMul, RF.dFdiv, RF.dMod, RF.dPow, RF.eq_int, RF.eq_str, RF.ne_int, RF.ne_str, RF.dLt, RF.le_int, RF.gt_int, RF.ge_int, RF.dIs, RF.dLen, RF.dAbs, RF.dInt, RF.dList, RF.dTup, RF.dAll, RF.dAny, RF.dSum, RF.dMax2, RF.dMin2, RF.truthD, RF.isNon, dIx]
  rw [atI_nat (by omega)]
  exact ⟨k, by omega, _, h', rfl, rfl⟩
theorem one_tup {ns : List Int} {o : Ob} {ds : List D} (h : DrS ns o) (h0 : 0 < ds.length) (h1 : ds.length ≤ 2 ^ 24) : wp oneF [.ow true o, .va (.tup ds)] (OneQ ns ds (.tup ds)) fun _ _ => False := by
  unfold oneF
  simp -dsimp -implicitDefEqProofs only [RF.w_seq, RF.w_if, RF.w_asg, RF.w_ret, RF.w_drop, RF.w_nx, RF.w_run, RF.w_C, RF.w_var, RF.w_mv, RF.w_D, RF.w_V, RF.w_ev, RF.w_lv, RF.w_op, RF.w_T, RF.w_B, RF.w_notT, RF.w_andT, RF.w_orT, RF.w_andV, RF.w_orV, RF.w_not, RF.w_neg, RF.w_CB, RF.w_pre0, RF.w_pre, RF.w_isi, RF.w_evs0, RF.w_evs, RF.w_tup, RF.w_lst, RF.w_part0, RF.w_part, RF.w_sl, RF.w_call, RF.w_call0, RF.w_app, RF.w_ext, RF.w_ins, RF.w_pop, RF.w_setI, RF.w_aug, RF.w_asgT, RF.w_for, RF.w_for0, RF.w_for1, RF.w_it, RF.w_enum, RF.w_rng1, RF.w_rng2, RF.w_lc, RF.w_lc0, RF.w_lc1, RF.w_chain, RF.w_lam, RF.w_bnd, RF.oK_some, RF.oK_none, RF.oK_ite, RF.ifK_true, RF.ifK_false, RF.ifK_not, RF.seqK_nx, RF.seqK_bk, RF.seqK_ct, RF.seqK_rt, RF.stO_un, RF.stO_va, RF.stO_ow, RF.retK_rt, RF.retK_nx, RF.back_nil, RF.back_ow, RF.back_va, RF.varK_va, RF.varK_ow, RF.toD_lst, RF.toD_dct, RF.mvK_va, RF.mvK_ow, RF.rvK_va, RF.rvK_ow, RF.rdS_va, RF.rdS_ow, RF.fin_ev, RF.fin_lv, RF.ap2_some, RF.blK_bl, RF.negD, RF.cons2_some, RF.finL_nil, RF.finL_cons, RF.intK_int, RF.mkA_nil, RF.mkA_ev, RF.mkS_ow, RF.mkA_lv, RF.putA_nil, RF.putA_ev, RF.putS_ow, RF.putA_lv, RF.owS_ow, RF.vaS_va, RF.tgN_eq, RF.tgO_un, RF.tgO_va, RF.tgO_ow, RF.tgT_tup, RF.tgL_nil, RF.tgL_cons, RF.forK_nx, RF.forK_ct, RF.forK_bk, RF.forK_rt, RF.asV, Option.map_some, Option.map_none, Option.bind_some, Option.bind_none, Option.some.injEq, List.getElem?_cons_zero, List.getElem?_cons_succ, List.set_cons_zero, List.set_cons_succ, List.length_cons, List.length_nil, List.cons_append, List.nil_append, List.replicate_succ, List.replicate_zero, Nat.reduceAdd, Nat.reduceSub, Nat.add_zero, Nat.zero_add, Nat.sub_self, RF.seqI, RF.seqD, RF.wipeE, RF.restE, Option.getD_some, RF.ix_lst0, RF.ix_tup0, RF.ixN_0, RF.ix_lst1, RF.ix_tup1, RF.ixN_1, RF.ix_lst2, RF.ix_tup2, RF.ixN_2, RF.ix_lst3, RF.ix_tup3, RF.ixN_3, RF.ix_lst4, RF.ix_tup4, RF.ixN_4, RF.ix_lst5, RF.ix_tup5, RF.ixN_5, RF.ix_lst6, RF.ix_tup6, RF.ixN_6, RF.ix_lst7, RF.ix_tup7, RF.ixN_7, RF.ix_lst8, RF.ix_tup8, RF.ixN_8, RF.add_int, RF.dSub, RF.dMul, RF.dFdiv, RF.dMod, RF.dPow, RF.eq_int, RF.eq_str, RF.ne_int, RF.ne_str, RF.dLt, RF.le_int, RF.gt_int, RF.ge_int, RF.dIs, RF.dLen, RF.dAbs, RF.dInt, RF.dList, RF.dTup, RF.dAll, RF.dAny, RF.dSum, RF.dMax2, RF.dMin2, RF.truthD, RF.isNon]
  have h' := h
  obtain ⟨pos, buf, cnt, hp, hb, rfl⟩ := h'
  simp -dsimp -implicitDefEqProofs only [RF.w_seq, RF.w_if, RF.w_asg, RF.w_ret, RF.w_drop, RF.w_nx, RF.w_run, RF.w_C, RF.w_var, RF.w_mv, RF.w_D, RF.w_V, RF.w_ev, RF.w_lv, RF.w_op, RF.w_T, RF.w_B, RF.w_notT, RF.w_andT, RF.w_orT, RF.w_andV, RF.w_orV, RF.w_not, RF.w_neg, RF.w_CB, RF.w_pre0, RF.w_pre, RF.w_isi, RF.w_evs0, RF.w_evs, RF.w_tup, RF.w_lst, RF.w_part0, RF.w_part, RF.w_sl, RF.w_call, RF.w_call0, RF.w_app, RF.w_ext, RF.w_ins, RF.w_pop, RF.w_setI, RF.w_aug, RF.w_asgT, RF.w_for, RF.w_for0, RF.w_for1, RF.w_it, RF.w_enum, RF.w_rng1, RF.w_rng2, RF.w_lc, RF.w_lc0, RF.w_lc1, RF.w_chain, RF.w_lam, RF.w_bnd, RF.oK_some, RF.oK_none, RF.oK_ite, RF.ifK_true, RF.ifK_false, RF.ifK_not, RF.seqK_nx, RF.seqK_bk, RF.seqK_ct, RF.seqK_rt, RF.stO_un, RF.stO_va, RF.stO_ow, RF.retK_rt, RF.retK_nx, RF.back_nil, RF.back_ow, RF.back_va, RF.varK_va, RF.varK_ow, RF.toD_lst, RF.toD_dct, RF.mvK_va, RF.mvK_ow, RF.rvK_va, RF.rvK_ow, RF.rdS_va, RF.rdS_ow, RF.fin_ev, RF.fin_lv, RF.ap2_some, RF.blK_bl, RF.negD, RF.cons2_some, RF.finL_nil, RF.finL_cons, RF.intK_int, RF.mkA_nil, RF.mkA_ev, RF.mkS_ow, RF.mkA_lv, RF.putA_nil, RF.putA_ev, RF.putS_ow, RF.putA_lv, RF.owS_ow, RF.vaS_va, RF.tgN_eq, RF.tgO_un, RF.tgO_va, RF.tgO_ow, RF.tgT_tup, RF.tgL_nil, RF.tgL_cons, RF.forK_nx, RF.forK_ct, RF.forK_bk, RF.forK_rt, RF.asV, Option.map_some, Option.map_none, Option.bind_some, Option.bind_none, Option.some.injEq, List.getElem?_cons_zero, List.getElem?_cons_succ, List.set_cons_zero, List.set_cons_succ, List.length_cons, List.length_nil, List.cons_append, List.nil_append, List.replicate_succ, List.replicate_zero, Nat.reduceAdd, Nat.reduceSub, Nat.add_zero, Nat.zero_add, Nat.sub_self, RF.seqI, RF.seqD, RF.wipeE, RF.restE, Option.getD_some, RF.ix_lst0, RF.ix_tup0, RF.ixN_0, RF.ix_lst1, RF.ix_tup1, RF.ixN_1, RF.ix_lst2, RF.ix_tup2, RF.ixN_2, RF.ix_lst3, RF.ix_tup3, RF.ixN_3, RF.ix_lst4, RF.ix_tup4, RF.ixN_4, RF.ix_lst5, RF.ix_tup5, RF.ixN_5, RF.ix_lst6, RF.ix_tup6, RF.ixN_6, RF.ix_lst7, RF.ix_tup7, RF.ixN_7, RF.ix_lst8, RF.ix_tup8, RF.ixN_8, RF.add_int, RF.dSub, RF.dMul, RF.dFdiv, RF.dMod, RF.dPow, RF.eq_int, RF.eq_str, RF.ne_int, RF.ne_str, RF.dLt, RF.le_int, RF.gt_int, RF.ge_int, RF.dIs, RF.dLen, RF.dAbs, RF.dInt, RF.dList, RF.dTup, RF.dAll, RF.dAny, RF.dSum, RF.dMax2, RF.dMin2, RF.truthD, RF.isNon]
  refine wp_use (draw_spec h (by omega) (by omega)) ?_
  rintro _ _ ⟨r, o', r0, r1, h', rfl, rfl⟩
  obtain ⟨pos, buf, cnt, hp, hb, rfl⟩ := id h'
  obtain ⟨k, rfl⟩ : ∃ k : Nat, r = (k : Int) := ⟨r.toNat, by omega⟩
  simp -dsimp -implicitDefEqProofs only [RF.w_seq, RF.w_if, RF.w_asg, RF.w_ret, RF.w_drop, RF.w_nx, RF.w_run, RF.w_C, RF.w_var, RF.w_mv, RF.w_D, RF.w_V, RF.w_ev, RF.w_lv, RF.w_op, RF.w_T, RF.w_B, RF.w_notT, RF.w_andT, RF.w_orT, RF.w_andV, RF.w_orV, RF.w_not, RF.w_neg, RF.w_CB, RF.w_pre0, RF.w_pre, RF.w_isi, RF.w_evs0, RF.w_evs, RF.w_tup, RF.w_lst, RF.w_part0, RF.w_part, RF.w_sl, RF.w_call, RF.w_call0, RF.w_app, RF.w_ext, RF.w_ins, RF.w_pop, RF.w_setI, RF.w_aug, RF.w_asgT, RF.w_for, RF.w_for0, RF.w_for1, RF.w_it, RF.w_enum, RF.w_rng1, RF.w_rng2, RF.w_lc, RF.w_lc0, RF.w_lc1, RF.w_chain, RF.w_lam, RF.w_bnd, RF.oK_some, RF.oK_none, RF.oK_ite, RF.ifK_true, RF.ifK_false, RF.ifK_not, RF.seqK_nx, RF.seqK_bk, RF.seqK_ct, RF.seqK_rt, RF.stO_un, RF.stO_va, RF.stO_ow, RF.retK_rt, RF.retK_nx, RF.back_nil, RF.back_ow, RF.back_va, RF.varK_va, RF.varK_ow, RF.toD_lst, RF.toD_dct, RF.mvK_va, RF.mvK_ow, RF.rvK_va, RF.rvK_ow, RF.rdS_va, RF.rdS_ow, RF.fin_ev, RF.fin_lv, RF.ap2_some, RF.blK_bl, RF.negD, RF.cons2_some, RF.finL_nil, RF.finL_cons, RF.intK_int, RF.mkA_nil, RF.mkA_ev, RF.mkS_ow, RF.mkA_lv, RF.putA_nil, RF.putA_ev, RF.putS_ow, RF.putA_lv, RF.owS_ow, RF.vaS_va, RF.tgN_eq, RF.tgO_un, RF.tgO_va, RF.tgO_ow, RF.tgT_tup, RF.tgL_nil, RF.tgL_cons, RF.forK_nx, RF.forK_ct, RF.forK_bk, RF.forK_rt, RF.asV, Option.map_some, Option.map_none, Option.bind_some, Option.bind_none, Option.some.injEq, List.getElem?_cons_zero, List.getElem?_cons_succ, List.set_cons_zero, List.set_cons_succ, List.length_cons, List.length_nil, List.cons_append, List.nil_append, List.replicate_succ, List.replicate_zero, Nat.reduceAdd, Nat.reduceSub, Nat.add_zero, Nat.zero_add, Nat.sub_self, RF.seqI, RF.seqD, RF.wipeE, RF.restE, Option.getD_some, RF.ix_lst0, RF.ix_tup0, RF.ixN_0, RF.ix_lst1, RF.ix_tup1, RF.ixN_1, RF.ix_lst2, RF.ix_tup2, RF.ixN_2, RF.ix_lst3, RF.ix_tup3, RF.ixN_3, RF.ix_lst4, RF.ix_tup4, RF.ixN_4, RF.ix_lst5, RF.ix_tup5, RF.ixN_5, RF.ix_lst6, RF.ix_tup6, RF.ixN_6, RF.ix_lst7, RF.ix_tup7, RF.ixN_7, RF.ix_lst8, RF.ix_tup8, RF.ixN_8, RF.add_int, RF.dSub, RF.dMul, RF.dFdiv, RF.dMod, RF.dPow, RF.eq_int, RF.eq_str, RF.ne_int, RF.ne_str, RF.dLt, RF.le_int, RF.gt_int, RF.ge_int, RF.dIs, RF.dLen, RF.dAbs, RF.dInt, RF.dList, RF.dTup, RF.dAll, RF.dAny, RF.dSum, RF.dMax2, RF.dMin2, RF.truthD, RF.isNon, dIx]
  rw [atI_nat (by omega)]
  exact ⟨k, by omega, _, h', rfl, rfl⟩
/-! what a value is -/
def isI (T : String) (d : D) : Option Bool := (tyD d).bind fun n => kitB n T
theorem kb_ii : kitB "int" "int" = some true := by decide +kernel
theorem kb_bi : kitB "bool" "int" = some true := by decide +kernel
theorem kb_si : kitB "str" "int" = some false := by decide +kernel
theorem kb_ti : kitB "tuple" "int" = some false := by decide +kernel
theorem kb_li : kitB "list" "int" = some false := by decide +kernel
theorem kb_ni : kitB "NoneType" "int" = some false := by decide +kernel
theorem kb_di : kitB "dict" "int" = some false := by decide +kernel
theorem kb_ib : kitB "int" "bool" = some false := by decide +kernel
theorem kb_bb : kitB "bool" "bool" = some true := by decide +kernel
theorem kb_sb : kitB "str" "bool" = some false := by decide +kernel
theorem kb_tb : kitB "tuple" "bool" = some false := by decide +kernel
theorem kb_lb : kitB "list" "bool" = some false := by decide +kernel
theorem kb_nb : kitB "NoneType" "bool" = some false := by decide +kernel
theorem kb_db : kitB "dict" "bool" = some false := by decide +kernel
theorem kb_is : kitB "int" "str" = some false := by decide +kernel
theorem kb_bs : kitB "bool" "str" = some false := by decide +kernel
theorem kb_ss : kitB "str" "str" = some true := by decide +kernel
theorem kb_ts : kitB "tuple" "str" = some false := by decide +kernel
theorem kb_ls : kitB "list" "str" = some false := by decide +kernel
theorem kb_ns : kitB "NoneType" "str" = some false := by decide +kernel
theorem kb_ds : kitB "dict" "str" = some false := by decide +kernel
theorem kb_it : kitB "int" "tuple" = some false := by decide +kernel
theorem kb_bt : kitB "bool" "tuple" = some false := by decide +kernel
theorem kb_st : kitB "str" "tuple" = some false := by decide +kernel
theorem kb_tt : kitB "tuple" "tuple" = some true := by decide +kernel
theorem kb_lt : kitB "list" "tuple" = some false := by decide +kernel
theorem kb_nt : kitB "NoneType" "tuple" = some false := by decide +kernel
theorem kb_dt : kitB "dict" "tuple" = some false := by decide +kernel
theorem kb_il : kitB "int" "list" = some false := by decide +kernel
theorem kb_bl : kitB "bool" "list" = some false := by decide +kernel
theorem kb_sl : kitB "str" "list" = some false := by decide +kernel
theorem kb_tl : kitB "tuple" "list" = some false := by decide +kernel
theorem kb_ll : kitB "list" "list" = some true := by decide +kernel
theorem kb_nl : kitB "NoneType" "list" = some false := by decide +kernel
theorem kb_dl : kitB "dict" "list" = some false := by decide +kernel
def isT : D → Bool
  | .tup _ => true
  | _ => false
def isS : D → Bool
  | .str _ => true
  | _ => false
def isN : D → Bool
  | .int _ => true
  | _ => false
def isNB : D → Bool
  | .int _ => true
  | .bl _ => true
  | _ => false
def isBl : D → Bool
  | .bl _ => true
  | _ => false
theorem isi_t {d : D} : dIsi "tuple" d = some (.va (.bl (isT d))) := by
  cases d <;> simp only [dIsi, tyD, Option.bind_some, kb_nt, kb_bt, kb_it, kb_st, kb_tt, kb_lt, kb_dt, Option.map_some, isT]
theorem isi_s {d : D} : dIsi "str" d = some (.va (.bl (isS d))) := by
  cases d <;> simp only [dIsi, tyD, Option.bind_some, kb_ns, kb_bs, kb_is, kb_ss, kb_ts, kb_ls, kb_ds, Option.map_some, isS]
theorem isi_i {d : D} : dIsi "int" d = some (.va (.bl (isNB d))) := by
  cases d <;> simp only [dIsi, tyD, Option.bind_some, kb_ni, kb_bi, kb_ii, kb_si, kb_ti, kb_li, kb_di, Option.map_some, isNB]
theorem isi_b {d : D} : dIsi "bool" d = some (.va (.bl (isBl d))) := by
  cases d <;> simp only [dIsi, tyD, Option.bind_some, kb_nb, kb_bb, kb_ib, kb_sb, kb_tb, kb_lb, kb_db, Option.map_some, isBl]
def isintF : M RV := runF 1 (cRet (cV (cAndV (cD (cIsi "int" (.lv 0))) (cD (cNot (.ev (cD (cIsi "bool" (.lv 0)))))))))
theorem isint_eq {d : D} : isintF [.va d] = .ok (.va (.bl (isN d))) [.va d] := by
  refine wp_ok ?_
  unfold isintF
  cases d <;> simp -dsimp -implicitDefEqProofs only [RF.w_seq, RF.w_if, RF.w_asg, RF.w_ret, RF.w_drop, RF.w_nx, RF.w_run, RF.w_C, RF.w_var, RF.w_mv, RF.w_D, RF.w_V, RF.w_ev, RF.w_lv, RF.w_op, RF.w_T, RF.w_B, RF.w_notT, RF.w_andT, RF.w_orT, RF.w_andV, RF.w_orV, RF.w_not, RF.w_neg, RF.w_CB, RF.w_pre0, RF.w_pre, RF.w_isi, RF.w_evs0, RF.w_evs, RF.w_tup, RF.w_lst, RF.w_part0, RF.w_part, RF.w_sl, RF.w_call, RF.w_call0, RF.w_app, RF.w_ext, RF.w_ins, RF.w_pop, RF.w_setI, RF.w_aug, RF.w_asgT, RF.w_for, RF.w_for0, RF.w_for1, RF.w_it, RF.w_enum, RF.w_rng1, RF.w_rng2, RF.w_lc, RF.w_lc0, RF.w_lc1, RF.w_chain, RF.w_lam, RF.w_bnd, RF.oK_some, RF.oK_none, RF.oK_ite, RF.ifK_true, RF.ifK_false, RF.ifK_not, RF.seqK_nx, RF.seqK_bk, RF.seqK_ct, RF.seqK_rt, RF.stO_un, RF.stO_va, RF.stO_ow, RF.retK_rt, RF.retK_nx, RF.back_nil, RF.back_ow, RF.back_va, RF.varK_va, RF.varK_ow, RF.toD_lst, RF.toD_dct, RF.mvK_va, RF.mvK_ow, RF.rvK_va, RF.rvK_ow, RF.rdS_va, RF.rdS_ow, RF.fin_ev, RF.fin_lv, RF.ap2_some, RF.blK_bl, RF.negD, RF.cons2_some, RF.finL_nil, RF.finL_cons, RF.intK_int, RF.mkA_nil, RF.mkA_ev, RF.mkS_ow, RF.mkA_lv, RF.putA_nil, RF.putA_ev, RF.putS_ow, RF.putA_lv, RF.owS_ow, RF.vaS_va, RF.tgN_eq, RF.tgO_un, RF.tgO_va, RF.tgO_ow, RF.tgT_tup, RF.tgL_nil, RF.tgL_cons, RF.forK_nx, RF.forK_ct, RF.forK_bk, RF.forK_rt, RF.asV, Option.map_some, Option.map_none, Option.bind_some, Option.bind_none, Option.some.injEq, List.getElem?_cons_zero, List.getElem?_cons_succ, List.set_cons_zero, List.set_cons_succ, List.length_cons, List.length_nil, List.cons_append, List.nil_append, List.replicate_succ, List.replicate_zero, Nat.reduceAdd, Nat.reduceSub, Nat.add_zero, Nat.zero_add, Nat.sub_self, RF.seqI, RF.seqD, RF.wipeE, RF.restE, Option.getD_some, RF.ix_lst0, RF.ix_tup0, RF.ixN_0, RF.ix_lst1, RF.ix_tup1, RF.ixN_1, RF.ix_lst2, RF.ix_tup2, RF.ixN_2, RF.ix_lst3, RF.ix_tup3, RF.ixN_3, RF.ix_lst4, RF.ix_tup4, RF.ixN_4, RF.ix_lst5, RF.ix_tup5, RF.ixN_5, RF.ix_lst6, RF.ix_tup6, RF.ixN_6, RF.ix_lst7, RF.ix_tup7, RF.ixN_7, RF.ix_lst8, RF.ix_tup8, RF.ixN_8, RF.add_int, RF.dSub, RF.dMul, RF.dFdiv, RF.dMod, RF.dPow, RF.eq_int, RF.eq_str, RF.ne_int, RF.ne_str, RF.dLt, RF.le_int, RF.gt_int, RF.ge_int, RF.dIs, RF.dLen, RF.dAbs, RF.dInt, RF.dList, RF.dTup, RF.dAll, RF.dAny, RF.dSum, RF.dMax2, RF.dMin2, RF.truthD, RF.isNon, isi_i, isi_b, isNB, isBl, isN, Bool.not_false, Bool.not_true, and_self]
/-! the same data -/
def sameB (S : M RV) : M Fl :=
  (cSeq (cIf (cT (.ev (cD (cIsi "tuple" (.lv 1))))) (cSeq (cIf (cOrT (cNotT (cT (.ev (cD (cIsi "tuple" (.lv 0)))))) (cB (cOp dNe (.ev (cD (cCB dLen [(.lv 0)]))) (.ev (cD (cCB dLen [(.lv 1)])))))) (cRet (cC (.bl false))) cNx)
    (cRet (cCB dAll [(.ev (cD (cLc [2] (tgN 2) (cRng1 (.ev (cD (cCB dLen [(.lv 1)])))) (fun ρ => .ok true ρ) (cD (cCall S [(.ev (cD (cOp dIx (.lv 0) (.lv 2)))), (.ev (cD (cOp dIx (.lv 1) (.lv 2))))])))))]))) cNx)
    (cSeq (cIf (cT (.ev (cD (cIsi "str" (.lv 1))))) (cRet (cV (cAndV (cD (cIsi "str" (.lv 0))) (cD (cOp dEq (.lv 0) (.lv 1)))))) cNx)
    (cRet (cV (cAndV (cD (cCall isintF [(.ev (cD (cVar 0)))])) (cD (cOp dEq (.lv 0) (.lv 1))))))))
def sameN : Nat → M RV
  | 0 => fun _ => .fail
  | n + 1 => runF 3 (sameB (sameN n))
def sOk : Nat → D → Prop
  | 0, _ => False
  | _ + 1, .int _ => True
  | _ + 1, .str _ => True
  | n + 1, .tup ds => ds.length ≤ sizeLine ∧ ∀ d ∈ ds, sOk n d
  | _ + 1, _ => False
theorem bools_rep (n : Nat) : boolsD (List.replicate n (.bl true)) = some (List.replicate n true) := by
  induction n with
  | zero => rfl
  | succ n ih => rw [List.replicate_succ, boolsD, ih]; rfl
theorem same_eq : ∀ (n : Nat) (d : D), sOk n d → sameN n [.va d, .va d] = .ok (.va (.bl true)) [.va d, .va d]
  | n + 1, .int i, _ => by
    refine wp_ok ?_
    simp -dsimp -implicitDefEqProofs only [sameN, sameB, RF.w_seq, RF.w_if, RF.w_asg, RF.w_ret, RF.w_drop, RF.w_nx, RF.w_run, RF.w_C, RF.w_var, RF.w_mv, RF.w_D, RF.w_V, RF.w_ev, RF.w_lv, RF.w_op, RF.w_T, RF.w_B, RF.w_notT, RF.w_andT, RF.w_orT, RF.w_andV, RF.w_orV, RF.w_not, RF.w_neg, RF.w_CB, RF.w_pre0, RF.w_pre, RF.w_isi, RF.w_evs0, RF.w_evs, RF.w_tup, RF.w_lst, RF.w_part0, RF.w_part, RF.w_sl, RF.w_call, RF.w_call0, RF.w_app, RF.w_ext, RF.w_ins, RF.w_pop, RF.w_setI, RF.w_aug, RF.w_asgT, RF.w_for, RF.w_for0, RF.w_for1, RF.w_it, RF.w_enum, RF.w_rng1, RF.w_rng2, RF.w_lc, RF.w_lc0, RF.w_lc1, RF.w_chain, RF.w_lam, RF.w_bnd, RF.oK_some, RF.oK_none, RF.oK_ite, RF.ifK_true, RF.ifK_false, RF.ifK_not, RF.seqK_nx, RF.seqK_bk, RF.seqK_ct, RF.seqK_rt, RF.stO_un, RF.stO_va, RF.stO_ow, RF.retK_rt, RF.retK_nx, RF.back_nil, RF.back_ow, RF.back_va, RF.varK_va, RF.varK_ow, RF.toD_lst, RF.toD_dct, RF.mvK_va, RF.mvK_ow, RF.rvK_va, RF.rvK_ow, RF.rdS_va, RF.rdS_ow, RF.fin_ev, RF.fin_lv, RF.ap2_some, RF.blK_bl, RF.negD, RF.cons2_some, RF.finL_nil, RF.finL_cons, RF.intK_int, RF.mkA_nil, RF.mkA_ev, RF.mkS_ow, RF.mkA_lv, RF.putA_nil, RF.putA_ev, RF.putS_ow, RF.putA_lv, RF.owS_ow, RF.vaS_va, RF.tgN_eq, RF.tgO_un, RF.tgO_va, RF.tgO_ow, RF.tgT_tup, RF.tgL_nil, RF.tgL_cons, RF.forK_nx, RF.forK_ct, RF.forK_bk, RF.forK_rt, RF.asV, Option.map_some, Option.map_none, Option.bind_some, Option.bind_none, Option.some.injEq, List.getElem?_cons_zero, List.getElem?_cons_succ, List.set_cons_zero, List.set_cons_succ, List.length_cons, List.length_nil, List.cons_append, List.nil_append, List.replicate_succ, List.replicate_zero, Nat.reduceAdd, Nat.reduceSub, Nat.add_zero, Nat.zero_add, Nat.sub_self, RF.seqI, RF.seqD, RF.wipeE, RF.restE, Option.getD_some, RF.ix_lst0, RF.ix_tup0, RF.ixN_0, RF.ix_lst1, RF.ix_tup1, RF.ixN_1, RF.ix_lst2, RF.ix_tup2, RF.ixN_2, RF.ix_lst3, RF.ix_tup3, RF.ixN_3, RF.ix_lst4, RF.ix_tup4, RF.ixN_4, RF.ix_lst5, RF.ix_tup5, RF.ixN_5, RF.ix_lst6, RF.ix_tup6, RF.ixN_6, RF.ix_lst7, RF.ix_tup7, RF.ixN_7, RF.ix_lst8, RF.ix_tup8, RF.ixN_8, RF.add_int, RF.dSub, RF.dMul, RF.dFdiv, RF.dMod, RF.dPow, RF.eq_int, RF.eq_str, RF.ne_int, RF.ne_str, RF.dLt, RF.le_int, RF.gt_int, RF.ge_int, RF.dIs, RF.dLen, RF.dAbs, RF.dInt, RF.dList, RF.dTup, RF.dAll, RF.dAny, RF.dSum, RF.dMax2, RF.dMin2, RF.truthD, RF.isNon, RF.isi_t, RF.isi_s, RF.isi_i, RF.isi_b, RF.isT, RF.isS, RF.isN, RF.isNB, RF.isBl, Bool.not_false, Bool.not_true, wp_of isint_eq, beq_self_eq_true, and_self]
  | n + 1, .str s, _ => by
    refine wp_ok ?_
    simp -dsimp -implicitDefEqProofs only [sameN, sameB, RF.w_seq, RF.w_if, RF.w_asg, RF.w_ret, RF.w_drop, RF.w_nx, RF.w_run, RF.w_C, RF.w_var, RF.w_mv, RF.w_D, RF.w_V, RF.w_ev, RF.w_lv, RF.w_op, RF.w_T, RF.w_B, RF.w_notT, RF.w_andT, RF.w_orT, RF.w_andV, RF.w_orV, RF.w_not, RF.w_neg, RF.w_CB, RF.w_pre0, RF.w_pre, RF.w_isi, RF.w_evs0, RF.w_evs, RF.w_tup, RF.w_lst, RF.w_part0, RF.w_part, RF.w_sl, RF.w_call, RF.w_call0, RF.w_app, RF.w_ext, RF.w_ins, RF.w_pop, RF.w_setI, RF.w_aug, RF.w_asgT, RF.w_for, RF.w_for0, RF.w_for1, RF.w_it, RF.w_enum, RF.w_rng1, RF.w_rng2, RF.w_lc, RF.w_lc0, RF.w_lc1, RF.w_chain, RF.w_lam, RF.w_bnd, RF.oK_some, RF.oK_none, RF.oK_ite, RF.ifK_true, RF.ifK_false, RF.ifK_not, RF.seqK_nx, RF.seqK_bk, RF.seqK_ct, RF.seqK_rt, RF.stO_un, RF.stO_va, RF.stO_ow, RF.retK_rt, RF.retK_nx, RF.back_nil, RF.back_ow, RF.back_va, RF.varK_va, RF.varK_ow, RF.toD_lst, RF.toD_dct, RF.mvK_va, RF.mvK_ow, RF.rvK_va, RF.rvK_ow, RF.rdS_va, RF.rdS_ow, RF.fin_ev, RF.fin_lv, RF.ap2_some, RF.blK_bl, RF.negD, RF.cons2_some, RF.finL_nil, RF.finL_cons, RF.intK_int, RF.mkA_nil, RF.mkA_ev, RF.mkS_ow, RF.mkA_lv, RF.putA_nil, RF.putA_ev, RF.putS_ow, RF.putA_lv, RF.owS_ow, RF.vaS_va, RF.tgN_eq, RF.tgO_un, RF.tgO_va, RF.tgO_ow, RF.tgT_tup, RF.tgL_nil, RF.tgL_cons, RF.forK_nx, RF.forK_ct, RF.forK_bk, RF.forK_rt, RF.asV, Option.map_some, Option.map_none, Option.bind_some, Option.bind_none, Option.some.injEq, List.getElem?_cons_zero, List.getElem?_cons_succ, List.set_cons_zero, List.set_cons_succ, List.length_cons, List.length_nil, List.cons_append, List.nil_append, List.replicate_succ, List.replicate_zero, Nat.reduceAdd, Nat.reduceSub, Nat.add_zero, Nat.zero_add, Nat.sub_self, RF.seqI, RF.seqD, RF.wipeE, RF.restE, Option.getD_some, RF.ix_lst0, RF.ix_tup0, RF.ixN_0, RF.ix_lst1, RF.ix_tup1, RF.ixN_1, RF.ix_lst2, RF.ix_tup2, RF.ixN_2, RF.ix_lst3, RF.ix_tup3, RF.ixN_3, RF.ix_lst4, RF.ix_tup4, RF.ixN_4, RF.ix_lst5, RF.ix_tup5, RF.ixN_5, RF.ix_lst6, RF.ix_tup6, RF.ixN_6, RF.ix_lst7, RF.ix_tup7, RF.ixN_7, RF.ix_lst8, RF.ix_tup8, RF.ixN_8, RF.add_int, RF.dSub, RF.dMul, RF.dFdiv, RF.dMod, RF.dPow, RF.eq_int, RF.eq_str, RF.ne_int, RF.ne_str, RF.dLt, RF.le_int, RF.gt_int, RF.ge_int, RF.dIs, RF.dLen, RF.dAbs, RF.dInt, RF.dList, RF.dTup, RF.dAll, RF.dAny, RF.dSum, RF.dMax2, RF.dMin2, RF.truthD, RF.isNon, RF.isi_t, RF.isi_s, RF.isi_i, RF.isi_b, RF.isT, RF.isS, RF.isN, RF.isNB, RF.isBl, Bool.not_false, Bool.not_true, wp_of isint_eq, beq_self_eq_true, and_self]
  | n + 1, .tup ds, h => by
    refine wp_ok ?_
    simp -dsimp -implicitDefEqProofs only [sameN, sameB, RF.w_seq, RF.w_if, RF.w_asg, RF.w_ret, RF.w_drop, RF.w_nx, RF.w_run, RF.w_C, RF.w_var, RF.w_mv, RF.w_D, RF.w_V, RF.w_ev, RF.w_lv, RF.w_op, RF.w_T, RF.w_B, RF.w_notT, RF.w_andT, RF.w_orT, RF.w_andV, RF.w_orV, RF.w_not, RF.w_neg, RF.w_CB, RF.w_pre0, RF.w_pre, RF.w_isi, RF.w_evs0, RF.w_evs, RF.w_tup, RF.w_lst, RF.w_part0, RF.w_part, RF.w_sl, RF.w_call, RF.w_call0, RF.w_app, RF.w_ext, RF.w_ins, RF.w_pop, RF.w_setI, RF.w_aug, RF.w_asgT, RF.w_for, RF.w_for0, RF.w_for1, RF.w_it, RF.w_enum, RF.w_rng1, RF.w_rng2, RF.w_lc, RF.w_lc0, RF.w_lc1, RF.w_chain, RF.w_lam, RF.w_bnd, RF.oK_some, RF.oK_none, RF.oK_ite, RF.ifK_true, RF.ifK_false, RF.ifK_not, RF.seqK_nx, RF.seqK_bk, RF.seqK_ct, RF.seqK_rt, RF.stO_un, RF.stO_va, RF.stO_ow, RF.retK_rt, RF.retK_nx, RF.back_nil, RF.back_ow, RF.back_va, RF.varK_va, RF.varK_ow, RF.toD_lst, RF.toD_dct, RF.mvK_va, RF.mvK_ow, RF.rvK_va, RF.rvK_ow, RF.rdS_va, RF.rdS_ow, RF.fin_ev, RF.fin_lv, RF.ap2_some, RF.blK_bl, RF.negD, RF.cons2_some, RF.finL_nil, RF.finL_cons, RF.intK_int, RF.mkA_nil, RF.mkA_ev, RF.mkS_ow, RF.mkA_lv, RF.putA_nil, RF.putA_ev, RF.putS_ow, RF.putA_lv, RF.owS_ow, RF.vaS_va, RF.tgN_eq, RF.tgO_un, RF.tgO_va, RF.tgO_ow, RF.tgT_tup, RF.tgL_nil, RF.tgL_cons, RF.forK_nx, RF.forK_ct, RF.forK_bk, RF.forK_rt, RF.asV, Option.map_some, Option.map_none, Option.bind_some, Option.bind_none, Option.some.injEq, List.getElem?_cons_zero, List.getElem?_cons_succ, List.set_cons_zero, List.set_cons_succ, List.length_cons, List.length_nil, List.cons_append, List.nil_append, List.replicate_succ, List.replicate_zero, Nat.reduceAdd, Nat.reduceSub, Nat.add_zero, Nat.zero_add, Nat.sub_self, RF.seqI, RF.seqD, RF.wipeE, RF.restE, Option.getD_some, RF.ix_lst0, RF.ix_tup0, RF.ixN_0, RF.ix_lst1, RF.ix_tup1, RF.ixN_1, RF.ix_lst2, RF.ix_tup2, RF.ixN_2, RF.ix_lst3, RF.ix_tup3, RF.ixN_3, RF.ix_lst4, RF.ix_tup4, RF.ixN_4, RF.ix_lst5, RF.ix_tup5, RF.ixN_5, RF.ix_lst6, RF.ix_tup6, RF.ixN_6, RF.ix_lst7, RF.ix_tup7, RF.ixN_7, RF.ix_lst8, RF.ix_tup8, RF.ixN_8, RF.add_int, RF.dSub, RF.dMul, RF.dFdiv, RF.dMod, RF.dPow, RF.eq_int, RF.eq_str, RF.ne_int, RF.ne_str, RF.dLt, RF.le_int, RF.gt_int, RF.ge_int, RF.dIs, RF.dLen, RF.dAbs, RF.dInt, RF.dList, RF.dTup, RF.dAll, RF.dAny, RF.dSum, RF.dMax2, RF.dMin2, RF.truthD, RF.isNon, RF.isi_t, RF.isi_s, RF.isi_i, RF.isi_b, RF.isT, RF.isS, RF.isN, RF.isNB, RF.isBl, Bool.not_false, Bool.not_true, beq_self_eq_true, and_self]
    have hl : ds.length ≤ 16777216 := h.1
    refine ⟨inRng_nat (by omega), by rfl, ?_⟩
    have e := lc_map (vs := [2]) (g := tgN 2) (f := cD (cCall (sameN n) [(.ev (cD (cOp dIx (.lv 0) (.lv 2)))), (.ev (cD (cOp dIx (.lv 1) (.lv 2))))])) (fun _ => .bl true) (ρ := [.va (.tup ds), .va (.tup ds), .un]) (rngL 0 ds.length) (fun i d e => by
      obtain ⟨hi, rfl⟩ := rngL_get e
      refine ⟨_, rfl, ?_⟩
      have ih := same_eq n ds[i] (h.2 _ (List.getElem_mem hi))
      simp -dsimp -implicitDefEqProofs only [RF.w_seq, RF.w_if, RF.w_asg, RF.w_ret, RF.w_drop, RF.w_nx, RF.w_run, RF.w_C, RF.w_var, RF.w_mv, RF.w_D, RF.w_V, RF.w_ev, RF.w_lv, RF.w_op, RF.w_T, RF.w_B, RF.w_notT, RF.w_andT, RF.w_orT, RF.w_andV, RF.w_orV, RF.w_not, RF.w_neg, RF.w_CB, RF.w_pre0, RF.w_pre, RF.w_isi, RF.w_evs0, RF.w_evs, RF.w_tup, RF.w_lst, RF.w_part0, RF.w_part, RF.w_sl, RF.w_call, RF.w_call0, RF.w_app, RF.w_ext, RF.w_ins, RF.w_pop, RF.w_setI, RF.w_aug, RF.w_asgT, RF.w_for, RF.w_for0, RF.w_for1, RF.w_it, RF.w_enum, RF.w_rng1, RF.w_rng2, RF.w_lc, RF.w_lc0, RF.w_lc1, RF.w_chain, RF.w_lam, RF.w_bnd, RF.oK_some, RF.oK_none, RF.oK_ite, RF.ifK_true, RF.ifK_false, RF.ifK_not, RF.seqK_nx, RF.seqK_bk, RF.seqK_ct, RF.seqK_rt, RF.stO_un, RF.stO_va, RF.stO_ow, RF.retK_rt, RF.retK_nx, RF.back_nil, RF.back_ow, RF.back_va, RF.varK_va, RF.varK_ow, RF.toD_lst, RF.toD_dct, RF.mvK_va, RF.mvK_ow, RF.rvK_va, RF.rvK_ow, RF.rdS_va, RF.rdS_ow, RF.fin_ev, RF.fin_lv, RF.ap2_some, RF.blK_bl, RF.negD, RF.cons2_some, RF.finL_nil, RF.finL_cons, RF.intK_int, RF.mkA_nil, RF.mkA_ev, RF.mkS_ow, RF.mkA_lv, RF.putA_nil, RF.putA_ev, RF.putS_ow, RF.putA_lv, RF.owS_ow, RF.vaS_va, RF.tgN_eq, RF.tgO_un, RF.tgO_va, RF.tgO_ow, RF.tgT_tup, RF.tgL_nil, RF.tgL_cons, RF.forK_nx, RF.forK_ct, RF.forK_bk, RF.forK_rt, RF.asV, Option.map_some, Option.map_none, Option.bind_some, Option.bind_none, Option.some.injEq, List.getElem?_cons_zero, List.getElem?_cons_succ, List.set_cons_zero, List.set_cons_succ, List.length_cons, List.length_nil, List.cons_append, List.nil_append, List.replicate_succ, List.replicate_zero, Nat.reduceAdd, Nat.reduceSub, Nat.add_zero, Nat.zero_add, Nat.sub_self, RF.seqI, RF.seqD, RF.wipeE, RF.restE, Option.getD_some, RF.ix_lst0, RF.ix_tup0, RF.ixN_0, RF.ix_lst1, RF.ix_tup1, RF.ixN_1, RF.ix_lst2, RF.ix_tup2, RF.ixN_2, RF.ix_lst3, RF.ix_tup3, RF.ixN_3, RF.ix_lst4, RF.ix_tup4, RF.ixN_4, RF.ix_lst5, RF.ix_tup5, RF.ixN_5, RF.ix_lst6, RF.ix_tup6, RF.ixN_6, RF.ix_lst7, RF.ix_tup7, RF.ixN_7, RF.ix_lst8, RF.ix_tup8, RF.ixN_8, RF.add_int, RF.dSub, RF.dMul, RF.dFdiv, RF.dMod, RF.dPow, RF.eq_int, RF.eq_str, RF.ne_int, RF.ne_str, RF.dLt, RF.le_int, RF.gt_int, RF.ge_int, RF.dIs, RF.dLen, RF.dAbs, RF.dInt, RF.dList, RF.dTup, RF.dAll, RF.dAny, RF.dSum, RF.dMax2, RF.dMin2, RF.truthD, RF.isNon, RF.isi_t, RF.isi_s, RF.isi_i, RF.isi_b, RF.isT, RF.isS, RF.isN, RF.isNB, RF.isBl, Bool.not_false, Bool.not_true, dIx, atI_nat hi, wp_of ih]
      exact ⟨by trivial, by trivial⟩)
    refine (wp_of e).mpr ?_
    have e2 : (rngL 0 (ds.length : Int)).map (fun _ => D.bl true) = List.replicate ds.length (.bl true) := by rw [List.map_const', rngL_len]
    rw [e2]
    refine ⟨by rw [List.length_replicate]; exact h.1, ?_⟩
    simp -dsimp -implicitDefEqProofs only [RF.w_seq, RF.w_if, RF.w_asg, RF.w_ret, RF.w_drop, RF.w_nx, RF.w_run, RF.w_C, RF.w_var, RF.w_mv, RF.w_D, RF.w_V, RF.w_ev, RF.w_lv, RF.w_op, RF.w_T, RF.w_B, RF.w_notT, RF.w_andT, RF.w_orT, RF.w_andV, RF.w_orV, RF.w_not, RF.w_neg, RF.w_CB, RF.w_pre0, RF.w_pre, RF.w_isi, RF.w_evs0, RF.w_evs, RF.w_tup, RF.w_lst, RF.w_part0, RF.w_part, RF.w_sl, RF.w_call, RF.w_call0, RF.w_app, RF.w_ext, RF.w_ins, RF.w_pop, RF.w_setI, RF.w_aug, RF.w_asgT, RF.w_for, RF.w_for0, RF.w_for1, RF.w_it, RF.w_enum, RF.w_rng1, RF.w_rng2, RF.w_lc, RF.w_lc0, RF.w_lc1, RF.w_chain, RF.w_lam, RF.w_bnd, RF.oK_some, RF.oK_none, RF.oK_ite, RF.ifK_true, RF.ifK_false, RF.ifK_not, RF.seqK_nx, RF.seqK_bk, RF.seqK_ct, RF.seqK_rt, RF.stO_un, RF.stO_va, RF.stO_ow, RF.retK_rt, RF.retK_nx, RF.back_nil, RF.back_ow, RF.back_va, RF.varK_va, RF.varK_ow, RF.toD_lst, RF.toD_dct, RF.mvK_va, RF.mvK_ow, RF.rvK_va, RF.rvK_ow, RF.rdS_va, RF.rdS_ow, RF.fin_ev, RF.fin_lv, RF.ap2_some, RF.blK_bl, RF.negD, RF.cons2_some, RF.finL_nil, RF.finL_cons, RF.intK_int, RF.mkA_nil, RF.mkA_ev, RF.mkS_ow, RF.mkA_lv, RF.putA_nil, RF.putA_ev, RF.putS_ow, RF.putA_lv, RF.owS_ow, RF.vaS_va, RF.tgN_eq, RF.tgO_un, RF.tgO_va, RF.tgO_ow, RF.tgT_tup, RF.tgL_nil, RF.tgL_cons, RF.forK_nx, RF.forK_ct, RF.forK_bk, RF.forK_rt, RF.asV, Option.map_some, Option.map_none, Option.bind_some, Option.bind_none, Option.some.injEq, List.getElem?_cons_zero, List.getElem?_cons_succ, List.set_cons_zero, List.set_cons_succ, List.length_cons, List.length_nil, List.cons_append, List.nil_append, List.replicate_succ, List.replicate_zero, Nat.reduceAdd, Nat.reduceSub, Nat.add_zero, Nat.zero_add, Nat.sub_self, RF.seqI, RF.seqD, RF.wipeE, RF.restE, Option.getD_some, RF.ix_lst0, RF.ix_tup0, RF.ixN_0, RF.ix_lst1, RF.ix_tup1, RF.ixN_1, RF.ix_lst2, RF.ix_tup2, RF.ixN_2, RF.ix_lst3, RF.ix_tup3, RF.ixN_3, RF.ix_lst4, RF.ix_tup4, RF.ixN_4, RF.ix_lst5, RF.ix_tup5, RF.ixN_5, RF.ix_lst6, RF.ix_tup6, RF.ixN_6, RF.ix_lst7, RF.ix_tup7, RF.ixN_7, RF.ix_lst8, RF.ix_tup8, RF.ixN_8, RF.add_int, RF.dSub, RF.dMul, RF.dFdiv, RF.dMod, RF.dPow, RF.eq_int, RF.eq_str, RF.ne_int, RF.ne_str, RF.dLt, RF.le_int, RF.gt_int, RF.ge_int, RF.dIs, RF.dLen, RF.dAbs, RF.dInt, RF.dList, RF.dTup, RF.dAll, RF.dAny, RF.dSum, RF.dMax2, RF.dMin2, RF.truthD, RF.isNon, RF.isi_t, RF.isi_s, RF.isi_i, RF.isi_b, RF.isT, RF.isS, RF.isN, RF.isNB, RF.isBl, Bool.not_false, Bool.not_true, bools_rep, restE, wipeE]
    simp
/-! slots that are no objects -/
def Pl (s : SV) : Prop := s = .un ∨ ∃ d, s = .va d
theorem Pl.un : Pl .un := .inl rfl
theorem Pl.va {d : D} : Pl (.va d) := .inr ⟨d, rfl⟩
theorem Pl.tg {s : SV} (h : Pl s) (ρ : Env) : tgO (some s) ρ = some ρ := by
  rcases h with rfl | ⟨d, rfl⟩ <;> rfl
theorem Pl.st {s : SV} (h : Pl s) (p : Prop) : stO (some s) p = p := by
  rcases h with rfl | ⟨d, rfl⟩ <;> rfl
theorem Pl.ok {s : SV} (h : Pl s) : (match some s with | some (.ow _ _) => false | none => false | _ => true) = true := by
  rcases h with rfl | ⟨d, rfl⟩ <;> rfl
/-- a slot that may be written -/
def Sb (s : SV) : Prop := s = .un ∨ (∃ d, s = .va d) ∨ ∃ o, s = .ow false o
theorem Sb.un : Sb .un := .inl rfl
theorem Sb.va {d : D} : Sb (.va d) := .inr (.inl ⟨d, rfl⟩)
theorem Sb.ow {o : Ob} : Sb (.ow false o) := .inr (.inr ⟨o, rfl⟩)
theorem Sb.tg {s : SV} (h : Sb s) (ρ : Env) : tgO (some s) ρ = some ρ := by
  rcases h with rfl | ⟨d, rfl⟩ | ⟨o, rfl⟩ <;> rfl
theorem Sb.st {s : SV} (h : Sb s) (p : Prop) : stO (some s) p = p := by
  rcases h with rfl | ⟨d, rfl⟩ | ⟨o, rfl⟩ <;> rfl
/-- a slot that holds this list, seen or not -/
def Ls (s : SV) (ds : List D) : Prop := s = .ow false (.lst ds) ∨ s = .va (.lst ds)
theorem Ls.sb {s : SV} {ds : List D} (h : Ls s ds) : Sb s := by
  rcases h with rfl | rfl
  · exact .ow
  · exact .va
theorem Ls.var {s : SV} {ds : List D} (h : Ls s ds) {i : Nat} {ρ : Env} {Q : RV → Env → Prop} (e : ρ[i]? = some s) : varK i ρ Q (some s) = Q (.va (.lst ds)) (ρ.set i (.va (.lst ds))) := by
  rcases h with rfl | rfl
  · rfl
  · obtain ⟨hi, e'⟩ := List.getElem?_eq_some_iff.mp e
    have e2 : ρ.set i (.va (.lst ds)) = ρ := by rw [← e']; exact List.set_getElem_self hi
    rw [varK_va, e2]
theorem DrS.toD {ns : List Int} {o : Ob} (h : DrS ns o) : ∃ d, o.toD = some d := by
  obtain ⟨pos, buf, cnt, _, _, rfl⟩ := h
  exact ⟨_, rfl⟩
theorem drawW {ns : List Int} {o : Ob} {m : Int} {Q : RV → Env → Prop} {E : Exc → Env → Prop} (h : DrS ns o) (h0 : 0 < m) (h1 : m ≤ 10 ^ 40) (q : ∀ r o' t, 0 ≤ r → r < m → DrS ns o' → o'.toD = some t → Q (.va (.int r)) [.ow true o', .va (.int m)]) : wp drawF [.ow true o, .va (.int m)] Q E := by
  refine wp_use (draw_spec h h0 h1) ?_
  rintro _ _ ⟨r, o', a, b, c, rfl, rfl⟩
  obtain ⟨t, ht⟩ := c.toD
  exact q r o' t a b c ht
theorem drawN {ns : List Int} {o : Ob} {m : Nat} {Q : RV → Env → Prop} {E : Exc → Env → Prop} (h : DrS ns o) (h0 : 0 < m) (h1 : m ≤ 10 ^ 40) (q : ∀ (r : Nat) o' t, r < m → DrS ns o' → o'.toD = some t → Q (.va (.int r)) [.ow true o', .va (.int m)]) : wp drawF [.ow true o, .va (.int m)] Q E := by
  refine drawW h (by omega) (by omega) fun r o' t a b c ht => ?_
  obtain ⟨k, rfl⟩ : ∃ k : Nat, r = (k : Int) := ⟨r.toNat, by omega⟩
  exact q k o' t (by omega) c ht
theorem oneW {ns : List Int} {o : Ob} {ds : List D} {Q : RV → Env → Prop} {E : Exc → Env → Prop} (h : DrS ns o) (h0 : 0 < ds.length) (h1 : ds.length ≤ 2 ^ 24) (q : ∀ d o' t, d ∈ ds → DrS ns o' → o'.toD = some t → Q (.va d) [.ow true o', .va (.lst ds)]) : wp oneF [.ow true o, .va (.lst ds)] Q E := by
  refine wp_use (one_lst h h0 h1) ?_
  rintro _ _ ⟨i, hi, o', a, rfl, rfl⟩
  obtain ⟨t, ht⟩ := a.toD
  exact q _ o' t (List.getElem_mem hi) a ht
theorem oneT {ns : List Int} {o : Ob} {ds : List D} {Q : RV → Env → Prop} {E : Exc → Env → Prop} (h : DrS ns o) (h0 : 0 < ds.length) (h1 : ds.length ≤ 2 ^ 24) (q : ∀ d o' t, d ∈ ds → DrS ns o' → o'.toD = some t → Q (.va d) [.ow true o', .va (.tup ds)]) : wp oneF [.ow true o, .va (.tup ds)] Q E := by
  refine wp_use (one_tup h h0 h1) ?_
  rintro _ _ ⟨i, hi, o', a, rfl, rfl⟩
  obtain ⟨t, ht⟩ := a.toD
  exact q _ o' t (List.getElem_mem hi) a ht
theorem startW {ns : List Int} {Q : RV → Env → Prop} {E : Exc → Env → Prop} (q : ∀ o t, DrS ns o → o.toD = some t → Q (.ow o) [.va (.rls (ns.map D.int))]) : wp startF [.va (.rls (ns.map D.int))] Q E := by
  refine wp_use start_spec ?_
  rintro _ _ ⟨o, rfl, rfl, h⟩
  obtain ⟨t, ht⟩ := h.toD
  exact q o t h ht
end RF

/-! RF15: zip of lists and tuples in any mixture. -/
namespace RF
open PySem PySem.Spec PyProof.Rows L2
def SqK (K : PySem.W.Frag) (t : Bool) (H : Hp) (a : Addr) (xs : List V) : Prop := match t with
  | true => SqT K H a xs
  | false => SqL K H a xs
def IsIt (t : Bool) (h : Heap) (it a : Addr) (i : Nat) : Prop := match t with
  | true => h.IsTupleIter it a i
  | false => h.IsListIter it a i
def IsSq (t : Bool) (h : Heap) (a : Addr) (its : Array Value) : Prop := match t with
  | true => h.IsTuple a its
  | false => h.IsList a its
theorem IsIt.at {t : Bool} {h h' : Heap} {it a : Addr} {i : Nat} (p : IsIt t h it a i) (k : ∀ o, h.get? it = some o → h'.get? it = some o) : IsIt t h' it a i := by
  cases t
  · exact Heap.IsListIter.at p k
  · exact Heap.IsTupleIter.at p k
theorem IsSq.at {t : Bool} {h h' : Heap} {a : Addr} {its : Array Value} (p : IsSq t h a its) (k : ∀ o, h.get? a = some o → h'.get? a = some o) : IsSq t h' a its := by
  cases t
  · exact Heap.IsList.at p k
  · exact Heap.IsTuple.at p k
theorem IsIt.obj {t : Bool} {h : Heap} {it a : Addr} {i : Nat} (p : IsIt t h it a i) : ∃ o, h.get? it = some o ∧ ∀ v, o.data ≠ .cell v := by
  cases t
  · obtain ⟨o, e, _, d⟩ := p
    exact ⟨o, e, fun v q => by rw [d] at q; cases q⟩
  · obtain ⟨o, e, _, d⟩ := p
    exact ⟨o, e, fun v q => by rw [d] at q; cases q⟩
theorem IsSq.lt {t : Bool} {h : Heap} {a : Addr} {its : Array Value} (p : IsSq t h a its) : a < h.objs.size := by
  cases t
  · obtain ⟨o, e, _⟩ := p
    exact Heap.lt_size e
  · obtain ⟨o, e, _⟩ := p
    exact Heap.lt_size e
theorem draws_k {prog : Program} {w : World} {A : Around} (t : Bool) (hh : A.handled = none) (it a : Addr) (hne : a ≠ it) (items : Array Value) :
    Draws prog w A it [it, a] items.size (fun i v => items[i]? = some v) (fun i h => IsIt t h it a i ∧ IsSq t h a items) := by
  cases t
  · exact Draws.list hh it a hne items
  · exact Draws.tuple hh it a hne items
def itO (t : Bool) (a : Addr) : Obj := match t with
  | true => { cls := .type "tuple_iterator", data := .fields #[.ref a, .int 0 0] }
  | false => { cls := .type "list_iterator", data := .fields #[.ref a, .int 0 0] }
theorem begins_k (t : Bool) (a : Addr) (items : Array Value) : Begins (.ref a) (itO t a) fun h => IsSq t h a items := by
  cases t
  · exact begins_list a items
  · exact begins_tuple a items
theorem isIt_new {t : Bool} {h : Heap} {it a : Addr} (e : h.get? it = some (itO t a)) : IsIt t h it a 0 := by
  cases t
  · exact ⟨_, e, rfl, rfl⟩
  · exact ⟨_, e, rfl, rfl⟩
section
variable {X : Cx} {pins : List (Addr × Obj)} {σ : L2.St} {H : Hp} {s : Shared}
theorem inv_sq (I : Inv X pins σ H s) {t : Bool} {a : Addr} {xs : List V} (h : SqK X.K t H a xs) : ∃ its : List Value, Vals xs its ∧ IsSq t s.heap a its.toArray := by
  cases t
  · obtain ⟨its, rv, p, _⟩ := I.list h
    exact ⟨its, rv, p.isList⟩
  · obtain ⟨its, rv, p, _⟩ := I.tuple h
    exact ⟨its, rv, p⟩
theorem inv_sq_inj (I : Inv X pins σ H s) {t : Bool} {a : Addr} {xs ys : List V} (h : SqK X.K t H a xs) (h' : SqK X.K t H a ys) : xs = ys := by
  cases t
  · exact I.list_inj h h'
  · exact I.tuple_inj h h'
end
/-- the rows at a and b as they stand at each turn, the items in new pairs -/
def ItzK (K : PySem.W.Frag) (t u : Bool) (a b : Addr) : It :=
  ⟨fun i H => ∃ (xs ys : List V) (x y : V), SqK K t H a xs ∧ SqK K u H b ys ∧ xs[i]? = some x ∧ ys[i]? = some y,
    fun i H v H' => ∃ T x y, v = .ref T ∧ H T = none ∧ H' = upd H T (.tup [x, y]) ∧ (∀ xs, SqK K t H a xs → xs[i]? = some x) ∧ ∀ ys, SqK K u H b ys → ys[i]? = some y,
    fun i H => ∃ xs ys : List V, SqK K t H a xs ∧ SqK K u H b ys ∧ i ≤ xs.length ∧ i ≤ ys.length ∧ (xs.length = i ∨ ys.length = i)⟩
theorem turn_zipK {P : Program} {w : World} {K : PySem.W.Frag} {elts : List Expr} {kk : Nat} {tpos : Pos} {a b z TI TO i1 i2 : Addr} (t u : Bool) (D : ZipSep2 z TI TO i1 i2 [i1, a] [i2, b]) (ha : a ≠ i1) (hb : b ≠ i2) :
    Turn P w K (.Tuple elts kk tpos) (ItzK K t u a b) [z, TI, TO, i1, i2] z (fun i h => IsZip h z TI TO .none ∧ IsTupOf2 h TI (.ref i1) (.ref i2) ∧ (∃ x y, IsTupOf2 h TO x y) ∧ IsIt t h i1 a i ∧ IsIt u h i2 b i) where
  mem := by simp
  obj := fun i h st c hc => by
    obtain ⟨hz, hTI, ⟨x, y, hTO⟩, h1, h2⟩ := st
    have e' : c = z ∨ c = TI ∨ c = TO ∨ c = i1 ∨ c = i2 := by simpa using hc
    rcases e' with q | q | q | q | q
    · rw [q]; exact ⟨_, hz, fun v q => nomatch q⟩
    · rw [q]; exact ⟨_, hTI, fun v q => nomatch q⟩
    · rw [q]; exact ⟨_, hTO, fun v q => nomatch q⟩
    · rw [q]; exact h1.obj
    · rw [q]; exact h2.obj
  keep := fun i h h' st k => by
    obtain ⟨hz, hTI, ⟨x, y, hTO⟩, h1, h2⟩ := st
    exact ⟨k z (by simp) _ hz, k TI (by simp) _ hTI, ⟨x, y, k TO (by simp) _ hTO⟩, h1.at fun o q => k i1 (by simp) o q, h2.at fun o q => k i2 (by simp) o q⟩
  item := by
    intro X hP hw hK hc i pins s σ H E I hf st hg
    subst hP hw hK
    obtain ⟨hz, hTI, ⟨x0, y0, hTO⟩, h1, h2⟩ := st
    obtain ⟨xs, ys, x, y, hqx, hqy, hx, hy⟩ := hg
    obtain ⟨its, rv, p⟩ := inv_sq I hqx
    obtain ⟨its2, rv2, p2⟩ := inv_sq I hqy
    obtain ⟨v1, hu, ru⟩ := rv.get hx
    obtain ⟨v2, hu2, ru2⟩ := rv2.get hy
    have hzl : z < s.heap.objs.size := Heap.lt_size hz
    refine wpAny_pyNext_zipD2_item D (draws_k (A := X.A.in1) t (I.ok.hd hc) i1 a ha its.toArray) (draws_k (A := X.A.in1) u (I.ok.hd hc) i2 b hb its2.toArray) hz hTI hTO ⟨h1, p⟩ ⟨h2, p2⟩
      (by have := (List.getElem?_eq_some_iff.mp hu).1; simpa using this) (by have := (List.getElem?_eq_some_iff.mp hu2).1; simpa using this) fun x1 x2 h' tk hP1 hP2 z' TO' s1' s2' hT hsz hk => ?_
    have e1 : x1 = v1 := by
      have : its[i]? = some x1 := by simpa using hP1
      rw [hu] at this
      cases this
      rfl
    have e2 : x2 = v2 := by
      have : its2[i]? = some x2 := by simpa using hP2
      rw [hu2] at this
      cases this
      rfl
    subst e1 e2
    refine ⟨_, rfl, wpAny_letOwnedTupleGo_zip (s := { s with heap := h', toks := tk }) z' fun h'' z'' sb => ?_⟩
    have hT2 : h''.get? s.heap.objs.size = some { cls := .type "tuple", data := .seq #[x1, x2] } := (sb.2 _ (Nat.ne_of_gt hzl)).trans hT
    have new : ObjOk X.prog X.w (upd H s.heap.objs.size (.tup [x, y])) h'' s.heap.objs.size (.tup [x, y]) :=
      ⟨by show 2 ≤ sizeLine; decide, [x1, x2], .cons ru (.cons ru2 .nil), ⟨_, hT2, rfl, _, rfl⟩⟩
    have I1 : Inv X pins σ (upd H s.heap.objs.size (.tup [x, y])) { s with heap := h'', toks := tk } :=
      I.turnedNew (t' := tk) (ch := [z, TI, TO, i1, i2]) (fun c o hb q => (sb.2 c (fun q' => hb (by simp [q']))).trans (hk c o (fun q' => hb (by simp [q'])) (fun q' => hb (by simp [q'])) (fun q' => hb (by simp [q'])) (fun q' => hb (by simp [q'])) q)) hf (Nat.le_refl _) new
    refine ⟨.ref s.heap.objs.size, _, I1, rfl, ⟨_, x, y, rfl, I.hok.fresh (Nat.le_refl _), rfl, fun l hl => by rw [inv_sq_inj I hl hqx]; exact hx, fun l hl => by rw [inv_sq_inj I hl hqy]; exact hy⟩, ⟨z'', ?_, ⟨x1, x2, ?_⟩, ?_, ?_⟩, fun c hcm => ?_⟩
    · exact (sb.2 _ D.TIz).trans (hk _ _ D.TIz D.TITO D.TIi1 D.TIi2 hTI)
    · exact (sb.2 _ D.TOz).trans TO'
    · exact s1'.1.at fun o q => (sb.2 _ (Ne.symm D.zi1)).trans q
    · exact s2'.1.at fun o q => (sb.2 _ (Ne.symm D.zi2)).trans q
    · have hlt : c < s.heap.objs.size := by
        have e' : c = z ∨ c = TI ∨ c = TO ∨ c = i1 ∨ c = i2 := by simpa using hcm
        rcases e' with q | q | q | q | q
        · rw [q]; exact hzl
        · rw [q]; exact Heap.lt_size hTI
        · rw [q]; exact Heap.lt_size hTO
        · rw [q]; obtain ⟨_, e1, _⟩ := h1.obj; exact Heap.lt_size e1
        · rw [q]; obtain ⟨_, e2, _⟩ := h2.obj; exact Heap.lt_size e2
      rw [upd_ne (Nat.ne_of_lt hlt)]
      exact (hf c hcm).1
  done := by
    intro X hP hw hK hc i pins s σ H E I hf st hg
    subst hP hw hK
    obtain ⟨hz, hTI, ⟨x0, y0, hTO⟩, h1, h2⟩ := st
    obtain ⟨xs, ys, hqx, hqy, g1, g2, hend⟩ := hg
    obtain ⟨its, rv, p⟩ := inv_sq I hqx
    obtain ⟨its2, rv2, p2⟩ := inv_sq I hqy
    have l1 := rv.length
    have l2 := rv2.length
    exact wpAny_pyNext_zipD2_end D (draws_k (A := X.A.in1) t (I.ok.hd hc) i1 a ha its.toArray) (draws_k (A := X.A.in1) u (I.ok.hd hc) i2 b hb its2.toArray) hz hTI hTO ⟨h1, p⟩ ⟨h2, p2⟩
      (by rw [List.size_toArray]; omega) (by rw [List.size_toArray]; omega) (by rw [List.size_toArray, List.size_toArray]; omega) fun h' tk hk => ⟨rfl, I.turnedL (t' := tk) (ch := [z, TI, TO, i1, i2]) (fun c o hb q =>
      hk c o (fun q' => hb (by simp [q'])) (fun q' => hb (by simp [q'])) (fun q' => hb (by simp [q'])) (fun q' => hb (by simp [q'])) q) hf⟩
  self := fun A i s Q E st h => wpAny_pyIter_zip st.1 h
abbrev zkH1 (h : Heap) (o1 : Obj) : Heap := h.push o1
abbrev zkH2 (h : Heap) (o1 o2 : Obj) : Heap := (zkH1 h o1).push o2
abbrev zkH3 (h : Heap) (o1 o2 : Obj) : Heap := (zkH2 h o1 o2).push { cls := .type "tuple", data := .seq #[.ref h.objs.size, .ref (zkH1 h o1).objs.size] }
abbrev zkH4 (h : Heap) (o1 o2 : Obj) : Heap := (zkH3 h o1 o2).push { cls := .type "tuple", data := .seq #[.none, .none] }
abbrev zkH5 (h : Heap) (o1 o2 : Obj) : Heap := (zkH4 h o1 o2).push { cls := .type "zip", data := .fields #[.none, .bool false, .bool false, .ref (zkH2 h o1 o2).objs.size, .ref (zkH3 h o1 o2).objs.size] }
theorem meets_zipK_new {v1 v2 : Value} {o1 o2 : Obj} {C1 C2 : Heap → Prop} (B1 : Begins v1 o1 C1) (B2 : Begins v2 o2 C2) :
    Meets (Builtin.«zip.__new__» ⟨[.type "zip", v1, v2], []⟩) (fun _ R s => C1 s.heap ∧ C2 s.heap ∧
      R (.ok (.ret (.ref (zkH4 s.heap o1 o2).objs.size))) { s with heap := zkH5 s.heap o1 o2 }) :=
  .of_wp fun prog w A R s h => by
    obtain ⟨hp, g, d, tk, os⟩ := s
    obtain ⟨h1, h2, h⟩ := h
    have hsub := sub_zip
    have h2' : C2 (zkH1 hp o1) := B2.keeps _ _ h2 fun b u e => Heap.get?_push_of_some _ e
    have q1 : ∀ {A' : Around} {E : Value → Shared → Prop} {Q : Value → Shared → Prop}, Q (.ref hp.objs.size) ⟨zkH1 hp o1, g, d, tk, os⟩ → wpAny (model prog w) A' (pyIter v1) Q E ⟨hp, g, d, tk, os⟩ := fun q => B1.iter prog w _ _ _ _ h1 q
    have q2 : ∀ {A' : Around} {E : Value → Shared → Prop} {Q : Value → Shared → Prop}, Q (.ref (zkH1 hp o1).objs.size) ⟨zkH2 hp o1 o2, g, d, tk, os⟩ → wpAny (model prog w) A' (pyIter v2) Q E ⟨zkH1 hp o1, g, d, tk, os⟩ := fun q => B2.iter prog w _ _ _ _ h2' q
    wp_walk using q1, q2
    exact ⟨_, rfl, h⟩
section
variable {prog : Program} {w : World} {A : Around} {E : Value → Shared → Prop} {s : Shared}
theorem call_zipK {v1 v2 : Value} {o1 o2 : Obj} {C1 C2 : Heap → Prop} {Q : Value → Shared → Prop} (B1 : Begins v1 o1 C1) (B2 : Begins v2 o2 C2) (h1 : C1 s.heap) (h2 : C2 s.heap)
    (h : ∀ h', IsZip h' (s.heap.objs.size + 4) (s.heap.objs.size + 2) (s.heap.objs.size + 3) .none → IsTupOf2 h' (s.heap.objs.size + 2) (.ref s.heap.objs.size) (.ref (s.heap.objs.size + 1)) →
      IsTupOf2 h' (s.heap.objs.size + 3) .none .none → h'.get? s.heap.objs.size = some o1 → h'.get? (s.heap.objs.size + 1) = some o2 → h'.objs.size = s.heap.objs.size + 5 →
      (∀ c o, s.heap.get? c = some o → h'.get? c = some o) → Q (.ref (s.heap.objs.size + 4)) { s with heap := h' }) :
    wpAny (model prog w) A (call (.type "zip") [v1, v2]) Q E s := by
  refine callType_new F.called_zip (by decide) (F.typeCall_zip_2 _ _) (F.newCall_zip_2 _ _) (fun obj => F.args_object_init_3 obj _ _) F.entry_zip_new
    (meets_zipK_new B1 B2) ⟨h1, h2, ?_⟩
  have z1 : (zkH1 s.heap o1).objs.size = s.heap.objs.size + 1 := Heap.size_push ..
  have z2 : (zkH2 s.heap o1 o2).objs.size = s.heap.objs.size + 2 := by rw [Heap.size_push, z1]
  have z3 : (zkH3 s.heap o1 o2).objs.size = s.heap.objs.size + 3 := by rw [Heap.size_push, z2]
  have z4 : (zkH4 s.heap o1 o2).objs.size = s.heap.objs.size + 4 := by rw [Heap.size_push, z3]
  have z5 : (zkH5 s.heap o1 o2).objs.size = s.heap.objs.size + 5 := by rw [Heap.size_push, z4]
  have g5 : (zkH5 s.heap o1 o2).get? (zkH4 s.heap o1 o2).objs.size = some _ := Heap.get?_push_size _ rfl
  have g4 : (zkH5 s.heap o1 o2).get? (zkH3 s.heap o1 o2).objs.size = some _ := Heap.get?_push_of_some _ (Heap.get?_push_size _ rfl)
  have g3 : (zkH5 s.heap o1 o2).get? (zkH2 s.heap o1 o2).objs.size = some _ := Heap.get?_push_of_some _ (Heap.get?_push_of_some _ (Heap.get?_push_size _ rfl))
  have g2 : (zkH5 s.heap o1 o2).get? (zkH1 s.heap o1).objs.size = some _ := Heap.get?_push_of_some _ (Heap.get?_push_of_some _ (Heap.get?_push_of_some _ (Heap.get?_push_size _ B2.free)))
  have g1 : (zkH5 s.heap o1 o2).get? s.heap.objs.size = some _ := Heap.get?_push_of_some _ (Heap.get?_push_of_some _ (Heap.get?_push_of_some _ (Heap.get?_push_of_some _ (Heap.get?_push_size _ B1.free))))
  show _ ∧ _
  rw [z2, z3, z4] at g5
  rw [z1, z2] at g3
  rw [z3] at g4
  rw [z1] at g2
  rw [z4]
  exact ⟨⟨_, g5, rfl⟩, h _ g5 g3 g4 g1 g2 z5 fun c o x =>
    Heap.get?_push_of_some _ (Heap.get?_push_of_some _ (Heap.get?_push_of_some _ (Heap.get?_push_of_some _ (Heap.get?_push_of_some _ x))))⟩
end
theorem ne_lg (a b : Nat) (h : a < b ∨ b < a) : a ≠ b := by omega
theorem nm_lg (x p q : Nat) (h1 : x < p ∨ p < x) (h2 : x < q ∨ q < x) : x ∉ [p, q] := by
  simp only [List.mem_cons, List.not_mem_nil, or_false]
  omega
theorem zip_sep (n a b : Nat) (ha : a < n) (hb : b < n) : ZipSep2 (n + 4) (n + 2) (n + 3) n (n + 1) [n, a] [n + 1, b] :=
  ⟨ne_lg (n + 2) (n + 4) (by omega), ne_lg (n + 3) (n + 4) (by omega), ne_lg (n + 2) (n + 3) (by omega), ne_lg (n + 2) n (by omega), List.mem_cons_self, nm_lg (n + 4) n a (by omega) (by omega), nm_lg (n + 3) n a (by omega) (by omega),
    ne_lg (n + 2) (n + 1) (by omega), List.mem_cons_self, nm_lg (n + 4) (n + 1) b (by omega) (by omega), nm_lg (n + 3) (n + 1) b (by omega) (by omega), nm_lg n (n + 1) b (by omega) (by omega), nm_lg (n + 1) n a (by omega) (by omega)⟩
def iZipK (K : PySem.W.Frag) (ta : TA) : TI := fun σ H R => ta σ H fun vs H1 => ∃ t u a b xs ys, vs = [.ref a, .ref b] ∧ SqK K t H1 a xs ∧ SqK K u H1 b ys ∧ R (ItzK K t u a b) H1
theorem pi_zipK {X : Cx} {e e2 : Expr} {ta : TA} {p pos tpos : Pos} {elts : List Expr} {kk : Nat} (hg : Gl X "zip") (hm : X.mg "zip" = none) (ha : PA X [e, e2] ta)
    (hs : starEach [e, e2] X.env = (false, eval e X.env) :: starEach [e2] X.env := by rfl) (hpl : (backTo pos (starEach [e2] X.env)).any (·.1) = false := by rfl) :
    PI X (.Tuple elts kk tpos) (.Call (.Name "zip" p) [e, e2] [] pos) (iZipK X.K ta) := by
  refine ⟨fun pins s σ H R I h => ?_⟩
  refine Call_ (ld_blt I hg hm PyProof.Rows.boot_zip (PyProof.Rows.callWith_type1 (thn (ha.run pos pins s σ H _ I h) fun us s1 ⟨vs, H1, I1, r1, q1⟩ => ?_) hs hpl))
  obtain ⟨t, u, a, b, xs, ys, ex, hqx, hqy, q⟩ := q1
  subst ex
  cases r1 with
  | cons r rr =>
    cases rr with
    | cons r' rr =>
      cases rr
      cases r
      cases r'
      have fresh5 : ∀ c, c ∈ [s1.heap.objs.size + 4, s1.heap.objs.size + 2, s1.heap.objs.size + 3, s1.heap.objs.size, s1.heap.objs.size + 1] → FpOk X pins H1 c := fun c hcm => by
        have e' : c = s1.heap.objs.size + 4 ∨ c = s1.heap.objs.size + 2 ∨ c = s1.heap.objs.size + 3 ∨ c = s1.heap.objs.size ∨ c = s1.heap.objs.size + 1 := by simpa using hcm
        have hle : s1.heap.objs.size ≤ c := by
          rcases e' with z | z | z | z | z
          · rw [z]; exact Nat.le_add_right _ _
          · rw [z]; exact Nat.le_add_right _ _
          · rw [z]; exact Nat.le_add_right _ _
          · rw [z]; exact Nat.le_refl _
          · rw [z]; exact Nat.le_add_right _ _
        exact I1.fpOk hle (I1.hok.fresh hle)
      obtain ⟨its, rv, p1⟩ := inv_sq I1 hqx
      obtain ⟨its2, rv2, p2⟩ := inv_sq I1 hqy
      have la := p1.lt
      have lb := p2.lt
      refine call_zipK (begins_k t a its.toArray) (begins_k u b its2.toArray) p1 p2 fun h' hz hTI hTO h1 h2 hsz hk => wpAny_pyIter_zip hz ?_
      have I2 : Inv X pins σ H1 { s1 with heap := h' } := I1.kept (t' := s1.toks) hk
      have D := zip_sep s1.heap.objs.size a b la lb
      exact ⟨s1.heap.objs.size + 4, [s1.heap.objs.size + 4, s1.heap.objs.size + 2, s1.heap.objs.size + 3, s1.heap.objs.size, s1.heap.objs.size + 1], _, _, H1, rfl, I2, turn_zipK t u D (Nat.ne_of_lt la) (Nat.ne_of_lt (Nat.lt_succ_of_lt lb)), ⟨hz, hTI, ⟨_, _, hTO⟩, isIt_new h1, isIt_new h2⟩, fresh5, q⟩
theorem walk_zipK {K : PySem.W.Frag} {t u : Bool} {a b : Addr} {xs ys : List V} : Walk (ItzK K t u a b) (min xs.length ys.length) (fun H => SqK K t H a xs ∧ SqK K u H b ys) (YPair (fun i => xs[i]?) (fun i => ys[i]?)) := by
  refine ⟨fun i _ hi q => ?_, fun _ q => ?_, fun i H v H' _ q y => ?_⟩
  · have h1 : i < xs.length := by omega
    have h2 : i < ys.length := by omega
    exact ⟨xs, ys, xs[i], ys[i], q.1, q.2, by simp [h1], by simp [h2]⟩
  · exact ⟨xs, ys, q.1, q.2, Nat.min_le_left _ _, Nat.min_le_right _ _, by omega⟩
  · obtain ⟨T, x, y, h1, h2, h3, h4, h5⟩ := y
    exact ⟨T, x, y, h1, h2, h3, h4 xs q.1, h5 ys q.2⟩
def zipD : List D → List D → List D
  | d :: ds, e :: es => .tup [d, e] :: zipD ds es
  | _, _ => []
theorem zipD_get : ∀ (ds es : List D) (i : Nat), (zipD ds es)[i]? = (ds[i]?).bind fun d => (es[i]?).map fun e => .tup [d, e]
  | [], _, _ => by simp [zipD]
  | _ :: _, [], i => by simp [zipD]
  | d :: ds, e :: es, 0 => by simp [zipD]
  | d :: ds, e :: es, i + 1 => by simpa [zipD] using zipD_get ds es i
theorem zipD_len : ∀ (ds es : List D), (zipD ds es).length = min ds.length es.length
  | [], _ => by simp [zipD]
  | _ :: _, [] => by simp [zipD]
  | d :: ds, e :: es => by simp only [zipD, List.length_cons, zipD_len ds es]; omega
def cZip (f g : M D) : M (List D) := bnd f fun d => bnd g fun e => fun ρ => opt ((seqD d).bind fun ds => (seqD e).map fun es => zipD ds es) ρ
theorem seq_K {K : PySem.W.Frag} {H Hh : Hp} {d : D} {ds : List D} {v : V} (e : seqD d = some ds) (r : Rep K Hh d v) : ∃ t a vs, v = .ref a ∧ RepL K Hh ds vs ∧ ∀ H2, Inc Hh H2 → SqK K t H2 a vs := by
  cases d with
  | lst xs =>
    cases e
    obtain ⟨a, vs, rfl, h1, h2⟩ := r
    exact ⟨false, a, vs, rfl, h2, fun H2 i => .inl (.inl (i a _ h1))⟩
  | rls xs =>
    cases e
    obtain ⟨a, vs, rfl, h1, h2⟩ := r
    exact ⟨false, a, vs, rfl, h2, fun H2 i => Inc.sl i h1⟩
  | tup xs =>
    cases e
    obtain ⟨a, vs, rfl, h1, h2⟩ := r
    exact ⟨true, a, vs, rfl, h2, fun H2 i => Inc.st i h1⟩
  | _ => cases e
theorem itOk_zipV {K : PySem.W.Frag} {Hh : Hp} {J : It} {vs us : List V} {ds es : List D} {G : Hp → Prop} (hw : Walk J (min vs.length us.length) G (YPair (fun i => vs[i]?) (fun i => us[i]?))) (hg : ∀ H2, Inc Hh H2 → G H2) (r : RepL K Hh ds vs) (q : RepL K Hh es us) : ItOk K Hh J (zipD ds es) :=
  ⟨G, YPair (fun i => vs[i]?) (fun i => us[i]?), by rw [zipD_len, ← r.length, ← q.length]; exact hw, hg, fun i d H2 x H3 e _ y => by
    rw [zipD_get] at e
    obtain ⟨T, u, v, h1, h2, h3, h4, h5⟩ := y
    obtain ⟨d1, g1, g2⟩ := r.getV h4
    obtain ⟨d2, g3, g4⟩ := q.getV h5
    rw [g1, g3] at e
    cases e
    exact .inr ⟨T, _, _, h1, h2, h3, rfl, RepL.cons g2 (RepL.cons g4 RepL.nil)⟩⟩
theorem i_zip {X : Cx} {W : WX} {elts : List Expr} {kk : Nat} {tpos p pos : Pos} {a b : Expr} {f g : M D} (hm : X.mg "zip" = none) (h : SD X W a f) (h2 : SD X W b g) (hg : Gl X "zip" := by rfl) (hs : starEach [a, b] X.env = (false, eval a X.env) :: starEach [b] X.env := by rfl) (hs2 : Na b X := by rfl) (hpl : (backTo pos (starEach [b] X.env)).any (·.1) = false := by rfl) : SI X W (.Tuple elts kk tpos) (.Call (.Name "zip" p) [a, b] [] pos) (cZip f g) := by
  obtain ⟨t, pe, s⟩ := h
  obtain ⟨t2, pe2, s2⟩ := h2
  refine ⟨_, pi_zipK hg hm (pa_cons pe (pa_cons pe2 pa_nil hs2) hs) hs hpl, fun B Z env σ H Q k q => s B Z env σ H _ k ?_⟩
  unfold cZip at q
  cases e1 : f env with
  | fail => rw [bnd_fail e1] at q; exact q
  | ex x ρ => rw [bnd_ex e1] at q; exact q
  | ok d ρ =>
    rw [bnd_ok e1] at q
    intro v H1 k1 f1 r1
    refine s2 B Z ρ σ H1 _ k1 ?_
    cases e2 : g ρ with
    | fail => rw [bnd_fail e2] at q; exact q
    | ex x ρ2 => rw [bnd_ex e2] at q; exact fun c d H' k' f' w => q c d H' k' (f1.trans f') w
    | ok d2 ρ2 =>
      rw [bnd_ok e2] at q
      intro v2 H2 k2 f2 r2
      cases e3 : seqD d with
      | none => simp only [e3, Option.bind_none, opt] at q; exact q.elim
      | some ds =>
        cases e4 : seqD d2 with
        | none => simp only [e3, e4, Option.bind_some, Option.map_none, opt] at q; exact q.elim
        | some es =>
          simp only [e3, e4, Option.bind_some, Option.map_some, opt] at q
          obtain ⟨ta, a1, vs, rfl, ra, ka⟩ := seq_K (H := H1) e3 (r1.mono f2.inc)
          obtain ⟨tb, b1, us, rfl, rb, kb⟩ := seq_K (H := H1) e4 r2
          exact ⟨ta, tb, a1, b1, vs, us, rfl, ka _ hid_inc, kb _ hid_inc, q _ H2 k2 (f1.trans f2) (itOk_zipV walk_zipK (fun H3 i => ⟨ka _ i, kb _ i⟩) ra rb)⟩
theorem w_zip {f g : M D} {ρ : Env} {E : Exc → Env → Prop} {Q : List D → Env → Prop} : wp (cZip f g) ρ Q E = wp f ρ (fun d ρ1 => wp g ρ1 (fun e ρ2 => oK (seqD d) fun ds => oK (seqD e) fun es => Q (zipD ds es) ρ2) E) E := by
  unfold cZip
  rw [w_bnd]
  refine wp_ext fun d ρ1 => ?_
  rw [w_bnd]
  refine wp_ext fun e ρ2 => ?_
  rw [w_opt]
  cases seqD d with
  | none => rfl
  | some ds => cases seqD e <;> rfl
end RF

/-! RF16: is of bools, rows turned about, str of an int, sorted texts and ints. -/
namespace RF
open PySem PySem.Spec PyProof.Rows L2
/-! is True, is False -/
def dIsB (neg : Bool) : D → D → Option RV
  | .bl a, .bl b => some (.va (.bl (if neg then !(a == b) else a == b)))
  | _, _ => none
section
variable {X : Cx}
theorem k_isB : CmpOk X .Is (dIsB false) := ⟨_, op_is_bl, by
  intro B Z env σ H x y d e rv Q k rx ry hd q
  cases d with
  | bl a =>
    cases e with
    | bl b =>
      cases hd
      refine ⟨a, b, rx, ry, ?_⟩
      have := fin_va (d := .bl (a == b)) k rfl q
      cases a <;> cases b <;> exact this
    | _ => cases hd
  | _ => cases hd⟩
theorem k_isnotB : CmpOk X .IsNot (dIsB true) := ⟨_, op_isnot_bl, by
  intro B Z env σ H x y d e rv Q k rx ry hd q
  cases d with
  | bl a =>
    cases e with
    | bl b =>
      cases hd
      refine ⟨a, b, rx, ry, ?_⟩
      have := fin_va (d := .bl (!(a == b))) k rfl q
      cases a <;> cases b <;> exact this
    | _ => cases hd
  | _ => cases hd⟩
end
/-! str of an int -/
theorem strOk_of (s : String) : PyData.strOk (Str.ofString s) = true := by
  rw [PySem.Str.ofString_eq_toList]
  unfold PyData.strOk
  simp only [List.all_toArray, List.all_map, List.all_eq_true, Function.comp, decide_eq_true_eq]
  intro c hc
  rcases c.valid with h | ⟨_, h⟩
  · have h' : c.toNat < 0xd800 := h
    omega
  · exact h
def dStr : List D → Option RV
  | [.int i] => if i.natAbs.log2 < 1920 then some (.va (.str (Str.ofString (toString i)))) else none
  | _ => none
theorem okStr {K : PySem.W.Frag} : CallOk K (fun xs H Q => ∃ i, xs = [.int i] ∧ i.natAbs.log2 < 1920 ∧ Q (.str (toString i)) H) dStr := by
  intro B Z env σ H vs ds rv Q k rs hd q
  match ds, hd with
  | [.int i], hd =>
    obtain ⟨v, rfl, h⟩ := rs.one
    by_cases hz : i.natAbs.log2 < 1920
    · simp only [dStr, if_pos hz] at hd
      cases hd
      exact ⟨i, by rw [show v = V.int i from h], hz, fin_va (d := .str _) k ⟨rfl, strOk_of _⟩ q⟩
    · simp only [dStr, if_neg hz] at hd
      cases hd
theorem e_strc {X : Cx} {W : WX} {p pos : Pos} {a : Expr} {oa : Op} (hm : X.mg "str" = none) (ha : SO X W a oa) (hg : Gl X "str" := by rfl) (hs : Na a X := by rfl) : SE X W (.Call (.Name "str" p) [a] [] pos) (cCB dStr [oa]) :=
  e_callTy call_str_int okStr (by decide +kernel) hm (a_cons ha a_nil hs) hg (by decide) (by decide) hs rfl
/-! sorted -/
def leS (a b : Str) : Bool := !ltCps b.cps.toList a.cps.toList
def insS (x : Str) : List Str → List Str
  | [] => [x]
  | y :: r => if leS x y then x :: y :: r else y :: insS x r
def sortSs : List Str → List Str
  | [] => []
  | x :: r => insS x (sortSs r)
def insI (x : Int) : List Int → List Int
  | [] => [x]
  | y :: r => if x ≤ y then x :: y :: r else y :: insI x r
def sortIs : List Int → List Int
  | [] => []
  | x :: r => insI x (sortIs r)
theorem leS_iff {a b : Str} : leS a b = true ↔ ¬ (b.cps.toList < a.cps.toList) := by
  unfold leS
  rw [ltCps_eq]
  simp
theorem leS_total {a b : Str} (h : leS a b = false) : leS b a = true := by
  have h' : ¬ leS a b = true := by rw [h]; simp
  rw [leS_iff] at h' ⊢
  intro h2
  exact h' (fun h3 => absurd (List.lt_trans h2 h3) (List.lt_irrefl _))
theorem leS_trans {a b c : Str} (h : leS a b = true) (k : leS b c = true) : leS a c = true := by
  rw [leS_iff] at *
  have h' : a.cps.toList ≤ b.cps.toList := h
  have k' : b.cps.toList ≤ c.cps.toList := k
  exact List.le_trans h' k'
theorem leS_anti {a b : Str} (h : leS a b = true) (k : leS b a = true) : a = b := by
  rw [leS_iff] at *
  have h' : a.cps.toList ≤ b.cps.toList := h
  have k' : b.cps.toList ≤ a.cps.toList := k
  have := List.le_antisymm h' k'
  cases a
  cases b
  simp only at this
  congr
  exact Array.toList_inj.mp this
theorem insS_perm (x : Str) : ∀ r : List Str, (insS x r).Perm (x :: r)
  | [] => .refl _
  | y :: r => by
    unfold insS
    split
    · exact .refl _
    · exact ((insS_perm x r).cons y).trans (.swap x y r)
theorem sortSs_perm : ∀ r : List Str, (sortSs r).Perm r
  | [] => .refl _
  | x :: r => (insS_perm x _).trans ((sortSs_perm r).cons x)
theorem insS_sorted (x : Str) : ∀ r : List Str, r.Pairwise (leS · · = true) → (insS x r).Pairwise (leS · · = true)
  | [], _ => by simp [insS]
  | y :: r, h => by
    rw [List.pairwise_cons] at h
    unfold insS
    split
    · rename_i hxy
      rw [List.pairwise_cons, List.pairwise_cons]
      refine ⟨fun z hz => ?_, h.1, h.2⟩
      rcases List.mem_cons.mp hz with rfl | hz
      · exact hxy
      · exact leS_trans hxy (h.1 z hz)
    · rename_i hxy
      rw [List.pairwise_cons]
      refine ⟨fun z hz => ?_, insS_sorted x r h.2⟩
      rcases List.mem_cons.mp ((insS_perm x r).mem_iff.mp hz) with rfl | hz
      · exact leS_total (by simpa using hxy)
      · exact h.1 z hz
theorem sortSs_sorted : ∀ r : List Str, (sortSs r).Pairwise (leS · · = true)
  | [] => .nil
  | x :: r => insS_sorted x _ (sortSs_sorted r)
theorem rising_pw : ∀ (r : List Str) (p : Str), risingS p r = true → (p :: r).Pairwise (leS · · = true)
  | [], p, _ => by simp
  | x :: r, p, h => by
    simp only [risingS, Bool.and_eq_true] at h
    have ih := rising_pw r x h.2
    have hpx : leS p x = true := h.1
    rw [List.pairwise_cons]
    refine ⟨fun z hz => ?_, ih⟩
    rcases List.mem_cons.mp hz with rfl | hz
    · exact hpx
    · exact leS_trans hpx ((List.pairwise_cons.mp ih).1 z hz)
theorem sortedS_eq {xs ys : List Str} (hp : ys.Perm xs) (hs : sortedS ys = true) : ys = sortSs xs := by
  have h1 : ys.Pairwise (leS · · = true) := by
    cases ys with
    | nil => exact .nil
    | cons y r => exact rising_pw r y hs
  exact (hp.trans (sortSs_perm xs).symm).eq_of_pairwise (fun a b _ _ h k => leS_anti h k) h1 (sortSs_sorted xs)
theorem insI_perm (x : Int) : ∀ r : List Int, (insI x r).Perm (x :: r)
  | [] => .refl _
  | y :: r => by
    unfold insI
    split
    · exact .refl _
    · exact ((insI_perm x r).cons y).trans (.swap x y r)
theorem sortIs_perm : ∀ r : List Int, (sortIs r).Perm r
  | [] => .refl _
  | x :: r => (insI_perm x _).trans ((sortIs_perm r).cons x)
theorem insI_sorted (x : Int) : ∀ r : List Int, r.Pairwise (· ≤ ·) → (insI x r).Pairwise (· ≤ ·)
  | [], _ => by simp [insI]
  | y :: r, h => by
    rw [List.pairwise_cons] at h
    unfold insI
    split
    · rename_i hxy
      rw [List.pairwise_cons, List.pairwise_cons]
      refine ⟨fun z hz => ?_, h.1, h.2⟩
      rcases List.mem_cons.mp hz with rfl | hz
      · exact hxy
      · exact Int.le_trans hxy (h.1 z hz)
    · rename_i hxy
      rw [List.pairwise_cons]
      refine ⟨fun z hz => ?_, insI_sorted x r h.2⟩
      rcases List.mem_cons.mp ((insI_perm x r).mem_iff.mp hz) with rfl | hz
      · omega
      · exact h.1 z hz
theorem sortIs_sorted : ∀ r : List Int, (sortIs r).Pairwise (· ≤ ·)
  | [] => .nil
  | x :: r => insI_sorted x _ (sortIs_sorted r)
theorem sortedI_eq {xs ys : List Int} (hp : ys.Perm xs) (hs : ys.Pairwise (· ≤ ·)) : ys = sortIs xs :=
  (hp.trans (sortIs_perm xs).symm).eq_of_pairwise (fun a b _ _ h k => Int.le_antisymm h k) hs (sortIs_sorted xs)
def strsD : List D → Option (List Str)
  | [] => some []
  | .str b :: ds => (strsD ds).map (b :: ·)
  | _ :: _ => none
theorem strs_rep {K : PySem.W.Frag} {H : Hp} : ∀ {ds : List D} {xs : List Str} {vs : List V}, strsD ds = some xs → RepL K H ds vs → vs = xs.map V.str ∧ ∀ x ∈ xs, PyData.strOk x = true
  | [], xs, vs, e, r => by
    cases e
    exact ⟨r, by simp⟩
  | .str b :: ds, xs, vs, e, ⟨v, w, e2, r1, r2⟩ => by
    simp only [strsD] at e
    cases e3 : strsD ds with
    | none => rw [e3] at e; cases e
    | some ys =>
      rw [e3] at e
      cases e
      obtain ⟨a, b2⟩ := strs_rep e3 r2
      exact ⟨by rw [e2, a, r1.1]; rfl, fun x hx => by
        rcases List.mem_cons.mp hx with rfl | hx
        · exact r1.2
        · exact b2 x hx⟩
theorem rep_strs {K : PySem.W.Frag} {H : Hp} : ∀ {xs : List Str}, (∀ x ∈ xs, PyData.strOk x = true) → RepL K H (xs.map D.str) (xs.map V.str)
  | [], _ => rfl
  | x :: xs, h => ⟨_, _, rfl, ⟨rfl, h x List.mem_cons_self⟩, rep_strs fun y hy => h y (List.mem_cons_of_mem _ hy)⟩
def seqL : D → Option (List D)
  | .lst ds => some ds
  | .rls ds => some ds
  | _ => none
def dSorted : List D → Option RV
  | [d] => match seqL d with
    | some ds => if ds.length < 64 then
        match intsD ds with
        | some ns => some (.ow (.lst ((sortIs ns).map D.int)))
        | none => (strsD ds).map fun xs => .ow (.lst ((sortSs xs).map D.str))
      else none
    | none => none
  | _ => none
theorem RepT.sqL {K : PySem.W.Frag} {H Hh : Hp} (i : Inc Hh H) {d : D} {v : V} {ds : List D} (e : seqL d = some ds) (h : RepT K H Hh d v) : ∃ a vs, v = .ref a ∧ SqL K H a vs ∧ RepL K Hh ds vs := by
  cases d with
  | lst es => cases e; obtain ⟨a, vs, h1, h2, h3⟩ := h; exact ⟨a, vs, h1, .inl (.inl h2), h3⟩
  | rls es => cases e; obtain ⟨a, vs, h1, h2, h3⟩ := h; exact ⟨a, vs, h1, Inc.sl i h2, h3⟩
  | _ => cases e
theorem okSorted {K : PySem.W.Frag} : CallOk K (fun xs H Q => rSorted K xs H Q ∨ rSortedS K xs H Q) dSorted := by
  intro B Z env σ H vs ds rv Q k rs hd q
  match ds, hd with
  | [d], hd =>
    obtain ⟨v, rfl, h⟩ := rs.one
    simp only [dSorted] at hd
    cases e : seqL d with
    | none => simp only [e] at hd; cases hd
    | some es =>
      simp only [e] at hd
      obtain ⟨a, ws, rfl, hs, hl⟩ := RepT.sqL hid_inc e h
      by_cases hz : es.length < 64
      · rw [if_pos hz] at hd
        cases e2 : intsD es with
        | some ns =>
          simp only [e2] at hd
          cases hd
          have ew := hl.intsOf e2
          subst ew
          have hn : ns.length < 64 := by have := hl.length; rw [List.length_map] at this; omega
          refine .inl ⟨a, ns, rfl, hs, hn, fun ns' p hp ho hf => ?_⟩
          rw [sortedI_eq hp ho]
          exact fin_lst k (RepL.ints _) q p hf
        | none =>
          simp only [e2] at hd
          cases e3 : strsD es with
          | none => simp only [e3, Option.map_none] at hd; cases hd
          | some xs =>
            simp only [e3, Option.map_some] at hd
            cases hd
            obtain ⟨ew, ok⟩ := strs_rep e3 hl
            subst ew
            have hn : xs.length < 64 := by have := hl.length; rw [List.length_map] at this; omega
            refine .inr ⟨a, xs, rfl, hs, hn, fun ys p hp ho hf => ?_⟩
            rw [sortedS_eq hp ho]
            exact fin_lst k (rep_strs fun x hx => ok x ((sortSs_perm xs).mem_iff.mp hx)) q p hf
      · rw [if_neg hz] at hd
        cases hd
theorem e_sorted {X : Cx} {W : WX} {p pos : Pos} {a : Expr} {oa : Op} (hm : X.mg "sorted" = none) (ha : SO X W a oa) (hg : Gl X "sorted" := by rfl) (hs : Na a X := by rfl) : SE X W (.Call (.Name "sorted" p) [a] [] pos) (cCB dSorted [oa]) :=
  e_callB (cr_sorted.or cr_sortedS) okSorted (by decide +kernel) hm (a_cons ha a_nil hs) hg (by decide) (by decide) hs rfl
/-! rows turned about -/
section
variable {prog : Program} {w : World} {A : Around} {E : Value → Shared → Prop} {s : Shared}
theorem adjust_rev (n : Nat) : Builtin.Slice.sliceAdjust none none (-1) (n : Int) = ((n : Int) - 1, -1) := by
  unfold Builtin.Slice.sliceAdjust
  have h1 : ((-1 : Int) < 0) := by omega
  simp only [h1, if_true]
theorem places_rev (n : Nat) : Builtin.Slice.slicePlaces ((n : Int) - 1) (-1) (-1) = n := by
  unfold Builtin.Slice.slicePlaces
  have h1 : ¬ ((-1 : Int) > 0) := by omega
  have h2 : (- -1 : Int) = 1 := by decide
  simp only [h1, if_false, h2, Int.ediv_one]
  split <;> omega
theorem sliceApplied_rev {sl : Addr} {vs : Value} {n : Nat} {Q : Int × Int × Nat → Shared → Prop} (hs : s.heap.IsSliceOf sl .none .none vs) (ps : IsPart vs (some (-1)))
    (h : Q ((n : Int) - 1, -1, n) s) : wpAny (model prog w) A (Builtin.Slice.sliceApplied (.ref sl) (pure (n : Int))) Q E s := by
  obtain ⟨os, hos, hcs, hds⟩ := id hs
  unfold Builtin.Slice.sliceApplied Builtin.Slice.sliceFields
  refine wpAny_bind (wpAny_bind (wpAny_field hos hds (x := .none) rfl (wpAny_bind (wpAny_field hos hds (x := .none) rfl (wpAny_bind (wpAny_field hos hds (x := vs) rfl (wpAny_pure ?_)))))))
  refine wpAny_bind (HT.slicePart_ ps ?_)
  show wpAny _ _ (if ((-1 : Int) == 0) = true then _ else _) _ _ s
  rw [if_neg (by decide)]
  refine wpAny_bind (slicePart_none (wpAny_bind (slicePart_none (wpAny_bind (wpAny_pure ?_)))))
  show wpAny _ _ (match Builtin.Slice.sliceAdjust none none (-1) (n : Int) with | (lo, hi) => pure (lo, (-1 : Int), Builtin.Slice.slicePlaces lo hi (-1))) _ _ s
  rw [adjust_rev n]
  show wpAny _ _ (pure ((n : Int) - 1, (-1 : Int), Builtin.Slice.slicePlaces ((n : Int) - 1) (-1) (-1))) _ _ s
  rw [places_rev]
  exact wpAny_pure h
theorem fm_congr {α β : Type} {f g : α → Option β} : ∀ {l : List α}, (∀ a ∈ l, f a = g a) → l.filterMap f = l.filterMap g
  | [], _ => rfl
  | a :: l, h => by
    rw [List.filterMap_cons, List.filterMap_cons, h a List.mem_cons_self, fm_congr fun b hb => h b (List.mem_cons_of_mem _ hb)]
theorem pick_rev (xs : Array Value) : ((List.range xs.size).filterMap fun (m : Nat) => xs[((xs.size : Int) - 1 + (m : Int) * (-1)).toNat]?).toArray = xs.toList.reverse.toArray := by
  have e : (List.range xs.size).filterMap (fun (m : Nat) => xs[((xs.size : Int) - 1 + (m : Int) * (-1)).toNat]?) = ((List.range xs.size).map fun k => xs.size - 1 - k).filterMap (xs[·]?) := by
    rw [List.filterMap_map]
    refine fm_congr fun m hm => ?_
    have := List.mem_range.mp hm
    have e2 : ((xs.size : Int) - 1 + (m : Int) * (-1)).toNat = xs.size - 1 - m := by omega
    rw [e2]
    rfl
  rw [e, PySem.W.krv_range, List.filterMap_reverse, PySem.W.krv_all]
theorem getItem_tuple_rev {t sl : Addr} {items : Array Value} {vs : Value} {Q : Value → Shared → Prop} (ht : IsTup s.heap t items) (hs : s.heap.IsSliceOf sl .none .none vs) (ps : IsPart vs (some (-1)))
    (h : Q (.ref s.heap.objs.size) { s with heap := s.heap.push { cls := .type "tuple", data := .seq items.toList.reverse.toArray } })
    (hsz : items.size ≤ sizeLine) : wpAny (model prog w) A (getItem (.ref t) (.ref sl)) Q E s := by
  have htake : sizeOk (.seq items.toList.reverse.toArray) := by
    show items.toList.reverse.toArray.size ≤ sizeLine
    rw [List.size_toArray, List.length_reverse, Array.length_toList]
    exact hsz
  obtain ⟨os, hos, hcs, hds⟩ := id hs
  have hTs : s.TypeIs (.ref sl) "slice" := ⟨os, hos, hcs⟩
  unfold getItem
  try with_reducible refine wpAny_holding ?_
  first | refine wpAny_bind (wpAny_pure ?_) | skip
  refine wpAny_bind (wpAny_sequenceKey ht.typeIs (by decide) ?_)
  refine wpAny_bind (wpAny_callSpecial?_slot (name := Str.ofString "__getitem__") ht.typeIs PyProof.Rows.slot_tuple_getitem
    (wpAny_call_entry PyProof.Rows.slot_tuple_getitem ht.typeIs entry_tuple_getitem ?_ (args_tuple_getitem _ _)))
  show wpAny _ _ (Builtin.Tuple.tupleItemsOf (.ref t) >>= _) _ _ s
  refine wpAny_bind (tupleItemsOf_ ht ?_)
  refine wpAny_bind (wpAny_typeOf hTs ?_)
  rw [if_pos (by decide)]
  refine wpAny_bind (sliceApplied_rev hs ps ?_)
  have hno : ¬ ((((items.size : Int) - 1) == 0 && (-1 : Int) == 1 && items.size == items.size) = true) := by
    rw [show ((-1 : Int) == 1) = false by decide]
    simp
  show wpAny _ _ (if (((items.size : Int) - 1) == 0 && (-1 : Int) == 1 && items.size == items.size) = true then _ else _) _ _ s
  rw [if_neg hno, pick_rev]
  first
    | exact wpAny_bind (m := Builtin.Tuple.tupleExact _) (wpAny_newObj_type (wpAny_pure ⟨_, rfl, wpAny_pure h⟩) htake)
    | exact wpAny_bind (m := Builtin.Tuple.tupleExact _) (wpAny_newObj_type (wpAny_bind (wpAny_pure (wpAny_pure ⟨_, rfl, wpAny_pure h⟩))) htake)
    | exact wpAny_bind (wpAny_bind (m := Builtin.Tuple.tupleExact _) (wpAny_newObj_type (wpAny_pure (wpAny_pure ⟨_, rfl, wpAny_pure h⟩)) htake))
    | exact wpAny_bind (wpAny_bind (m := Builtin.Tuple.tupleExact _) (wpAny_newObj_type (wpAny_pure ⟨_, rfl, wpAny_pure h⟩) htake))
end
def tRevT (K : PySem.W.Frag) (te : TE) : TE := fun σ H Q => te σ H fun x H1 => ∃ a xs, x = .ref a ∧ SqT K H1 a xs ∧ ∀ p, H1 p = none → Q (.ref p) (upd H1 p (.tup xs.reverse))
def tRevA (K : PySem.W.Frag) (te : TE) : TE := fun σ H Q => te σ H fun x H1 => ∃ a xs, x = .ref a ∧ ((SqL K H1 a xs ∧ ∀ p, H1 p = none → Q (.ref p) (upd H1 p (.lst xs.reverse))) ∨ (SqT K H1 a xs ∧ ∀ p, H1 p = none → Q (.ref p) (upd H1 p (.tup xs.reverse))))
theorem pe_revA {X : Cx} {e : Expr} {te : TE} {k : Nat} {p1 p2 p3 pos : Pos} (he : PE X e te) : PE X (.Subscript e (.Slice none none (some (.UnaryOp .USub (.Constant (.int 1) k p1) p2)) p3) pos) (tRevA X.K te) := by
  refine ⟨fun pins s σ H Q I h => ?_⟩
  refine Subscript_ (thn (he.run pins s σ H _ I h) fun v s1 ⟨x, H1, I1, r1, q1⟩ => ?_)
  obtain ⟨a, xs, ex, q⟩ := q1
  subst ex
  cases r1
  have hst : PO X (some (.UnaryOp .USub (.Constant (.int 1) k p1) p2)) (tPart (tUn (rU fun i => .int (-i)) (tC (.int 1)))) := po_some (pe_un un_neg pe_int)
  refine wpAny_Slice (thn (po_none.run pins s1 σ H1 (fun o H2 => o = none ∧ H2 = H1) I1 ⟨rfl, rfl⟩) fun vl s2 ⟨l, H2, I2, pl, el, e2⟩ => ?_)
  subst el e2
  refine thn (po_none.run pins s2 σ H2 (fun o H3 => o = none ∧ H3 = H2) I2 ⟨rfl, rfl⟩) fun vu s3 ⟨u, H3, I3, pu, eu, e3⟩ => ?_
  subst eu e3
  refine thn (hst.run pins s3 σ H3 (fun o H4 => o = some (-1) ∧ H4 = H3) I3 ⟨1, rfl, -1, rfl, rfl, rfl⟩) fun vs s4 ⟨o, H4, I4, ps, eo, e4⟩ => ?_
  subst eo e4
  have I5 : Inv X pins σ H4 { s4 with heap := s4.heap.push { cls := .type "slice", data := .fields #[vl, vu, vs] } } := I4.kept (t' := s4.toks) fun b ob q => Heap.get?_push_of_some _ q
  show wpAny (model X.prog X.w) X.A (subscriptTail e (.Slice none none (some (.UnaryOp .USub (.Constant (.int 1) k p1) p2)) p3) (.ref a) (.ref s4.heap.objs.size)) (EP X pins σ Q) X.xe { s4 with heap := s4.heap.push { cls := .type "slice", data := .fields #[vl, vu, vs] } }
  cases pl
  cases pu
  rcases q with ⟨hx, q⟩ | ⟨hx, q⟩
  · obtain ⟨its, r, ht, hz⟩ := I5.list hx
    have hlen := r.length
    refine tail_any (ops := [.ref a, .ref s4.heap.objs.size]) ht.isList.typeIs (PySem.slot_list_getitem.lookup) ?_ (by with_unfolding_all rfl)
    refine wpAny_getItem_list_slice ht.isList (Heap.IsSliceOf.new _ .none .none vs) .none .none ps (by decide) ?_ (by rw [List.size_toArray]; omega)
    rw [PySem.W.krv_pick]
    refine ⟨.ref _, _, I5.laid (t' := s4.toks) (o := .lst xs.reverse) (fun b ob q => Heap.get?_push_of_some _ q) (Nat.le_refl _) ?_, rfl, q _ (I5.hok.fresh (Nat.le_refl _))⟩
    exact ⟨by rw [List.length_reverse]; exact hz, _, 0, r.reverse, Heap.get?_push_size _ rfl⟩
  · obtain ⟨its, r, ht, hz⟩ := I5.tuple hx
    have hlen := r.length
    refine tail_any (ops := [.ref a, .ref s4.heap.objs.size]) ht.typeIs (PyProof.Rows.slot_tuple_getitem.lookup) ?_ (by with_unfolding_all rfl)
    refine getItem_tuple_rev ht (Heap.IsSliceOf.new _ .none .none vs) ps ?_ (by rw [List.size_toArray]; omega)
    refine ⟨.ref _, _, I5.laid (t' := s4.toks) (o := .tup xs.reverse) (fun b ob q => Heap.get?_push_of_some _ q) (Nat.le_refl _) ?_, rfl, q _ (I5.hok.fresh (Nat.le_refl _))⟩
    exact ⟨by rw [List.length_reverse]; exact hz, _, r.reverse, IsTup.new _ _⟩
def dRev : D → Option RV
  | .lst ds => some (.ow (.lst ds.reverse))
  | .rls ds => some (.ow (.lst ds.reverse))
  | .tup ds => some (.va (.tup ds.reverse))
  | _ => none
def cRev (f : M D) : M RV := bnd f fun d => fun ρ => opt (dRev d) ρ
theorem RepL.rev {K : PySem.W.Frag} {H : Hp} : ∀ {ds : List D} {vs : List V}, RepL K H ds vs → RepL K H ds.reverse vs.reverse
  | [], vs, h => by rw [show vs = [] from h]; rfl
  | d :: ds, _, ⟨v, r, e, h, t⟩ => by
    subst e
    rw [List.reverse_cons, List.reverse_cons]
    exact (RepL.rev t).append ⟨v, [], rfl, h, rfl⟩
theorem e_rev {X : Cx} {W : WX} {e : Expr} {f : M D} {k : Nat} {p1 p2 p3 pos : Pos} (h : SD X W e f) : SE X W (.Subscript e (.Slice none none (some (.UnaryOp .USub (.Constant (.int 1) k p1) p2)) p3) pos) (cRev f) := by
  obtain ⟨t, p, s⟩ := h
  refine ⟨_, pe_revA p, fun B Z env σ H Q k q => s B Z env σ H _ k ?_⟩
  unfold cRev at q
  cases e1 : f env with
  | fail => rw [bnd_fail e1] at q; exact q
  | ex x ρ => rw [bnd_ex e1] at q; exact q
  | ok d ρ =>
    rw [bnd_ok e1] at q
    intro v H1 k1 f1 r1
    cases d with
    | lst ds =>
      obtain ⟨a, vs, rfl, h1, h2⟩ := r1
      exact ⟨a, vs, rfl, .inl ⟨.inl (.inl (hid_inc a _ h1)), fin_lst k1 h2.rev fun v' H' k' f' r' => q v' H' k' (f1.trans f') r'⟩⟩
    | rls ds =>
      obtain ⟨a, vs, rfl, h1, h2⟩ := r1
      exact ⟨a, vs, rfl, .inl ⟨Inc.sl hid_inc h1, fin_lst k1 h2.rev fun v' H' k' f' r' => q v' H' k' (f1.trans f') r'⟩⟩
    | tup ds =>
      obtain ⟨a, vs, rfl, h1, h2⟩ := r1
      exact ⟨a, vs, rfl, .inr ⟨Inc.st hid_inc h1, fin_tup k1 h2.rev fun v' H' k' f' r' => q v' H' k' (f1.trans f') r'⟩⟩
    | _ => exact q.elim
theorem w_rev {f : M D} {ρ : Env} {E : Exc → Env → Prop} {Q : RV → Env → Prop} : wp (cRev f) ρ Q E = wp f ρ (fun d ρ1 => oK (dRev d) fun rv => Q rv ρ1) E := by
  unfold cRev
  rw [w_bnd]
  exact wp_ext fun d ρ1 => w_opt
end RF

namespace K00
open PySem PySem.Spec PyProof.Rows L2 RF
def topS (i : Nat) : Stmt := PySem.Challenge.pw_testsenough_k00_is_test.main.body.getD i (.Pass ⟨0, 0, 0, 0⟩)
abbrev st_is_integer : Stmt := topS 1
abbrev N_is_integer : List Str := ["datum"]
theorem sc_is_integer : FnScope N_is_integer ["datum"] (defScope st_is_integer) := ⟨rfl, rfl, rfl, by decide +kernel, rfl, by decide +kernel, by decide +kernel⟩
def b_is_integer : M Fl :=
  (cRet (cV (cAndV (cD (cIsi "int" (.lv 0))) (cD (cNot (.ev (cD (cIsi "bool" (.lv 0)))))))))
def F_is_integer : M RV := runF 1 b_is_integer
abbrev st_is_tuple : Stmt := topS 2
abbrev N_is_tuple : List Str := ["datum", "many"]
theorem sc_is_tuple : FnScope N_is_tuple ["datum", "many"] (defScope st_is_tuple) := ⟨rfl, rfl, rfl, by decide +kernel, rfl, by decide +kernel, by decide +kernel⟩
def b_is_tuple : M Fl :=
  (cRet (cV (cAndV (cD (cIsi "tuple" (.lv 0))) (cD (cOp dEq (.ev (cD (cCB dLen [(.lv 0)]))) (.lv 1))))))
def F_is_tuple : M RV := runF 2 b_is_tuple
abbrev st_proc_named : Stmt := topS 4
abbrev N_proc_named : List Str := ["core", "name", "proc"]
theorem sc_proc_named : FnScope N_proc_named ["core", "name"] (defScope st_proc_named) := ⟨rfl, rfl, rfl, by decide +kernel, rfl, by decide +kernel, by decide +kernel⟩
def b_proc_named : M Fl :=
  (cRet (cOp dIx (.ev (cD (cLc [2] (tgN 2) (cIt (cD (cVar 0))) (cB (cOp dEq (.ev (cD (cOp dIx (.lv 2) (.ev (cD (cC (.int 0))))))) (.lv 1))) (cD (cVar 2))))) (.ev (cD (cC (.int 0))))))
def F_proc_named : M RV := runF 3 b_proc_named
abbrev st_are_integers : Stmt := topS 6
abbrev N_are_integers : List Str := ["datum", "number"]
theorem sc_are_integers : FnScope N_are_integers ["datum"] (defScope st_are_integers) := ⟨rfl, rfl, rfl, by decide +kernel, rfl, by decide +kernel, by decide +kernel⟩
def b_are_integers : M Fl :=
  (cRet (cV (cAndV (cD (cIsi "tuple" (.lv 0))) (cD (cCB dAll [(.ev (cD (cLc [1] (tgN 1) (cIt (cD (cVar 0))) (fun ρ => .ok true ρ) (cD (cCall F_is_integer [(.ev (cD (cVar 1)))])))))])))))
def F_are_integers : M RV := runF 2 b_are_integers
abbrev st_is_value : Stmt := topS 7
abbrev N_is_value : List Str := ["datum", "kind"]
theorem sc_is_value : FnScope N_is_value ["datum", "kind"] (defScope st_is_value) := ⟨rfl, rfl, rfl, by decide +kernel, rfl, by decide +kernel, by decide +kernel⟩
def b_is_value : M Fl :=
  (cRet (cIf (cB (cOp dEq (.lv 1) (.ev (cD (cC (.str "array")))))) (cCall F_are_integers [(.ev (cD (cVar 0)))]) (cCall F_is_integer [(.ev (cD (cVar 0)))])))
def F_is_value : M RV := runF 2 b_is_value
abbrev st_is_test : Stmt := topS 8
abbrev N_is_test : List Str := ["core", "datum", "proc", "kinds", "item", "one", "kind", "items"]
theorem sc_is_test : FnScope N_is_test ["core", "datum"] (defScope st_is_test) := ⟨rfl, rfl, rfl, by decide +kernel, rfl, by decide +kernel, by decide +kernel⟩
def b_is_test : M Fl :=
  (cSeq (cIf (cOrT (cNotT (cT (.ev (cD (cCall F_is_tuple [(.ev (cD (cVar 1))), (.ev (cD (cC (.int 4))))]))))) (cB (cOp (dIn true) (.ev (cD (cOp dIx (.lv 1) (.ev (cD (cC (.int 0))))))) (.ev (cD (cLc [2] (tgN 2) (cIt (cD (cVar 0))) (fun ρ => .ok true ρ) (cD (cOp dIx (.lv 2) (.ev (cD (cC (.int 0)))))))))))) (cRet (cC (.bl false))) cNx)
    (cSeq (cAsg 2 (cCall F_proc_named [(.ev (cD (cVar 0))), (.ev (cD (cOp dIx (.lv 1) (.ev (cD (cC (.int 0)))))))]))
    (cSeq (cAsg 3 (cLc [4] (tgN 4) (cIt (cD (cOp dIx (.lv 2) (.ev (cD (cC (.int 1))))))) (fun ρ => .ok true ρ) (cD (cOp dIx (.lv 4) (.ev (cD (cC (.int 0))))))))
    (cSeq (cIf (cOrT (cNotT (cT (.ev (cD (cCall F_is_tuple [(.ev (cD (cOp dIx (.lv 1) (.ev (cD (cC (.int 1))))))), (.ev (cD (cCB dLen [(.lv 3)])))]))))) (cNotT (cT (.ev (cD (cCB dAll [(.ev (cD (cLc [5, 6] (tgT [(tgN 5), (tgN 6)]) (cZip (cD (cOp dIx (.lv 1) (.ev (cD (cC (.int 1)))))) (cD (cVar 3))) (fun ρ => .ok true ρ) (cD (cCall F_is_value [(.ev (cD (cVar 5))), (.ev (cD (cVar 6)))])))))])))))) (cRet (cC (.bl false))) cNx)
    (cSeq (cIf (cOrT (cNotT (cT (.ev (cD (cCall F_are_integers [(.ev (cD (cOp dIx (.lv 1) (.ev (cD (cC (.int 2)))))))]))))) (cB (cOp dNe (.ev (cD (cCB dLen [(.ev (cD (cOp dIx (.lv 1) (.ev (cD (cC (.int 2)))))))]))) (.ev (cD (cCB dLen [(.ev (cD (cOp dIx (.lv 2) (.ev (cD (cC (.int 2)))))))])))))) (cRet (cC (.bl false))) cNx)
    (cSeq (cIf (cNotT (cT (.ev (cD (cCall F_is_tuple [(.ev (cD (cOp dIx (.lv 1) (.ev (cD (cC (.int 3))))))), (.ev (cD (cCB dLen [(.ev (cD (cLc [6] (tgN 6) (cIt (cD (cVar 3))) (cB (cOp dEq (.lv 6) (.ev (cD (cC (.str "array")))))) (cD (cVar 6)))))])))]))))) (cRet (cC (.bl false))) cNx)
    (cRet (cCB dAll [(.ev (cD (cLc [7] (tgN 7) (cIt (cD (cOp dIx (.lv 1) (.ev (cD (cC (.int 3))))))) (fun ρ => .ok true ρ) (cD (cCall F_are_integers [(.ev (cD (cVar 7)))])))))]))))))))
def F_is_test : M RV := runF 8 b_is_test
abbrev st__law_start : Stmt := topS 10
abbrev N__law_start : List Str := ["script"]
theorem sc__law_start : FnScope N__law_start ["script"] (defScope st__law_start) := ⟨rfl, rfl, rfl, by decide +kernel, rfl, by decide +kernel, by decide +kernel⟩
def b__law_start : M Fl :=
  (cRet (cLst [(cD (cCB dList [(.lv 0)])), (cD (cC (.int 0))), (cD (cC (.int 0))), (cD (cC (.int 0)))]))
def F__law_start : M RV := runF 1 b__law_start
abbrev st__law_draw : Stmt := topS 11
abbrev N__law_draw : List Str := ["state", "most", "found", "cell", "mixed"]
theorem sc__law_draw : FnScope N__law_draw ["state", "most"] (defScope st__law_draw) := ⟨rfl, rfl, rfl, by decide +kernel, rfl, by decide +kernel, by decide +kernel⟩
def b__law_draw : M Fl :=
  (cSeq (cSetI 0 (cD (cOp dAdd (.ev (cD (cOp dIx (.lv 0) (.ev (cD (cC (.int 3))))))) (.ev (cD (cC (.int 1)))))) (cD (cC (.int 3))))
    (cSeq (cIf (cB (cOp dGt (.ev (cD (cOp dIx (.lv 0) (.ev (cD (cC (.int 2))))))) (.ev (cD (cC (.int 0)))))) (cSeq (cAsg 2 (cOp dMod (.ev (cD (cCB dInt [(.ev (cD (cOp dIx (.lv 0) (.ev (cD (cC (.int 2)))))))]))) (.lv 1)))
    (cSeq (cSetI 0 (cD (cOp dFdiv (.ev (cD (cOp dIx (.lv 0) (.ev (cD (cC (.int 2))))))) (.lv 1))) (cD (cC (.int 2))))
    (cRet (cMv 2)))) cNx)
    (cSeq (cAsg 3 (cC (.int 0)))
    (cSeq (cIf (cB (cOp dGt (.ev (cD (cCB dLen [(.ev (cD (cOp dIx (.lv 0) (.ev (cD (cC (.int 0)))))))]))) (.ev (cD (cC (.int 0)))))) (cAsg 3 (cCB dAbs [(.ev (cD (cOp dIx (.ev (cD (cOp dIx (.lv 0) (.ev (cD (cC (.int 0))))))) (.ev (cD (cOp dMod (.ev (cD (cCB dInt [(.ev (cD (cOp dIx (.lv 0) (.ev (cD (cC (.int 1)))))))]))) (.ev (cD (cCB dLen [(.ev (cD (cOp dIx (.lv 0) (.ev (cD (cC (.int 0)))))))])))))))))])) cNx)
    (cSeq (cSetI 0 (cD (cOp dAdd (.ev (cD (cOp dIx (.lv 0) (.ev (cD (cC (.int 1))))))) (.ev (cD (cC (.int 1)))))) (cD (cC (.int 1))))
    (cSeq (cIf (cB (cOp dGe (.lv 3) (.ev (cD (cOp dPow (.ev (cD (cC (.int 10)))) (.ev (cD (cC (.int 18))))))))) (cSeq (cSetI 0 (cD (cOp dFdiv (.lv 3) (.lv 1))) (cD (cC (.int 2))))
    (cRet (cOp dMod (.ev (cD (cCB dInt [(.lv 3)]))) (.lv 1)))) cNx)
    (cSeq (cAsg 4 (cOp dMod (.ev (cD (cCB dInt [(.ev (cD (cOp dAdd (.ev (cD (cOp dMul (.ev (cD (cOp dAdd (.lv 3) (.ev (cD (cC (.int 1))))))) (.ev (cD (cC (.int 48271))))))) (.ev (cD (cOp dMul (.ev (cD (cOp dIx (.lv 0) (.ev (cD (cC (.int 3))))))) (.ev (cD (cC (.int 69621))))))))))]))) (.ev (cD (cC (.int 2147483647))))))
    (cSeq (cAsg 4 (cOp dMod (.ev (cD (cCB dInt [(.ev (cD (cOp dAdd (.ev (cD (cOp dAdd (.ev (cD (cOp dMul (.lv 4) (.ev (cD (cC (.int 16807))))))) (.ev (cD (cOp dFdiv (.lv 3) (.ev (cD (cC (.int 97)))))))))) (.ev (cD (cOp dIx (.lv 0) (.ev (cD (cC (.int 3))))))))))]))) (.ev (cD (cC (.int 2147483629))))))
    (cRet (cOp dMod (.ev (cD (cOp dFdiv (.lv 4) (.ev (cD (cC (.int 11))))))) (.lv 1)))))))))))
def F__law_draw : M RV := runF 5 b__law_draw
abbrev st__law_one_of : Stmt := topS 12
abbrev N__law_one_of : List Str := ["state", "items"]
theorem sc__law_one_of : FnScope N__law_one_of ["state", "items"] (defScope st__law_one_of) := ⟨rfl, rfl, rfl, by decide +kernel, rfl, by decide +kernel, by decide +kernel⟩
def b__law_one_of : M Fl :=
  (cRet (cOp dIx (.lv 1) (.ev (cD (cCall F__law_draw [(.lv 0), (.ev (cD (cCB dLen [(.lv 1)])))])))))
def F__law_one_of : M RV := runF 2 b__law_one_of
abbrev st__law_words : Stmt := topS 13
abbrev N__law_words : List Str := ["state", "many", "letters", "start", "step", "shared", "k"]
theorem sc__law_words : FnScope N__law_words ["state", "many"] (defScope st__law_words) := ⟨rfl, rfl, rfl, by decide +kernel, rfl, by decide +kernel, by decide +kernel⟩
def b__law_words : M Fl :=
  (cSeq (cAsg 2 (cC (.str "abcdefghijklmnopqrstuvwxyz")))
    (cSeq (cAsg 3 (cCall F__law_draw [(.lv 0), (.ev (cD (cC (.int 26))))]))
    (cSeq (cAsg 4 (cOp dAdd (.ev (cD (cC (.int 1)))) (.ev (cD (cOp dMul (.ev (cD (cC (.int 2)))) (.ev (cD (cCall F__law_draw [(.lv 0), (.ev (cD (cC (.int 6))))]))))))))
    (cSeq (cAsg 5 (cSl (.ev (cD (cC (.str "qxz")))) none (some (cD (cCall F__law_draw [(.lv 0), (.ev (cD (cC (.int 4))))])))))
    (cSeq (cIf (cB (cOp dEq (.ev (cD (cCall F__law_draw [(.lv 0), (.ev (cD (cC (.int 2))))]))) (.ev (cD (cC (.int 0)))))) (cRet (cLc [6] (tgN 6) (cRng1 (.lv 1)) (fun ρ => .ok true ρ) (cD (cOp dAdd (.lv 5) (.ev (cD (cOp dIx (.lv 2) (.ev (cD (cOp dMod (.ev (cD (cCB dInt [(.ev (cD (cOp dAdd (.lv 3) (.ev (cD (cOp dMul (.lv 6) (.lv 4)))))))]))) (.ev (cD (cC (.int 26)))))))))))))) cNx)
    (cRet (cLc [6] (tgN 6) (cRng1 (.lv 1)) (fun ρ => .ok true ρ) (cD (cOp dAdd (.ev (cD (cOp dIx (.lv 2) (.ev (cD (cOp dMod (.ev (cD (cCB dInt [(.ev (cD (cOp dAdd (.lv 3) (.ev (cD (cOp dMul (.lv 6) (.lv 4)))))))]))) (.ev (cD (cC (.int 26)))))))))) (.lv 5))))))))))
def F__law_words : M RV := runF 7 b__law_words
abbrev st__law_is_int : Stmt := topS 14
abbrev N__law_is_int : List Str := ["x"]
theorem sc__law_is_int : FnScope N__law_is_int ["x"] (defScope st__law_is_int) := ⟨rfl, rfl, rfl, by decide +kernel, rfl, by decide +kernel, by decide +kernel⟩
def b__law_is_int : M Fl :=
  (cRet (cV (cAndV (cD (cIsi "int" (.lv 0))) (cD (cNot (.ev (cD (cIsi "bool" (.lv 0)))))))))
def F__law_is_int : M RV := runF 1 b__law_is_int
abbrev st__law_bent : Stmt := topS 15
abbrev N__law_bent : List Str := ["state", "datum", "depth", "at", "other"]
theorem sc__law_bent : FnScope N__law_bent ["state", "datum", "depth"] (defScope st__law_bent) := ⟨rfl, rfl, rfl, by decide +kernel, rfl, by decide +kernel, by decide +kernel⟩
def b__law_bent (S__law_bent : M RV) : M Fl :=
  (cSeq (cIf (cAndT (cT (.ev (cD (cIsi "tuple" (.lv 1))))) (cAndT (cB (cOp dGt (.ev (cD (cCB dLen [(.lv 1)]))) (.ev (cD (cC (.int 0)))))) (cAndT (cB (cOp dLt (.lv 2) (.ev (cD (cC (.int 12)))))) (cB (cOp dGt (.ev (cD (cCall F__law_draw [(.lv 0), (.ev (cD (cC (.int 6))))]))) (.ev (cD (cC (.int 0))))))))) (cSeq (cAsg 3 (cCall F__law_draw [(.lv 0), (.ev (cD (cCB dLen [(.lv 1)])))]))
    (cRet (cOp dAdd (.ev (cD (cOp dAdd (.ev (cD (cSl (.lv 1) none (some (cD (cVar 3)))))) (.ev (cD (cTup [(cD (cCall S__law_bent [(.lv 0), (.ev (cD (cOp dIx (.lv 1) (.lv 3)))), (.ev (cD (cOp dAdd (.lv 2) (.ev (cD (cC (.int 1)))))))]))])))))) (.ev (cD (cSl (.lv 1) (some (cD (cOp dAdd (.lv 3) (.ev (cD (cC (.int 1))))))) none)))))) cNx)
    (cSeq (cIf (cT (.ev (cD (cIsi "tuple" (.lv 1))))) (cSeq (cAsg 3 (cCall F__law_draw [(.lv 0), (.ev (cD (cOp dAdd (.ev (cD (cCB dLen [(.lv 1)]))) (.ev (cD (cC (.int 1)))))))]))
    (cSeq (cAsg 4 (cLst [(cD (cOp dAdd (.ev (cD (cSl (.lv 1) none (some (cD (cVar 3)))))) (.ev (cD (cSl (.lv 1) (some (cD (cOp dAdd (.lv 3) (.ev (cD (cC (.int 1))))))) none))))), (cD (cOp dAdd (.ev (cD (cOp dAdd (.ev (cD (cSl (.lv 1) none (some (cD (cVar 3)))))) (.ev (cD (cSl (.lv 1) (some (cD (cVar 3))) (some (cD (cOp dAdd (.lv 3) (.ev (cD (cC (.int 1))))))))))))) (.ev (cD (cSl (.lv 1) (some (cD (cVar 3))) none))))), (cD (cOp dAdd (.lv 1) (.ev (cD (cTup [(cD (cC (.int 0)))]))))), (cD (cTup [])), (cD (cC (.int 0)))]))
    (cRet (cCall F__law_one_of [(.lv 0), (.ev (cD (cOp dAdd (.lv 4) (.ev (cD (cLst [(cD (cOp dAdd (.ev (cD (cSl (.lv 1) (some (cD (cVar 3))) none))) (.ev (cD (cSl (.lv 1) none (some (cD (cVar 3)))))))), (cD (cRev (cD (cVar 1)))), (cD (cC (.str "ring"))), (cD (cTup [(cD (cVar 1))]))]))))))])))) cNx)
    (cSeq (cIf (cT (.ev (cD (cIsi "str" (.lv 1))))) (cRet (cCall F__law_one_of [(.lv 0), (.ev (cD (cLst [(cD (cC (.str "forms"))), (cD (cC (.str "ring"))), (cD (cC (.str ""))), (cD (cOp dAdd (.lv 1) (.ev (cD (cC (.str "x")))))), (cD (cSl (.lv 1) (some (cD (cC (.int 1)))) none)), (cD (cSl (.lv 1) none (some (cD (cNeg (.ev (cD (cC (.int 1))))))))), (cD (cC (.int 0))), (cD (cTup []))])))])) cNx)
    (cRet (cCall F__law_one_of [(.lv 0), (.ev (cD (cLst [(cD (cOp dAdd (.lv 1) (.ev (cD (cC (.int 1)))))), (cD (cOp dSub (.lv 1) (.ev (cD (cC (.int 1)))))), (cD (cNeg (.lv 1))), (cD (cOp dMul (.ev (cD (cC (.int 2)))) (.lv 1))), (cD (cC (.int 0))), (cD (cCB dStr [(.lv 1)])), (cD (cTup [(cD (cVar 1))]))])))])))))
def F__law_bent : Nat → M RV
  | 0 => fun _ => .fail
  | n + 1 => runF 5 (b__law_bent (F__law_bent n))
abbrev st__law_says : Stmt := topS 16
abbrev N__law_says : List Str := ["answer", "due"]
theorem sc__law_says : FnScope N__law_says ["answer", "due"] (defScope st__law_says) := ⟨rfl, rfl, rfl, by decide +kernel, rfl, by decide +kernel, by decide +kernel⟩
def b__law_says : M Fl :=
  (cSeq (cIf (cT (.lv 1)) (cRet (cOp (dIsB false) (.lv 0) (.ev (cD (cC (.bl true)))))) cNx)
    (cRet (cOp (dIsB false) (.lv 0) (.ev (cD (cC (.bl false)))))))
def F__law_says : M RV := runF 2 b__law_says
abbrev st__law_are_ints : Stmt := topS 17
abbrev N__law_are_ints : List Str := ["datum", "many", "x"]
theorem sc__law_are_ints : FnScope N__law_are_ints ["datum", "many"] (defScope st__law_are_ints) := ⟨rfl, rfl, rfl, by decide +kernel, rfl, by decide +kernel, by decide +kernel⟩
def b__law_are_ints : M Fl :=
  (cRet (cV (cAndV (cD (cIsi "tuple" (.lv 0))) (cAndV (cD (cOp dEq (.ev (cD (cCB dLen [(.lv 0)]))) (.lv 1))) (cD (cCB dAll [(.ev (cD (cLc [2] (tgN 2) (cIt (cD (cVar 0))) (fun ρ => .ok true ρ) (cD (cCall F__law_is_int [(.ev (cD (cVar 2)))])))))]))))))
def F__law_are_ints : M RV := runF 3 b__law_are_ints
abbrev st__law_shape_core : Stmt := topS 18
abbrev N__law_shape_core : List Str := ["state", "words", "core", "name", "kinds", "k", "items", "results"]
theorem sc__law_shape_core : FnScope N__law_shape_core ["state"] (defScope st__law_shape_core) := ⟨rfl, rfl, rfl, by decide +kernel, rfl, by decide +kernel, by decide +kernel⟩
def b__law_shape_core : M Fl :=
  (cSeq (cAsg 1 (cCall F__law_words [(.lv 0), (.ev (cD (cC (.int 9))))]))
    (cSeq (cAsg 2 (cLst []))
    (cSeq (cFor (tgN 3) (cIt (cD (cCB dSorted [(.ev (cD (cSl (.lv 1) none (some (cD (cOp dAdd (.ev (cD (cC (.int 1)))) (.ev (cD (cCall F__law_draw [(.lv 0), (.ev (cD (cC (.int 3))))])))))))))]))) (cSeq (cAsg 4 (cLc [5] (tgN 5) (cRng1 (.ev (cD (cCall F__law_draw [(.lv 0), (.ev (cD (cC (.int 5))))])))) (fun ρ => .ok true ρ) (cD (cOp dIx (.ev (cD (cLst [(cD (cC (.str "int"))), (cD (cC (.str "array")))]))) (.ev (cD (cCall F__law_draw [(.lv 0), (.ev (cD (cC (.int 2))))])))))))
    (cSeq (cAsg 6 (cCB dTup [(.ev (cD (cLc [5] (tgN 5) (cRng1 (.ev (cD (cCB dLen [(.lv 4)])))) (fun ρ => .ok true ρ) (cD (cTup [(cD (cOp dIx (.lv 4) (.lv 5))), (cD (cOp dIx (.lv 1) (.ev (cD (cOp dAdd (.ev (cD (cC (.int 3)))) (.lv 5))))))])))))]))
    (cSeq (cAsg 7 (cOp dIx (.ev (cD (cLst [(cD (cTup [])), (cD (cTup [(cD (cC (.str "result")))])), (cD (cTup [(cD (cOp dAdd (.ev (cD (cC (.str "result.")))) (.ev (cD (cOp dIx (.lv 1) (.ev (cD (cC (.int 7))))))))), (cD (cOp dAdd (.ev (cD (cC (.str "result.")))) (.ev (cD (cOp dIx (.lv 1) (.ev (cD (cC (.int 8)))))))))]))]))) (.ev (cD (cCall F__law_draw [(.lv 0), (.ev (cD (cC (.int 3))))])))))
    (cDrop (cApp 2 (cD (cTup [(cD (cVar 3)), (cD (cVar 6)), (cD (cVar 7)), (cD (cTup [])), (cD (cTup [])), (cD (cTup [])), (cD (cTup [])), (cD (cTup [])), (cD (cTup [(cD (cTup [(cD (cC (.str "pause")))]))]))]))))))))
    (cRet (cCB dTup [(.lv 2)])))))
def F__law_shape_core : M RV := runF 8 b__law_shape_core
abbrev st__law_good_test : Stmt := topS 19
abbrev N__law_good_test : List Str := ["state", "p", "args", "arrays", "kind", "x", "row", "k", "result"]
theorem sc__law_good_test : FnScope N__law_good_test ["state", "p"] (defScope st__law_good_test) := ⟨rfl, rfl, rfl, by decide +kernel, rfl, by decide +kernel, by decide +kernel⟩
def b__law_good_test : M Fl :=
  (cSeq (cAsg 2 (cLst []))
    (cSeq (cAsg 3 (cLst []))
    (cSeq (cFor (tgT [(tgN 4), (tgN 5)]) (cIt (cD (cOp dIx (.lv 1) (.ev (cD (cC (.int 1))))))) (cSeq (cAsg 6 (cCB dTup [(.ev (cD (cLc [7] (tgN 7) (cRng1 (.ev (cD (cCall F__law_draw [(.lv 0), (.ev (cD (cC (.int 3))))])))) (fun ρ => .ok true ρ) (cD (cOp dSub (.ev (cD (cCall F__law_draw [(.lv 0), (.ev (cD (cOp dPow (.ev (cD (cC (.int 10)))) (.ev (cD (cC (.int 9)))))))]))) (.ev (cD (cOp dPow (.ev (cD (cC (.int 10)))) (.ev (cD (cC (.int 8))))))))))))]))
    (cIf (cB (cOp dEq (.lv 4) (.ev (cD (cC (.str "array")))))) (cSeq (cDrop (cApp 2 (cD (cVar 6))))
    (cDrop (cApp 3 (cD (cCB dTup [(.ev (cD (cLc [7] (tgN 7) (cRng1 (.ev (cD (cCall F__law_draw [(.lv 0), (.ev (cD (cC (.int 3))))])))) (fun ρ => .ok true ρ) (cD (cOp dSub (.ev (cD (cCall F__law_draw [(.lv 0), (.ev (cD (cC (.int 5))))]))) (.ev (cD (cC (.int 2)))))))))]))))) (cDrop (cApp 2 (cD (cOp dSub (.ev (cD (cCall F__law_draw [(.lv 0), (.ev (cD (cC (.int 9))))]))) (.ev (cD (cC (.int 4)))))))))))
    (cRet (cTup [(cD (cOp dIx (.lv 1) (.ev (cD (cC (.int 0)))))), (cD (cCB dTup [(.lv 2)])), (cD (cCB dTup [(.ev (cD (cLc [8] (tgN 8) (cIt (cD (cOp dIx (.lv 1) (.ev (cD (cC (.int 2))))))) (fun ρ => .ok true ρ) (cD (cOp dSub (.ev (cD (cCall F__law_draw [(.lv 0), (.ev (cD (cC (.int 99))))]))) (.ev (cD (cC (.int 9)))))))))])), (cD (cCB dTup [(.lv 3)]))])))))
def F__law_good_test : M RV := runF 9 b__law_good_test
abbrev st__law_is_good : Stmt := topS 20
abbrev N__law_is_good : List Str := ["core", "datum", "found", "p", "many", "k", "one", "row"]
theorem sc__law_is_good : FnScope N__law_is_good ["core", "datum"] (defScope st__law_is_good) := ⟨rfl, rfl, rfl, by decide +kernel, rfl, by decide +kernel, by decide +kernel⟩
def b__law_is_good : M Fl :=
  (cSeq (cIf (cOrT (cNotT (cT (.ev (cD (cIsi "tuple" (.lv 1)))))) (cOrT (cB (cOp dNe (.ev (cD (cCB dLen [(.lv 1)]))) (.ev (cD (cC (.int 4)))))) (cNotT (cT (.ev (cD (cIsi "str" (.ev (cD (cOp dIx (.lv 1) (.ev (cD (cC (.int 0)))))))))))))) (cRet (cC (.bl false))) cNx)
    (cSeq (cAsg 2 (cLc [3] (tgN 3) (cIt (cD (cVar 0))) (cB (cOp dEq (.ev (cD (cOp dIx (.lv 3) (.ev (cD (cC (.int 0))))))) (.ev (cD (cOp dIx (.lv 1) (.ev (cD (cC (.int 0))))))))) (cD (cVar 3))))
    (cSeq (cIf (cOrT (cB (cOp dEq (.lv 2) (.ev (cD (cLst []))))) (cOrT (cNotT (cT (.ev (cD (cIsi "tuple" (.ev (cD (cOp dIx (.lv 1) (.ev (cD (cC (.int 1)))))))))))) (cB (cOp dNe (.ev (cD (cCB dLen [(.ev (cD (cOp dIx (.lv 1) (.ev (cD (cC (.int 1)))))))]))) (.ev (cD (cCB dLen [(.ev (cD (cOp dIx (.ev (cD (cOp dIx (.lv 2) (.ev (cD (cC (.int 0))))))) (.ev (cD (cC (.int 1)))))))]))))))) (cRet (cC (.bl false))) cNx)
    (cSeq (cAsg 4 (cC (.int 0)))
    (cSeq (cFor (tgN 5) (cRng1 (.ev (cD (cCB dLen [(.ev (cD (cOp dIx (.lv 1) (.ev (cD (cC (.int 1)))))))])))) (cSeq (cAsg 6 (cOp dIx (.ev (cD (cOp dIx (.lv 1) (.ev (cD (cC (.int 1))))))) (.lv 5)))
    (cIf (cB (cOp dEq (.ev (cD (cOp dIx (.ev (cD (cOp dIx (.ev (cD (cOp dIx (.ev (cD (cOp dIx (.lv 2) (.ev (cD (cC (.int 0))))))) (.ev (cD (cC (.int 1))))))) (.lv 5)))) (.ev (cD (cC (.int 0))))))) (.ev (cD (cC (.str "int")))))) (cIf (cNotT (cT (.ev (cD (cCall F__law_is_int [(.ev (cD (cVar 6)))]))))) (cRet (cC (.bl false))) cNx) (cIf (cOrT (cNotT (cT (.ev (cD (cIsi "tuple" (.lv 6)))))) (cNotT (cT (.ev (cD (cCall F__law_are_ints [(.ev (cD (cVar 6))), (.ev (cD (cCB dLen [(.lv 6)])))])))))) (cRet (cC (.bl false))) (cAsg 4 (cOp dAdd (.lv 4) (.ev (cD (cC (.int 1))))))))))
    (cSeq (cIf (cOrT (cNotT (cT (.ev (cD (cCall F__law_are_ints [(.ev (cD (cOp dIx (.lv 1) (.ev (cD (cC (.int 2))))))), (.ev (cD (cCB dLen [(.ev (cD (cOp dIx (.ev (cD (cOp dIx (.lv 2) (.ev (cD (cC (.int 0))))))) (.ev (cD (cC (.int 2)))))))])))]))))) (cOrT (cNotT (cT (.ev (cD (cIsi "tuple" (.ev (cD (cOp dIx (.lv 1) (.ev (cD (cC (.int 3)))))))))))) (cB (cOp dNe (.ev (cD (cCB dLen [(.ev (cD (cOp dIx (.lv 1) (.ev (cD (cC (.int 3)))))))]))) (.lv 4))))) (cRet (cC (.bl false))) cNx)
    (cRet (cCB dAll [(.ev (cD (cLc [7] (tgN 7) (cIt (cD (cOp dIx (.lv 1) (.ev (cD (cC (.int 3))))))) (fun ρ => .ok true ρ) (cAndV (cD (cIsi "tuple" (.lv 7))) (cD (cCall F__law_are_ints [(.ev (cD (cVar 7))), (.ev (cD (cCB dLen [(.lv 7)])))]))))))]))))))))
def F__law_is_good : M RV := runF 8 b__law_is_good
abbrev st_law : Stmt := topS 21
abbrev N_law : List Str := ["script", "state", "core", "tests", "p", "test", "turn", "at", "other", "odd", "datum"]
theorem sc_law : FnScope N_law ["script"] (defScope st_law) := ⟨rfl, rfl, rfl, by decide +kernel, rfl, by decide +kernel, by decide +kernel⟩
def b_law : M Fl :=
  (cSeq (cAsg 1 (cCall F__law_start [(.ev (cD (cVar 0)))]))
    (cSeq (cAsg 2 (cCall F__law_shape_core [(.lv 1)]))
    (cSeq (cAsg 3 (cLc [4] (tgN 4) (cIt (cD (cVar 2))) (fun ρ => .ok true ρ) (cD (cCall F__law_good_test [(.lv 1), (.ev (cD (cVar 4)))]))))
    (cSeq (cFor (tgN 5) (cIt (cD (cVar 3))) (cIf (cB (cOp (dIsB true) (.ev (cD (cCall F_is_test [(.ev (cD (cVar 2))), (.ev (cD (cVar 5)))]))) (.ev (cD (cC (.bl true)))))) (cRet (cC (.bl false))) cNx))
    (cSeq (cFor (tgN 6) (cRng1 (.ev (cD (cC (.int 12))))) (cSeq (cAsg 5 (cCall F__law_one_of [(.lv 1), (.ev (cD (cVar 3)))]))
    (cSeq (cAsg 7 (cCall F__law_draw [(.lv 1), (.ev (cD (cC (.int 4))))]))
    (cSeq (cAsg 8 (cCall F__law_one_of [(.lv 1), (.ev (cD (cVar 3)))]))
    (cSeq (cAsg 9 (cLst [(cD (cOp dAdd (.ev (cD (cOp dAdd (.ev (cD (cSl (.lv 5) none (some (cD (cVar 7)))))) (.ev (cD (cTup [(cD (cOp dIx (.lv 8) (.lv 7)))])))))) (.ev (cD (cSl (.lv 5) (some (cD (cOp dAdd (.lv 7) (.ev (cD (cC (.int 1))))))) none))))), (cD (cSl (.lv 5) none (some (cD (cC (.int 3)))))), (cD (cOp dAdd (.lv 5) (.ev (cD (cTup [(cD (cTup []))]))))), (cD (cSl (.lv 5) (some (cD (cC (.int 1)))) none)), (cD (cTup [(cD (cVar 5))])), (cD (cRev (cD (cVar 5))))]))
    (cSeq (cAsg 9 (cOp dAdd (.lv 9) (.ev (cD (cLst [(cD (cOp dAdd (.ev (cD (cSl (.lv 5) none (some (cD (cC (.int 2))))))) (.ev (cD (cTup [(cD (cOp dAdd (.ev (cD (cOp dIx (.lv 5) (.ev (cD (cC (.int 2))))))) (.ev (cD (cTup [(cD (cC (.int 0)))]))))), (cD (cOp dIx (.lv 5) (.ev (cD (cC (.int 3))))))]))))), (cD (cOp dAdd (.ev (cD (cSl (.lv 5) none (some (cD (cC (.int 3))))))) (.ev (cD (cTup [(cD (cOp dAdd (.ev (cD (cOp dIx (.lv 5) (.ev (cD (cC (.int 3))))))) (.ev (cD (cTup [(cD (cTup []))])))))]))))), (cD (cOp dAdd (.ev (cD (cTup [(cD (cC (.str "zz_z")))]))) (.ev (cD (cSl (.lv 5) (some (cD (cC (.int 1)))) none)))))])))))
    (cSeq (cAsg 9 (cOp dAdd (.lv 9) (.ev (cD (cLst [(cD (cOp dAdd (.ev (cD (cOp dAdd (.ev (cD (cSl (.lv 5) none (some (cD (cC (.int 1))))))) (.ev (cD (cTup [(cD (cOp dAdd (.ev (cD (cOp dIx (.lv 5) (.ev (cD (cC (.int 1))))))) (.ev (cD (cTup [(cD (cC (.int 0)))])))))])))))) (.ev (cD (cSl (.lv 5) (some (cD (cC (.int 2)))) none))))), (cD (cOp dAdd (.ev (cD (cOp dAdd (.ev (cD (cSl (.lv 5) none (some (cD (cC (.int 1))))))) (.ev (cD (cTup [(cD (cSl (.ev (cD (cOp dIx (.lv 5) (.ev (cD (cC (.int 1))))))) (some (cD (cC (.int 1)))) none))])))))) (.ev (cD (cSl (.lv 5) (some (cD (cC (.int 2)))) none))))), (cD (cOp dIx (.lv 5) (.ev (cD (cC (.int 0)))))), (cD (cC (.int 7))), (cD (cTup []))])))))
    (cFor (tgN 10) (cIt (cD (cLst [(cD (cCall (F__law_bent 20) [(.lv 1), (.ev (cD (cVar 5))), (.ev (cD (cC (.int 0))))])), (cD (cCall F__law_one_of [(.lv 1), (.ev (cD (cVar 9)))]))]))) (cIf (cNotT (cT (.ev (cD (cCall F__law_says [(.ev (cD (cCall F_is_test [(.ev (cD (cVar 2))), (.ev (cD (cVar 10)))]))), (.ev (cD (cCall F__law_is_good [(.ev (cD (cVar 2))), (.ev (cD (cVar 10)))])))]))))) (cRet (cC (.bl false))) cNx)))))))))
    (cRet (cC (.bl true))))))))
def F_law : M RV := runF 11 b_law
theorem q__law_start : F__law_start = RF.startF := rfl
theorem q__law_draw : F__law_draw = RF.drawF := rfl
theorem q__law_one_of : F__law_one_of = RF.oneF := rfl
theorem q__law_is_int : F__law_is_int = RF.isintF := rfl
end K00

namespace K00
open PySem PySem.Spec PyProof.Rows L2 RF
structure Tx (K : PySem.W.Frag) (mg : Str → Option Value) : Prop where
  d_is_integer : DefOk K mg "is_integer" st_is_integer ["datum"]
  d_is_tuple : DefOk K mg "is_tuple" st_is_tuple ["datum", "many"]
  d_proc_named : DefOk K mg "proc_named" st_proc_named ["core", "name"]
  d_are_integers : DefOk K mg "are_integers" st_are_integers ["datum"]
  d_is_value : DefOk K mg "is_value" st_is_value ["datum", "kind"]
  d_is_test : DefOk K mg "is_test" st_is_test ["core", "datum"]
  d__law_start : DefOk K mg "_law_start" st__law_start ["script"]
  d__law_draw : DefOk K mg "_law_draw" st__law_draw ["state", "most"]
  d__law_one_of : DefOk K mg "_law_one_of" st__law_one_of ["state", "items"]
  d__law_words : DefOk K mg "_law_words" st__law_words ["state", "many"]
  d__law_is_int : DefOk K mg "_law_is_int" st__law_is_int ["x"]
  d__law_bent : DefOk K mg "_law_bent" st__law_bent ["state", "datum", "depth"]
  d__law_says : DefOk K mg "_law_says" st__law_says ["answer", "due"]
  d__law_are_ints : DefOk K mg "_law_are_ints" st__law_are_ints ["datum", "many"]
  d__law_shape_core : DefOk K mg "_law_shape_core" st__law_shape_core ["state"]
  d__law_good_test : DefOk K mg "_law_good_test" st__law_good_test ["state", "p"]
  d__law_is_good : DefOk K mg "_law_is_good" st__law_is_good ["core", "datum"]
  z_isinstance : mg "isinstance" = none
  z_bool : mg "bool" = none
  z_int : mg "int" = none
  z_len : mg "len" = none
  z_tuple : mg "tuple" = none
  z_all : mg "all" = none
  z_zip : mg "zip" = none
  z_list : mg "list" = none
  z_abs : mg "abs" = none
  z_range : mg "range" = none
  z_str : mg "str" = none
  z_sorted : mg "sorted" = none
section
variable {P : Program} {w : World} {K : PySem.W.Frag} {mg : Str → Option Value} {base : Heap}
theorem ok_is_integer (T : Tx K mg) : Cal P w K mg base 1 "is_integer" 1 F_is_integer := cal_ok T.d_is_integer sc_is_integer rfl rfl fun f cdv A outer s H E hr tk po =>
  (b_one (s_ret ((d_and ((e_isi T.z_isinstance T.z_int (o_var 0)).d) (d_one ((e_not (((e_isi T.z_isinstance T.z_bool (o_var 0)).d).o)).d))).e)))
theorem ok_is_tuple (T : Tx K mg) : Cal P w K mg base 1 "is_tuple" 2 F_is_tuple := cal_ok T.d_is_tuple sc_is_tuple rfl rfl fun f cdv A outer s H E hr tk po =>
  (b_one (s_ret ((d_and ((e_isi T.z_isinstance T.z_tuple (o_var 0)).d) (d_one ((e_cmp (k_eq hr.units) ((e_len T.z_len (o_var 0)).d).o (o_var 1)).d))).e)))
theorem ok_proc_named (T : Tx K mg) : Cal P w K mg base 1 "proc_named" 2 F_proc_named := cal_ok T.d_proc_named sc_proc_named rfl rfl fun f cdv A outer s H E hr tk po =>
  (b_one (s_ret (e_ix (((e_lc (own := [("proc", 2)]) sc_proc_named.nd (i_any ((e_var 0).d)) (blkOk_by (N := N_proc_named) (sc := (defScope st_proc_named)) (by decide +kernel)) (fun _ _ _ _ _ => (g_name 2 sc_proc_named.nd)) (fun _ _ _ _ _ => c_one (t_cmp (k_eq hr.units) ((e_ix (o_var 2) ((e_int).d).o).d).o (o_var 1))) (fun _ _ _ _ _ => (e_var 2).d)).d).o) ((e_int).d).o)))
theorem ok_are_integers (T : Tx K mg) : Cal P w K mg base 2 "are_integers" 1 F_are_integers := cal_ok T.d_are_integers sc_are_integers rfl rfl fun f cdv A outer s H E hr tk po =>
  (b_one (s_ret ((d_and ((e_isi T.z_isinstance T.z_tuple (o_var 0)).d) (d_one ((e_all T.z_all (((e_lc (own := [("number", 1)]) sc_are_integers.nd (i_any ((e_var 0).d)) (blkOk_by (N := N_are_integers) (sc := (defScope st_are_integers)) (by decide +kernel)) (fun _ _ _ _ _ => (g_name 1 sc_are_integers.nd)) (fun _ _ _ _ _ => c_nil) (fun _ _ _ _ _ => (e_call ((ok_is_integer T).mono (by omega)) takes0 hr (a_cons (((e_var 1).d).o) a_nil)).d)).d).o)).d))).e)))
theorem ok_is_value (T : Tx K mg) : Cal P w K mg base 3 "is_value" 2 F_is_value := cal_ok T.d_is_value sc_is_value rfl rfl fun f cdv A outer s H E hr tk po =>
  (b_one (s_ret (e_if (t_cmp (k_eq hr.units) (o_var 1) ((e_str).d).o) (e_call ((ok_are_integers T).mono (by omega)) tk hr (a_cons (((e_var 0).d).o) a_nil)) (e_call ((ok_is_integer T).mono (by omega)) tk hr (a_cons (((e_var 0).d).o) a_nil)))))
theorem ok_is_test (T : Tx K mg) : Cal P w K mg base 4 "is_test" 2 F_is_test := cal_ok T.d_is_test sc_is_test rfl rfl fun f cdv A outer s H E hr tk po =>
  (b_cons (s_if ((w_or (t_not (t_any (((e_call ((ok_is_tuple T).mono (by omega)) tk hr (a_cons (((e_var 1).d).o) (a_cons ((e_int).d).o a_nil))).d).o))) (w_or1 (t_cmp (k_notin (room65 hr)) ((e_ix (o_var 1) ((e_int).d).o).d).o ((e_lc (own := [("proc", 2)]) sc_is_test.nd (i_any ((e_var 0).d)) (blkOk_by (N := N_is_test) (sc := (defScope st_is_test)) (by decide +kernel)) (fun _ _ _ _ _ => (g_name 2 sc_is_test.nd)) (fun _ _ _ _ _ => c_nil) (fun _ _ _ _ _ => (e_ix (o_var 2) ((e_int).d).o).d)).d).o))).t) (b_one (s_ret e_bl)) b_nil)
    (b_cons (s_set 2 sc_is_test.nd (e_call ((ok_proc_named T).mono (by omega)) tk hr (a_cons (((e_var 0).d).o) (a_cons (((e_ix (o_var 1) ((e_int).d).o).d).o) a_nil))))
    (b_cons (s_setLc (own := [("item", 4)]) 3 sc_is_test.nd (i_any ((e_ix (o_var 2) ((e_int).d).o).d)) (blkOk_by (N := N_is_test) (sc := (defScope st_is_test)) (by decide +kernel)) (fun _ _ _ _ _ => (g_name 4 sc_is_test.nd)) (fun _ _ _ _ _ => c_nil) (fun _ _ _ _ _ => (e_ix (o_var 4) ((e_int).d).o).d) (by rfl))
    (b_cons (s_if ((w_or (t_not (t_any (((e_call ((ok_is_tuple T).mono (by omega)) tk hr (a_cons (((e_ix (o_var 1) ((e_int).d).o).d).o) (a_cons (((e_len T.z_len (o_var 3)).d).o) a_nil))).d).o))) (w_or1 (t_not (t_any (((e_all T.z_all (((e_lc (own := [("one", 5), ("kind", 6)]) sc_is_test.nd (i_zip T.z_zip ((e_ix (o_var 1) ((e_int).d).o).d) ((e_var 3).d)) (blkOk_by (N := N_is_test) (sc := (defScope st_is_test)) (by decide +kernel)) (fun _ _ _ _ _ => (g_tup (gs_cons (g_name 5 sc_is_test.nd) (gs_cons (g_name 6 sc_is_test.nd) gs_nil)))) (fun _ _ _ _ _ => c_nil) (fun _ _ _ _ _ => (e_call ((ok_is_value T).mono (by omega)) takes0 hr (a_cons (((e_var 5).d).o) (a_cons (((e_var 6).d).o) a_nil))).d)).d).o)).d).o))))).t) (b_one (s_ret e_bl)) b_nil)
    (b_cons (s_if ((w_or (t_not (t_any (((e_call ((ok_are_integers T).mono (by omega)) tk hr (a_cons (((e_ix (o_var 1) ((e_int).d).o).d).o) a_nil)).d).o))) (w_or1 (t_cmp (k_ne hr.units) ((e_len T.z_len (((e_ix (o_var 1) ((e_int).d).o).d).o)).d).o ((e_len T.z_len (((e_ix (o_var 2) ((e_int).d).o).d).o)).d).o))).t) (b_one (s_ret e_bl)) b_nil)
    (b_cons (s_if (t_not (t_any (((e_call ((ok_is_tuple T).mono (by omega)) tk hr (a_cons (((e_ix (o_var 1) ((e_int).d).o).d).o) (a_cons (((e_len T.z_len (((e_lc (own := [("kind", 6)]) sc_is_test.nd (i_any ((e_var 3).d)) (blkOk_by (N := N_is_test) (sc := (defScope st_is_test)) (by decide +kernel)) (fun _ _ _ _ _ => (g_name 6 sc_is_test.nd)) (fun _ _ _ _ _ => c_one (t_cmp (k_eq hr.units) (o_var 6) ((e_str).d).o)) (fun _ _ _ _ _ => (e_var 6).d)).d).o)).d).o) a_nil))).d).o))) (b_one (s_ret e_bl)) b_nil)
    (b_one (s_ret (e_all T.z_all (((e_lc (own := [("items", 7)]) sc_is_test.nd (i_any ((e_ix (o_var 1) ((e_int).d).o).d)) (blkOk_by (N := N_is_test) (sc := (defScope st_is_test)) (by decide +kernel)) (fun _ _ _ _ _ => (g_name 7 sc_is_test.nd)) (fun _ _ _ _ _ => c_nil) (fun _ _ _ _ _ => (e_call ((ok_are_integers T).mono (by omega)) takes0 hr (a_cons (((e_var 7).d).o) a_nil)).d)).d).o))))))))))
theorem ok__law_start (T : Tx K mg) : Cal P w K mg base 1 "_law_start" 1 F__law_start := cal_ok T.d__law_start sc__law_start rfl rfl fun f cdv A outer s H E hr tk po =>
  (b_one (s_ret (e_lst (l_cons ((e_list T.z_list (o_var 0)).d) (l_cons (e_int).d (l_cons (e_int).d (l_cons (e_int).d l_nil)))))))
theorem ok__law_draw (T : Tx K mg) : Cal P w K mg base 1 "_law_draw" 2 F__law_draw := cal_ok T.d__law_draw sc__law_draw rfl rfl fun f cdv A outer s H E hr tk po =>
  (b_cons (s_setI 0 ((e_add ((e_ix (o_var 0) ((e_int).d).o).d).o ((e_int).d).o).d) (e_int).d)
    (b_cons (s_if (t_cmp k_gt ((e_ix (o_var 0) ((e_int).d).o).d).o ((e_int).d).o) (b_cons (s_set 2 sc__law_draw.nd (e_mod ((e_intc T.z_int (((e_ix (o_var 0) ((e_int).d).o).d).o)).d).o (o_var 1)))
    (b_cons (s_setI 0 ((e_fdiv ((e_ix (o_var 0) ((e_int).d).o).d).o (o_var 1)).d) (e_int).d)
    (b_one (s_ret (e_mv 2))))) b_nil)
    (b_cons (s_set 3 sc__law_draw.nd e_int)
    (b_cons (s_if (t_cmp k_gt ((e_len T.z_len (((e_ix (o_var 0) ((e_int).d).o).d).o)).d).o ((e_int).d).o) (b_one (s_set 3 sc__law_draw.nd (e_abs T.z_abs (((e_ix (((e_ix (o_var 0) ((e_int).d).o).d).o) (((e_mod ((e_intc T.z_int (((e_ix (o_var 0) ((e_int).d).o).d).o)).d).o ((e_len T.z_len (((e_ix (o_var 0) ((e_int).d).o).d).o)).d).o).d).o)).d).o)))) b_nil)
    (b_cons (s_setI 0 ((e_add ((e_ix (o_var 0) ((e_int).d).o).d).o ((e_int).d).o).d) (e_int).d)
    (b_cons (s_if (t_cmp k_ge (o_var 3) ((e_pow ((e_int).d).o ((e_int).d).o).d).o) (b_cons (s_setI 0 ((e_fdiv (o_var 3) (o_var 1)).d) (e_int).d)
    (b_one (s_ret (e_mod ((e_intc T.z_int (o_var 3)).d).o (o_var 1))))) b_nil)
    (b_cons (s_set 4 sc__law_draw.nd (e_mod ((e_intc T.z_int (((e_add ((e_mul ((e_add (o_var 3) ((e_int).d).o).d).o ((e_int).d).o).d).o ((e_mul ((e_ix (o_var 0) ((e_int).d).o).d).o ((e_int).d).o).d).o).d).o)).d).o ((e_int).d).o))
    (b_cons (s_set 4 sc__law_draw.nd (e_mod ((e_intc T.z_int (((e_add ((e_add ((e_mul (o_var 4) ((e_int).d).o).d).o ((e_fdiv (o_var 3) ((e_int).d).o).d).o).d).o ((e_ix (o_var 0) ((e_int).d).o).d).o).d).o)).d).o ((e_int).d).o))
    (b_one (s_ret (e_mod ((e_fdiv (o_var 4) ((e_int).d).o).d).o (o_var 1))))))))))))
theorem ok__law_one_of (T : Tx K mg) : Cal P w K mg base 2 "_law_one_of" 2 F__law_one_of := cal_ok T.d__law_one_of sc__law_one_of rfl rfl fun f cdv A outer s H E hr tk po =>
  (b_one (s_ret (e_ix (o_var 1) (((e_call ((ok__law_draw T).mono (by omega)) tk hr (a_cons (o_var 0) (a_cons (((e_len T.z_len (o_var 1)).d).o) a_nil))).d).o))))
theorem ok__law_words (T : Tx K mg) : Cal P w K mg base 2 "_law_words" 2 F__law_words := cal_ok T.d__law_words sc__law_words rfl rfl fun f cdv A outer s H E hr tk po =>
  (b_cons (s_set 2 sc__law_words.nd e_str)
    (b_cons (s_set 3 sc__law_words.nd (e_call ((ok__law_draw T).mono (by omega)) tk hr (a_cons (o_var 0) (a_cons ((e_int).d).o a_nil))))
    (b_cons (s_set 4 sc__law_words.nd (e_add ((e_int).d).o ((e_mul ((e_int).d).o ((e_call ((ok__law_draw T).mono (by omega)) tk hr (a_cons (o_var 0) (a_cons ((e_int).d).o a_nil))).d).o).d).o))
    (b_cons (s_set 5 sc__law_words.nd (e_sl ((e_str).d).o sp_none (sp_some ((e_call ((ok__law_draw T).mono (by omega)) tk hr (a_cons (o_var 0) (a_cons ((e_int).d).o a_nil))).d))))
    (b_cons (s_if (t_cmp (k_eq hr.units) ((e_call ((ok__law_draw T).mono (by omega)) tk hr (a_cons (o_var 0) (a_cons ((e_int).d).o a_nil))).d).o ((e_int).d).o) (b_one (s_ret (e_lc (own := [("k", 6)]) sc__law_words.nd (i_rng1 T.z_range (o_var 1)) (blkOk_by (N := N__law_words) (sc := (defScope st__law_words)) (by decide +kernel)) (fun _ _ _ _ _ => (g_name 6 sc__law_words.nd)) (fun _ _ _ _ _ => c_nil) (fun _ _ _ _ _ => (e_add (o_var 5) ((e_ix (o_var 2) (((e_mod ((e_intc T.z_int (((e_add (o_var 3) ((e_mul (o_var 6) (o_var 4)).d).o).d).o)).d).o ((e_int).d).o).d).o)).d).o).d)))) b_nil)
    (b_one (s_ret (e_lc (own := [("k", 6)]) sc__law_words.nd (i_rng1 T.z_range (o_var 1)) (blkOk_by (N := N__law_words) (sc := (defScope st__law_words)) (by decide +kernel)) (fun _ _ _ _ _ => (g_name 6 sc__law_words.nd)) (fun _ _ _ _ _ => c_nil) (fun _ _ _ _ _ => (e_add ((e_ix (o_var 2) (((e_mod ((e_intc T.z_int (((e_add (o_var 3) ((e_mul (o_var 6) (o_var 4)).d).o).d).o)).d).o ((e_int).d).o).d).o)).d).o (o_var 5)).d)))))))))
theorem ok__law_is_int (T : Tx K mg) : Cal P w K mg base 1 "_law_is_int" 1 F__law_is_int := cal_ok T.d__law_is_int sc__law_is_int rfl rfl fun f cdv A outer s H E hr tk po =>
  (b_one (s_ret ((d_and ((e_isi T.z_isinstance T.z_int (o_var 0)).d) (d_one ((e_not (((e_isi T.z_isinstance T.z_bool (o_var 0)).d).o)).d))).e)))
theorem ok__law_bent (T : Tx K mg) : ∀ n : Nat, Cal P w K mg base (2 + n) "_law_bent" 3 (F__law_bent n)
  | 0 => cal_0 T.d__law_bent rfl
  | n + 1 => cal_ok (k := 2 + n) T.d__law_bent sc__law_bent rfl rfl fun f cdv A outer s H E hr tk po => by
    have ih__law_bent := ok__law_bent T n
    exact (b_cons (s_if ((w_and (t_any (((e_isi T.z_isinstance T.z_tuple (o_var 1)).d).o)) (w_and (t_cmp k_gt ((e_len T.z_len (o_var 1)).d).o ((e_int).d).o) (w_and (t_cmp k_lt (o_var 2) ((e_int).d).o) (w_and1 (t_cmp k_gt ((e_call ((ok__law_draw T).mono (by omega)) tk hr (a_cons (o_var 0) (a_cons ((e_int).d).o a_nil))).d).o ((e_int).d).o))))).t) (b_cons (s_set 3 sc__law_bent.nd (e_call ((ok__law_draw T).mono (by omega)) tk hr (a_cons (o_var 0) (a_cons (((e_len T.z_len (o_var 1)).d).o) a_nil))))
    (b_one (s_ret (e_add ((e_add ((e_sl (o_var 1) sp_none (sp_some ((e_var 3).d))).d).o ((e_tup (l_cons ((e_call (ih__law_bent.mono (by omega)) tk hr (a_cons (o_var 0) (a_cons (((e_ix (o_var 1) (o_var 3)).d).o) (a_cons (((e_add (o_var 2) ((e_int).d).o).d).o) a_nil)))).d) l_nil) (hl := Nat.le_of_ble_eq_true (by rfl))).d).o).d).o ((e_sl (o_var 1) (sp_some ((e_add (o_var 3) ((e_int).d).o).d)) sp_none).d).o)))) b_nil)
    (b_cons (s_if (t_any (((e_isi T.z_isinstance T.z_tuple (o_var 1)).d).o)) (b_cons (s_set 3 sc__law_bent.nd (e_call ((ok__law_draw T).mono (by omega)) tk hr (a_cons (o_var 0) (a_cons (((e_add ((e_len T.z_len (o_var 1)).d).o ((e_int).d).o).d).o) a_nil))))
    (b_cons (s_set 4 sc__law_bent.nd (e_lst (l_cons ((e_add ((e_sl (o_var 1) sp_none (sp_some ((e_var 3).d))).d).o ((e_sl (o_var 1) (sp_some ((e_add (o_var 3) ((e_int).d).o).d)) sp_none).d).o).d) (l_cons ((e_add ((e_add ((e_sl (o_var 1) sp_none (sp_some ((e_var 3).d))).d).o ((e_sl (o_var 1) (sp_some ((e_var 3).d)) (sp_some ((e_add (o_var 3) ((e_int).d).o).d))).d).o).d).o ((e_sl (o_var 1) (sp_some ((e_var 3).d)) sp_none).d).o).d) (l_cons ((e_add (o_var 1) ((e_tup (l_cons (e_int).d l_nil) (hl := Nat.le_of_ble_eq_true (by rfl))).d).o).d) (l_cons ((e_tup l_nil (hl := Nat.le_of_ble_eq_true (by rfl))).d) (l_cons (e_int).d l_nil))))) (hl := Nat.le_of_ble_eq_true (by rfl))))
    (b_one (s_ret (e_call ((ok__law_one_of T).mono (by omega)) tk hr (a_cons (o_var 0) (a_cons (((e_add (o_var 4) ((e_lst (l_cons ((e_add ((e_sl (o_var 1) (sp_some ((e_var 3).d)) sp_none).d).o ((e_sl (o_var 1) sp_none (sp_some ((e_var 3).d))).d).o).d) (l_cons ((e_rev ((e_var 1).d)).d) (l_cons (e_str).d (l_cons ((e_tup (l_cons ((e_var 1).d) l_nil) (hl := Nat.le_of_ble_eq_true (by rfl))).d) l_nil)))) (hl := Nat.le_of_ble_eq_true (by rfl))).d).o).d).o) a_nil))))))) b_nil)
    (b_cons (s_if (t_any (((e_isi T.z_isinstance T.z_str (o_var 1)).d).o)) (b_one (s_ret (e_call ((ok__law_one_of T).mono (by omega)) tk hr (a_cons (o_var 0) (a_cons (((e_lst (l_cons (e_str).d (l_cons (e_str).d (l_cons (e_str).d (l_cons ((e_add (o_var 1) ((e_str).d).o).d) (l_cons ((e_sl (o_var 1) (sp_some (e_int).d) sp_none).d) (l_cons ((e_sl (o_var 1) sp_none (sp_some ((e_neg ((e_int).d).o).d))).d) (l_cons (e_int).d (l_cons ((e_tup l_nil (hl := Nat.le_of_ble_eq_true (by rfl))).d) l_nil)))))))) (hl := Nat.le_of_ble_eq_true (by rfl))).d).o) a_nil))))) b_nil)
    (b_one (s_ret (e_call ((ok__law_one_of T).mono (by omega)) tk hr (a_cons (o_var 0) (a_cons (((e_lst (l_cons ((e_add (o_var 1) ((e_int).d).o).d) (l_cons ((e_sub (o_var 1) ((e_int).d).o).d) (l_cons ((e_neg (o_var 1)).d) (l_cons ((e_mul ((e_int).d).o (o_var 1)).d) (l_cons (e_int).d (l_cons ((e_strc T.z_str (o_var 1)).d) (l_cons ((e_tup (l_cons ((e_var 1).d) l_nil) (hl := Nat.le_of_ble_eq_true (by rfl))).d) l_nil))))))) (hl := Nat.le_of_ble_eq_true (by rfl))).d).o) a_nil))))))))
theorem ok__law_says (T : Tx K mg) : Cal P w K mg base 1 "_law_says" 2 F__law_says := cal_ok T.d__law_says sc__law_says rfl rfl fun f cdv A outer s H E hr tk po =>
  (b_cons (s_if (t_any (o_var 1)) (b_one (s_ret (e_cmp k_isB (o_var 0) ((e_bl).d).o))) b_nil)
    (b_one (s_ret (e_cmp k_isB (o_var 0) ((e_bl).d).o))))
theorem ok__law_are_ints (T : Tx K mg) : Cal P w K mg base 2 "_law_are_ints" 2 F__law_are_ints := cal_ok T.d__law_are_ints sc__law_are_ints rfl rfl fun f cdv A outer s H E hr tk po =>
  (b_one (s_ret ((d_and ((e_isi T.z_isinstance T.z_tuple (o_var 0)).d) (d_and ((e_cmp (k_eq hr.units) ((e_len T.z_len (o_var 0)).d).o (o_var 1)).d) (d_one ((e_all T.z_all (((e_lc (own := [("x", 2)]) sc__law_are_ints.nd (i_any ((e_var 0).d)) (blkOk_by (N := N__law_are_ints) (sc := (defScope st__law_are_ints)) (by decide +kernel)) (fun _ _ _ _ _ => (g_name 2 sc__law_are_ints.nd)) (fun _ _ _ _ _ => c_nil) (fun _ _ _ _ _ => (e_call ((ok__law_is_int T).mono (by omega)) takes0 hr (a_cons (((e_var 2).d).o) a_nil)).d)).d).o)).d)))).e)))
theorem ok__law_shape_core (T : Tx K mg) : Cal P w K mg base 3 "_law_shape_core" 1 F__law_shape_core := cal_ok T.d__law_shape_core sc__law_shape_core rfl rfl fun f cdv A outer s H E hr tk po =>
  (b_cons (s_set 1 sc__law_shape_core.nd (e_call ((ok__law_words T).mono (by omega)) tk hr (a_cons (o_var 0) (a_cons ((e_int).d).o a_nil))))
    (b_cons (s_set 2 sc__law_shape_core.nd (e_lst l_nil))
    (b_cons (s_for po (i_any ((e_sorted T.z_sorted (((e_sl (o_var 1) sp_none (sp_some ((e_add ((e_int).d).o ((e_call ((ok__law_draw T).mono (by omega)) tk hr (a_cons (o_var 0) (a_cons ((e_int).d).o a_nil))).d).o).d))).d).o)).d)) (g_name 3 sc__law_shape_core.nd) (b_cons (s_set 4 sc__law_shape_core.nd (e_lc (own := [("k", 5)]) sc__law_shape_core.nd (i_rng1 T.z_range (((e_call ((ok__law_draw T).mono (by omega)) tk hr (a_cons (o_var 0) (a_cons ((e_int).d).o a_nil))).d).o)) (blkOk_by (N := N__law_shape_core) (sc := (defScope st__law_shape_core)) (by decide +kernel)) (fun _ _ _ _ _ => (g_name 5 sc__law_shape_core.nd)) (fun _ _ _ _ _ => c_nil) (fun _ _ _ _ _ => (e_ix (((e_lst (l_cons (e_str).d (l_cons (e_str).d l_nil))).d).o) (((e_call ((ok__law_draw T).mono (by omega)) takes0 hr (a_cons (o_var 0) (a_cons ((e_int).d).o a_nil))).d).o)).d)))
    (b_cons (s_set 6 sc__law_shape_core.nd (e_tuple T.z_tuple (((e_lc (own := [("k", 5)]) sc__law_shape_core.nd (i_rng1 T.z_range (((e_len T.z_len (o_var 4)).d).o)) (blkOk_by (N := N__law_shape_core) (sc := (defScope st__law_shape_core)) (by decide +kernel)) (fun _ _ _ _ _ => (g_name 5 sc__law_shape_core.nd)) (fun _ _ _ _ _ => c_nil) (fun _ _ _ _ _ => (e_tup (l_cons ((e_ix (o_var 4) (o_var 5)).d) (l_cons ((e_ix (o_var 1) (((e_add ((e_int).d).o (o_var 5)).d).o)).d) l_nil))).d)).d).o)))
    (b_cons (s_set 7 sc__law_shape_core.nd (e_ix (((e_lst (l_cons ((e_tup l_nil).d) (l_cons ((e_tup (l_cons (e_str).d l_nil)).d) (l_cons ((e_tup (l_cons ((e_add ((e_str).d).o ((e_ix (o_var 1) ((e_int).d).o).d).o).d) (l_cons ((e_add ((e_str).d).o ((e_ix (o_var 1) ((e_int).d).o).d).o).d) l_nil))).d) l_nil)))).d).o) (((e_call ((ok__law_draw T).mono (by omega)) tk hr (a_cons (o_var 0) (a_cons ((e_int).d).o a_nil))).d).o)))
    (b_one (s_expr (e_app 2 ((e_tup (l_cons ((e_var 3).d) (l_cons ((e_var 6).d) (l_cons ((e_var 7).d) (l_cons ((e_tup l_nil).d) (l_cons ((e_tup l_nil).d) (l_cons ((e_tup l_nil).d) (l_cons ((e_tup l_nil).d) (l_cons ((e_tup l_nil).d) (l_cons ((e_tup (l_cons ((e_tup (l_cons (e_str).d l_nil)).d) l_nil)).d) l_nil)))))))))).d))))))))
    (b_one (s_ret (e_tuple T.z_tuple (o_var 2)))))))
theorem ok__law_good_test (T : Tx K mg) : Cal P w K mg base 2 "_law_good_test" 2 F__law_good_test := cal_ok T.d__law_good_test sc__law_good_test rfl rfl fun f cdv A outer s H E hr tk po =>
  (b_cons (s_set 2 sc__law_good_test.nd (e_lst l_nil))
    (b_cons (s_set 3 sc__law_good_test.nd (e_lst l_nil))
    (b_cons (s_for po (i_any ((e_ix (o_var 1) ((e_int).d).o).d)) (g_tup (gs_cons (g_name 4 sc__law_good_test.nd) (gs_cons (g_name 5 sc__law_good_test.nd) gs_nil))) (b_cons (s_set 6 sc__law_good_test.nd (e_tuple T.z_tuple (((e_lc (own := [("k", 7)]) sc__law_good_test.nd (i_rng1 T.z_range (((e_call ((ok__law_draw T).mono (by omega)) tk hr (a_cons (o_var 0) (a_cons ((e_int).d).o a_nil))).d).o)) (blkOk_by (N := N__law_good_test) (sc := (defScope st__law_good_test)) (by decide +kernel)) (fun _ _ _ _ _ => (g_name 7 sc__law_good_test.nd)) (fun _ _ _ _ _ => c_nil) (fun _ _ _ _ _ => (e_sub ((e_call ((ok__law_draw T).mono (by omega)) takes0 hr (a_cons (o_var 0) (a_cons (((e_pow ((e_int).d).o ((e_int).d).o).d).o) a_nil))).d).o ((e_pow ((e_int).d).o ((e_int).d).o).d).o).d)).d).o)))
    (b_one (s_if (t_cmp (k_eq hr.units) (o_var 4) ((e_str).d).o) (b_cons (s_expr (e_app 2 ((e_var 6).d)))
    (b_one (s_expr (e_app 3 ((e_tuple T.z_tuple (((e_lc (own := [("k", 7)]) sc__law_good_test.nd (i_rng1 T.z_range (((e_call ((ok__law_draw T).mono (by omega)) tk hr (a_cons (o_var 0) (a_cons ((e_int).d).o a_nil))).d).o)) (blkOk_by (N := N__law_good_test) (sc := (defScope st__law_good_test)) (by decide +kernel)) (fun _ _ _ _ _ => (g_name 7 sc__law_good_test.nd)) (fun _ _ _ _ _ => c_nil) (fun _ _ _ _ _ => (e_sub ((e_call ((ok__law_draw T).mono (by omega)) takes0 hr (a_cons (o_var 0) (a_cons ((e_int).d).o a_nil))).d).o ((e_int).d).o).d)).d).o)).d))))) (b_one (s_expr (e_app 2 ((e_sub ((e_call ((ok__law_draw T).mono (by omega)) tk hr (a_cons (o_var 0) (a_cons ((e_int).d).o a_nil))).d).o ((e_int).d).o).d))))))))
    (b_one (s_ret (e_tup (l_cons ((e_ix (o_var 1) ((e_int).d).o).d) (l_cons ((e_tuple T.z_tuple (o_var 2)).d) (l_cons ((e_tuple T.z_tuple (((e_lc (own := [("result", 8)]) sc__law_good_test.nd (i_any ((e_ix (o_var 1) ((e_int).d).o).d)) (blkOk_by (N := N__law_good_test) (sc := (defScope st__law_good_test)) (by decide +kernel)) (fun _ _ _ _ _ => (g_name 8 sc__law_good_test.nd)) (fun _ _ _ _ _ => c_nil) (fun _ _ _ _ _ => (e_sub ((e_call ((ok__law_draw T).mono (by omega)) takes0 hr (a_cons (o_var 0) (a_cons ((e_int).d).o a_nil))).d).o ((e_int).d).o).d)).d).o)).d) (l_cons ((e_tuple T.z_tuple (o_var 3)).d) l_nil))))))))))
theorem ok__law_is_good (T : Tx K mg) : Cal P w K mg base 3 "_law_is_good" 2 F__law_is_good := cal_ok T.d__law_is_good sc__law_is_good rfl rfl fun f cdv A outer s H E hr tk po =>
  (b_cons (s_if ((w_or (t_not (t_any (((e_isi T.z_isinstance T.z_tuple (o_var 1)).d).o))) (w_or (t_cmp (k_ne hr.units) ((e_len T.z_len (o_var 1)).d).o ((e_int).d).o) (w_or1 (t_not (t_any (((e_isi T.z_isinstance T.z_str (((e_ix (o_var 1) ((e_int).d).o).d).o)).d).o)))))).t) (b_one (s_ret e_bl)) b_nil)
    (b_cons (s_setLc (own := [("p", 3)]) 2 sc__law_is_good.nd (i_any ((e_var 0).d)) (blkOk_by (N := N__law_is_good) (sc := (defScope st__law_is_good)) (by decide +kernel)) (fun _ _ _ _ _ => (g_name 3 sc__law_is_good.nd)) (fun _ _ _ _ _ => c_one (t_cmp (k_eq hr.units) ((e_ix (o_var 3) ((e_int).d).o).d).o ((e_ix (o_var 1) ((e_int).d).o).d).o)) (fun _ _ _ _ _ => (e_var 3).d) (by rfl))
    (b_cons (s_if ((w_or (t_cmp (k_eq hr.units) (o_var 2) ((e_lst l_nil).d).o) (w_or (t_not (t_any (((e_isi T.z_isinstance T.z_tuple (((e_ix (o_var 1) ((e_int).d).o).d).o)).d).o))) (w_or1 (t_cmp (k_ne hr.units) ((e_len T.z_len (((e_ix (o_var 1) ((e_int).d).o).d).o)).d).o ((e_len T.z_len (((e_ix (((e_ix (o_var 2) ((e_int).d).o).d).o) ((e_int).d).o).d).o)).d).o)))).t) (b_one (s_ret e_bl)) b_nil)
    (b_cons (s_set 4 sc__law_is_good.nd e_int)
    (b_cons (s_for po (i_rng1 T.z_range (((e_len T.z_len (((e_ix (o_var 1) ((e_int).d).o).d).o)).d).o)) (g_name 5 sc__law_is_good.nd) (b_cons (s_set 6 sc__law_is_good.nd (e_ix (((e_ix (o_var 1) ((e_int).d).o).d).o) (o_var 5)))
    (b_one (s_if (t_cmp (k_eq hr.units) ((e_ix (((e_ix (((e_ix (((e_ix (o_var 2) ((e_int).d).o).d).o) ((e_int).d).o).d).o) (o_var 5)).d).o) ((e_int).d).o).d).o ((e_str).d).o) (b_one (s_if (t_not (t_any (((e_call ((ok__law_is_int T).mono (by omega)) tk hr (a_cons (((e_var 6).d).o) a_nil)).d).o))) (b_one (s_ret e_bl)) b_nil)) (b_one (s_if ((w_or (t_not (t_any (((e_isi T.z_isinstance T.z_tuple (o_var 6)).d).o))) (w_or1 (t_not (t_any (((e_call ((ok__law_are_ints T).mono (by omega)) tk hr (a_cons (((e_var 6).d).o) (a_cons (((e_len T.z_len (o_var 6)).d).o) a_nil))).d).o))))).t) (b_one (s_ret e_bl)) (b_one (s_set 4 sc__law_is_good.nd (e_add (o_var 4) ((e_int).d).o)))))))))
    (b_cons (s_if ((w_or (t_not (t_any (((e_call ((ok__law_are_ints T).mono (by omega)) tk hr (a_cons (((e_ix (o_var 1) ((e_int).d).o).d).o) (a_cons (((e_len T.z_len (((e_ix (((e_ix (o_var 2) ((e_int).d).o).d).o) ((e_int).d).o).d).o)).d).o) a_nil))).d).o))) (w_or (t_not (t_any (((e_isi T.z_isinstance T.z_tuple (((e_ix (o_var 1) ((e_int).d).o).d).o)).d).o))) (w_or1 (t_cmp (k_ne hr.units) ((e_len T.z_len (((e_ix (o_var 1) ((e_int).d).o).d).o)).d).o (o_var 4))))).t) (b_one (s_ret e_bl)) b_nil)
    (b_one (s_ret (e_all T.z_all (((e_lc (own := [("row", 7)]) sc__law_is_good.nd (i_any ((e_ix (o_var 1) ((e_int).d).o).d)) (blkOk_by (N := N__law_is_good) (sc := (defScope st__law_is_good)) (by decide +kernel)) (fun _ _ _ _ _ => (g_name 7 sc__law_is_good.nd)) (fun _ _ _ _ _ => c_nil) (fun _ _ _ _ _ => (d_and ((e_isi T.z_isinstance T.z_tuple (o_var 7)).d) (d_one ((e_call ((ok__law_are_ints T).mono (by omega)) takes0 hr (a_cons (((e_var 7).d).o) (a_cons (((e_len T.z_len (o_var 7)).d).o) a_nil))).d))))).d).o))))))))))
theorem bd_law (T : Tx K mg) : ∀ f, Bd P w K mg base "law" st_law N_law 22 f b_law := fun f cdv A outer s H E hr tk po =>
  (b_cons (s_set 1 sc_law.nd (e_call ((ok__law_start T).mono (by omega)) tk hr (a_cons (((e_var 0).d).o) a_nil)))
    (b_cons (s_set 2 sc_law.nd (e_call ((ok__law_shape_core T).mono (by omega)) tk hr (a_cons (o_var 1) a_nil)))
    (b_cons (s_setLc (own := [("p", 4)]) 3 sc_law.nd (i_any ((e_var 2).d)) (blkOk_by (N := N_law) (sc := (defScope st_law)) (by decide +kernel)) (fun _ _ _ _ _ => (g_name 4 sc_law.nd)) (fun _ _ _ _ _ => c_nil) (fun _ _ _ _ _ => (e_call ((ok__law_good_test T).mono (by omega)) takes0 hr (a_cons (o_var 1) (a_cons (((e_var 4).d).o) a_nil))).d) (by rfl))
    (b_cons (s_for po (i_any ((e_var 3).d)) (g_name 5 sc_law.nd) (b_one (s_if (t_cmp k_isnotB ((e_call ((ok_is_test T).mono (by omega)) tk hr (a_cons (((e_var 2).d).o) (a_cons (((e_var 5).d).o) a_nil))).d).o ((e_bl).d).o) (b_one (s_ret e_bl)) b_nil)))
    (b_cons (s_for po (i_rng1 T.z_range ((e_int).d).o) (g_name 6 sc_law.nd) (b_cons (s_set 5 sc_law.nd (e_call ((ok__law_one_of T).mono (by omega)) tk hr (a_cons (o_var 1) (a_cons (((e_var 3).d).o) a_nil))))
    (b_cons (s_set 7 sc_law.nd (e_call ((ok__law_draw T).mono (by omega)) tk hr (a_cons (o_var 1) (a_cons ((e_int).d).o a_nil))))
    (b_cons (s_set 8 sc_law.nd (e_call ((ok__law_one_of T).mono (by omega)) tk hr (a_cons (o_var 1) (a_cons (((e_var 3).d).o) a_nil))))
    (b_cons (s_set 9 sc_law.nd (e_lst (l_cons ((e_add ((e_add ((e_sl (o_var 5) sp_none (sp_some ((e_var 7).d))).d).o ((e_tup (l_cons ((e_ix (o_var 8) (o_var 7)).d) l_nil)).d).o).d).o ((e_sl (o_var 5) (sp_some ((e_add (o_var 7) ((e_int).d).o).d)) sp_none).d).o).d) (l_cons ((e_sl (o_var 5) sp_none (sp_some (e_int).d)).d) (l_cons ((e_add (o_var 5) ((e_tup (l_cons ((e_tup l_nil).d) l_nil)).d).o).d) (l_cons ((e_sl (o_var 5) (sp_some (e_int).d) sp_none).d) (l_cons ((e_tup (l_cons ((e_var 5).d) l_nil)).d) (l_cons ((e_rev ((e_var 5).d)).d) l_nil))))))))
    (b_cons (s_set 9 sc_law.nd (e_add (o_var 9) ((e_lst (l_cons ((e_add ((e_sl (o_var 5) sp_none (sp_some (e_int).d)).d).o ((e_tup (l_cons ((e_add ((e_ix (o_var 5) ((e_int).d).o).d).o ((e_tup (l_cons (e_int).d l_nil)).d).o).d) (l_cons ((e_ix (o_var 5) ((e_int).d).o).d) l_nil))).d).o).d) (l_cons ((e_add ((e_sl (o_var 5) sp_none (sp_some (e_int).d)).d).o ((e_tup (l_cons ((e_add ((e_ix (o_var 5) ((e_int).d).o).d).o ((e_tup (l_cons ((e_tup l_nil).d) l_nil)).d).o).d) l_nil)).d).o).d) (l_cons ((e_add ((e_tup (l_cons (e_str).d l_nil)).d).o ((e_sl (o_var 5) (sp_some (e_int).d) sp_none).d).o).d) l_nil)))).d).o))
    (b_cons (s_set 9 sc_law.nd (e_add (o_var 9) ((e_lst (l_cons ((e_add ((e_add ((e_sl (o_var 5) sp_none (sp_some (e_int).d)).d).o ((e_tup (l_cons ((e_add ((e_ix (o_var 5) ((e_int).d).o).d).o ((e_tup (l_cons (e_int).d l_nil)).d).o).d) l_nil)).d).o).d).o ((e_sl (o_var 5) (sp_some (e_int).d) sp_none).d).o).d) (l_cons ((e_add ((e_add ((e_sl (o_var 5) sp_none (sp_some (e_int).d)).d).o ((e_tup (l_cons ((e_sl (((e_ix (o_var 5) ((e_int).d).o).d).o) (sp_some (e_int).d) sp_none).d) l_nil)).d).o).d).o ((e_sl (o_var 5) (sp_some (e_int).d) sp_none).d).o).d) (l_cons ((e_ix (o_var 5) ((e_int).d).o).d) (l_cons (e_int).d (l_cons ((e_tup l_nil).d) l_nil)))))).d).o))
    (b_one (s_for po (i_any ((e_lst (l_cons ((e_call ((ok__law_bent T 20).mono (by omega)) tk hr (a_cons (o_var 1) (a_cons (((e_var 5).d).o) (a_cons ((e_int).d).o a_nil)))).d) (l_cons ((e_call ((ok__law_one_of T).mono (by omega)) tk hr (a_cons (o_var 1) (a_cons (((e_var 9).d).o) a_nil))).d) l_nil))).d)) (g_name 10 sc_law.nd) (b_one (s_if (t_not (t_any (((e_call ((ok__law_says T).mono (by omega)) tk hr (a_cons (((e_call ((ok_is_test T).mono (by omega)) tk hr (a_cons (((e_var 2).d).o) (a_cons (((e_var 10).d).o) a_nil))).d).o) (a_cons (((e_call ((ok__law_is_good T).mono (by omega)) tk hr (a_cons (((e_var 2).d).o) (a_cons (((e_var 10).d).o) a_nil))).d).o) a_nil))).d).o))) (b_one (s_ret e_bl)) b_nil)))))))))))
    (b_one (s_ret e_bl)))))))
end
end K00
namespace K00
open PySem PySem.Spec PyProof.Rows L2 RF
theorem law_fd {P : Program} {w : World} {K : PySem.W.Frag} {mg : Str → Option Value} {fa f : Addr} {an : Option Addr} {kV dc pm cd ct : Value} (T : Tx K mg)
    (Dl : DefAt K mg "law" st_law ["script"] f (PySem.W.fnOf "law" "law" (defArgs st_law) (defBody st_law) (defScope st_law) .none kV dc pm an cd ct)) (hm : mg "law" = some (.ref fa)) :
    ∃ fd : FuncData, (∀ (s : Shared) (u : Value), BindsTo s fd ⟨[u], []⟩ [("script", u)]) ∧ ∀ base : Heap, K.In base → base.Ns mainGlobals mg → FnOk P w K mg base (L2.CX P w) 23 fa fd ["script"] (spF K F_law 1) := by
  have e := hm.symm.trans Dl.mgx
  cases e
  exact ⟨_, fun s v => .of_eq rfl, fun base _ _ => fnok_at Dl sc_law rfl (bd_law T)⟩
end K00

namespace K00
open PySem PySem.Spec PyProof.Rows L2 RF
/-! the plain side -/
def tin (d : D) : Bool := match d with
  | .tup ds => ds.all isN
  | _ => false
def tn (d : D) (n : Int) : Bool := match d with
  | .tup ds => (ds.length : Int) == n
  | _ => false
structure P where
  name : Str
  items : List (Bool × Str)
  res : List Str
def kD (b : Bool) : D := if b then .str "array" else .str "int"
def iD (i : Bool × Str) : D := .tup [kD i.1, .str i.2]
def pD (p : P) : D := .tup [.str p.name, .tup (p.items.map iD), .tup (p.res.map D.str), .tup [], .tup [], .tup [], .tup [], .tup [], .tup [.tup [.str "pause"]]]
def arrs (p : P) : Nat := (p.items.filter (·.1)).length
def vOk (k : Bool) (d : D) : Bool := if k then tin d else isN d
def vals : List (Bool × Str) → List D → Bool
  | i :: is, d :: ds => vOk i.1 d && vals is ds
  | [], [] => true
  | _, _ => false
def rowsOk (d : D) (n : Nat) : Bool := match d with
  | .tup ds => ds.length == n && ds.all tin
  | _ => false
def good1 (p : P) (b c e : D) : Bool := (match b with | .tup bs => vals p.items bs | _ => false) && (tin c && tn c p.res.length) && rowsOk e (arrs p)
def good (ps : List P) (d : D) : Bool := match d with
  | .tup [.str s, b, c, e] => match ps.find? fun p => p.name == s with
    | some p => good1 p b c e
    | none => false
  | _ => false
/-! what the data are made of -/
mutual
def smD : D → Bool
  | .int _ => true
  | .str _ => true
  | .tup ds => decide (ds.length ≤ 2 ^ 20) && smL ds
  | _ => false
def smL : List D → Bool
  | [] => true
  | d :: ds => smD d && smL ds
end
theorem smL_iff : ∀ {ds : List D}, smL ds = true ↔ ∀ d ∈ ds, smD d = true
  | [] => by simp [smL]
  | d :: ds => by simp [smL, smL_iff (ds := ds)]
mutual
theorem sm_plain : ∀ (d : D), smD d = true → RF.plain d = true
  | .int _, _ => rfl
  | .str _, _ => rfl
  | .tup ds, h => by
    simp only [smD, Bool.and_eq_true] at h
    exact sm_plainL ds h.2
  | .non, h => by simp [smD] at h
  | .bl _, h => by simp [smD] at h
  | .lst _, h => by simp [smD] at h
  | .rls _, h => by simp [smD] at h
  | .dct _ _, h => by simp [smD] at h
theorem sm_plainL : ∀ (ds : List D), smL ds = true → RF.plainL ds = true
  | [], _ => rfl
  | d :: ds, h => by
    simp only [smL, Bool.and_eq_true] at h
    simp only [RF.plainL, Bool.and_eq_true]
    exact ⟨sm_plain d h.1, sm_plainL ds h.2⟩
end
theorem sm_len {d : D} (h : smD d = true) : ∀ ds, d = .tup ds → ds.length ≤ 2 ^ 20 := by
  rintro ds rfl
  simp only [smD, Bool.and_eq_true, decide_eq_true_eq] at h
  exact h.1
theorem sm_mem {ds : List D} (h : smD (.tup ds) = true) : ∀ d ∈ ds, smD d = true := by
  simp only [smD, Bool.and_eq_true] at h
  exact smL_iff.mp h.2
theorem f_int (d : D) : F_is_integer [.va d] = .ok (.va (.bl (isN d))) [.va d] := isint_eq
theorem f_lint (d : D) : F__law_is_int [.va d] = .ok (.va (.bl (isN d))) [.va d] := isint_eq
theorem f_tup (d : D) (n : Int) : F_is_tuple [.va d, .va (.int n)] = .ok (.va (.bl (tn d n))) [.va d, .va (.int n)] := by
  refine wp_ok ?_
  unfold F_is_tuple b_is_tuple
  cases d <;> simp -dsimp -implicitDefEqProofs only [RF.w_seq, RF.w_if, RF.w_asg, RF.w_ret, RF.w_drop, RF.w_nx, RF.w_run, RF.w_C, RF.w_var, RF.w_mv, RF.w_D, RF.w_V, RF.w_ev, RF.w_lv, RF.w_op, RF.w_T, RF.w_B, RF.w_notT, RF.w_andT, RF.w_orT, RF.w_andV, RF.w_orV, RF.w_not, RF.w_neg, RF.w_CB, RF.w_pre0, RF.w_pre, RF.w_isi, RF.w_evs0, RF.w_evs, RF.w_tup, RF.w_lst, RF.w_part0, RF.w_part, RF.w_sl, RF.w_call, RF.w_call0, RF.w_app, RF.w_ext, RF.w_ins, RF.w_pop, RF.w_setI, RF.w_aug, RF.w_asgT, RF.w_for, RF.w_for0, RF.w_for1, RF.w_it, RF.w_enum, RF.w_rng1, RF.w_rng2, RF.w_lc, RF.w_lc0, RF.w_lc1, RF.w_chain, RF.w_lam, RF.w_bnd, RF.oK_some, RF.oK_none, RF.oK_ite, RF.ifK_true, RF.ifK_false, RF.ifK_not, RF.seqK_nx, RF.seqK_bk, RF.seqK_ct, RF.seqK_rt, RF.stO_un, RF.stO_va, RF.stO_ow, RF.retK_rt, RF.retK_nx, RF.back_nil, RF.back_ow, RF.back_va, RF.varK_va, RF.varK_ow, RF.toD_lst, RF.toD_dct, RF.mvK_va, RF.mvK_ow, RF.rvK_va, RF.rvK_ow, RF.rdS_va, RF.rdS_ow, RF.fin_ev, RF.fin_lv, RF.ap2_some, RF.blK_bl, RF.negD, RF.cons2_some, RF.finL_nil, RF.finL_cons, RF.intK_int, RF.mkA_nil, RF.mkA_ev, RF.mkS_ow, RF.mkA_lv, RF.putA_nil, RF.putA_ev, RF.putS_ow, RF.putA_lv, RF.owS_ow, RF.vaS_va, RF.tgN_eq, RF.tgO_un, RF.tgO_va, RF.tgO_ow, RF.tgT_tup, RF.tgL_nil, RF.tgL_cons, RF.forK_nx, RF.forK_ct, RF.forK_bk, RF.forK_rt, RF.asV, Option.map_some, Option.map_none, Option.bind_some, Option.bind_none, Option.some.injEq, List.getElem?_cons_zero, List.getElem?_cons_succ, List.set_cons_zero, List.set_cons_succ, List.length_cons, List.length_nil, List.cons_append, List.nil_append, List.replicate_succ, List.replicate_zero, Nat.reduceAdd, Nat.reduceSub, Nat.add_zero, Nat.zero_add, Nat.sub_self, RF.seqI, RF.seqD, RF.wipeE, RF.restE, Option.getD_some, RF.ix_lst0, RF.ix_tup0, RF.ixN_0, RF.ix_lst1, RF.ix_tup1, RF.ixN_1, RF.ix_lst2, RF.ix_tup2, RF.ixN_2, RF.ix_lst3, RF.ix_tup3, RF.ixN_3, RF.ix_lst4, RF.ix_tup4, RF.ixN_4, RF.ix_lst5, RF.ix_tup5, RF.ixN_5, RF.ix_lst6, RF.ix_tup6, RF.ixN_6, RF.ix_lst7, RF.ix_tup7, RF.ixN_7, RF.ix_lst8, RF.ix_tup8, RF.ixN_8, RF.add_int, RF.dSub, RF.dMul, RF.dFdiv, RF.dMod, RF.dPow, RF.eq_int, RF.eq_str, RF.ne_int, RF.ne_str, RF.dLt, RF.le_int, RF.gt_int, RF.ge_int, RF.dIs, RF.dLen, RF.dAbs, RF.dInt, RF.dList, RF.dTup, RF.dAll, RF.dAny, RF.dSum, RF.dMax2, RF.dMin2, RF.truthD, RF.isNon, RF.isi_t, RF.isi_s, RF.isi_i, RF.isi_b, RF.isT, RF.isS, RF.isN, RF.isNB, RF.isBl, Bool.not_false, Bool.not_true, tn, and_self]
theorem bools_map {α : Type} (f : α → Bool) : ∀ l : List α, boolsD (l.map fun x => D.bl (f x)) = some (l.map f)
  | [] => rfl
  | x :: l => by rw [List.map_cons, boolsD, bools_map f l]; rfl
theorem f_ints (d : D) (h : ∀ ds, d = .tup ds → ds.length ≤ 2 ^ 20) : F_are_integers [.va d] = .ok (.va (.bl (tin d))) [.va d] := by
  refine wp_ok ?_
  unfold F_are_integers b_are_integers
  cases d <;> simp -dsimp -implicitDefEqProofs only [RF.w_seq, RF.w_if, RF.w_asg, RF.w_ret, RF.w_drop, RF.w_nx, RF.w_run, RF.w_C, RF.w_var, RF.w_mv, RF.w_D, RF.w_V, RF.w_ev, RF.w_lv, RF.w_op, RF.w_T, RF.w_B, RF.w_notT, RF.w_andT, RF.w_orT, RF.w_andV, RF.w_orV, RF.w_not, RF.w_neg, RF.w_CB, RF.w_pre0, RF.w_pre, RF.w_isi, RF.w_evs0, RF.w_evs, RF.w_tup, RF.w_lst, RF.w_part0, RF.w_part, RF.w_sl, RF.w_call, RF.w_call0, RF.w_app, RF.w_ext, RF.w_ins, RF.w_pop, RF.w_setI, RF.w_aug, RF.w_asgT, RF.w_for, RF.w_for0, RF.w_for1, RF.w_it, RF.w_enum, RF.w_rng1, RF.w_rng2, RF.w_lc, RF.w_lc0, RF.w_lc1, RF.w_chain, RF.w_lam, RF.w_bnd, RF.oK_some, RF.oK_none, RF.oK_ite, RF.ifK_true, RF.ifK_false, RF.ifK_not, RF.seqK_nx, RF.seqK_bk, RF.seqK_ct, RF.seqK_rt, RF.stO_un, RF.stO_va, RF.stO_ow, RF.retK_rt, RF.retK_nx, RF.back_nil, RF.back_ow, RF.back_va, RF.varK_va, RF.varK_ow, RF.toD_lst, RF.toD_dct, RF.mvK_va, RF.mvK_ow, RF.rvK_va, RF.rvK_ow, RF.rdS_va, RF.rdS_ow, RF.fin_ev, RF.fin_lv, RF.ap2_some, RF.blK_bl, RF.negD, RF.cons2_some, RF.finL_nil, RF.finL_cons, RF.intK_int, RF.mkA_nil, RF.mkA_ev, RF.mkS_ow, RF.mkA_lv, RF.putA_nil, RF.putA_ev, RF.putS_ow, RF.putA_lv, RF.owS_ow, RF.vaS_va, RF.tgN_eq, RF.tgO_un, RF.tgO_va, RF.tgO_ow, RF.tgT_tup, RF.tgL_nil, RF.tgL_cons, RF.forK_nx, RF.forK_ct, RF.forK_bk, RF.forK_rt, RF.asV, Option.map_some, Option.map_none, Option.bind_some, Option.bind_none, Option.some.injEq, List.getElem?_cons_zero, List.getElem?_cons_succ, List.set_cons_zero, List.set_cons_succ, List.length_cons, List.length_nil, List.cons_append, List.nil_append, List.replicate_succ, List.replicate_zero, Nat.reduceAdd, Nat.reduceSub, Nat.add_zero, Nat.zero_add, Nat.sub_self, RF.seqI, RF.seqD, RF.wipeE, RF.restE, Option.getD_some, RF.ix_lst0, RF.ix_tup0, RF.ixN_0, RF.ix_lst1, RF.ix_tup1, RF.ixN_1, RF.ix_lst2, RF.ix_tup2, RF.ixN_2, RF.ix_lst3, RF.ix_tup3, RF.ixN_3, RF.ix_lst4, RF.ix_tup4, RF.ixN_4, RF.ix_lst5, RF.ix_tup5, RF.ixN_5, RF.ix_lst6, RF.ix_tup6, RF.ixN_6, RF.ix_lst7, RF.ix_tup7, RF.ixN_7, RF.ix_lst8, RF.ix_tup8, RF.ixN_8, RF.add_int, RF.dSub, RF.dMul, RF.dFdiv, RF.dMod, RF.dPow, RF.eq_int, RF.eq_str, RF.ne_int, RF.ne_str, RF.dLt, RF.le_int, RF.gt_int, RF.ge_int, RF.dIs, RF.dLen, RF.dAbs, RF.dInt, RF.dList, RF.dTup, RF.dAll, RF.dAny, RF.dSum, RF.dMax2, RF.dMin2, RF.truthD, RF.isNon, RF.isi_t, RF.isi_s, RF.isi_i, RF.isi_b, RF.isT, RF.isS, RF.isN, RF.isNB, RF.isBl, Bool.not_false, Bool.not_true, tin, and_self]
  rename_i ds
  have hl := h ds rfl
  refine ⟨by rfl, ?_⟩
  refine (wp_of (lc_map (fun d => .bl (isN d)) ds (fun i d e => ?_))).mpr ?_
  · refine ⟨_, rfl, ?_⟩
    simp -dsimp -implicitDefEqProofs only [RF.w_seq, RF.w_if, RF.w_asg, RF.w_ret, RF.w_drop, RF.w_nx, RF.w_run, RF.w_C, RF.w_var, RF.w_mv, RF.w_D, RF.w_V, RF.w_ev, RF.w_lv, RF.w_op, RF.w_T, RF.w_B, RF.w_notT, RF.w_andT, RF.w_orT, RF.w_andV, RF.w_orV, RF.w_not, RF.w_neg, RF.w_CB, RF.w_pre0, RF.w_pre, RF.w_isi, RF.w_evs0, RF.w_evs, RF.w_tup, RF.w_lst, RF.w_part0, RF.w_part, RF.w_sl, RF.w_call, RF.w_call0, RF.w_app, RF.w_ext, RF.w_ins, RF.w_pop, RF.w_setI, RF.w_aug, RF.w_asgT, RF.w_for, RF.w_for0, RF.w_for1, RF.w_it, RF.w_enum, RF.w_rng1, RF.w_rng2, RF.w_lc, RF.w_lc0, RF.w_lc1, RF.w_chain, RF.w_lam, RF.w_bnd, RF.oK_some, RF.oK_none, RF.oK_ite, RF.ifK_true, RF.ifK_false, RF.ifK_not, RF.seqK_nx, RF.seqK_bk, RF.seqK_ct, RF.seqK_rt, RF.stO_un, RF.stO_va, RF.stO_ow, RF.retK_rt, RF.retK_nx, RF.back_nil, RF.back_ow, RF.back_va, RF.varK_va, RF.varK_ow, RF.toD_lst, RF.toD_dct, RF.mvK_va, RF.mvK_ow, RF.rvK_va, RF.rvK_ow, RF.rdS_va, RF.rdS_ow, RF.fin_ev, RF.fin_lv, RF.ap2_some, RF.blK_bl, RF.negD, RF.cons2_some, RF.finL_nil, RF.finL_cons, RF.intK_int, RF.mkA_nil, RF.mkA_ev, RF.mkS_ow, RF.mkA_lv, RF.putA_nil, RF.putA_ev, RF.putS_ow, RF.putA_lv, RF.owS_ow, RF.vaS_va, RF.tgN_eq, RF.tgO_un, RF.tgO_va, RF.tgO_ow, RF.tgT_tup, RF.tgL_nil, RF.tgL_cons, RF.forK_nx, RF.forK_ct, RF.forK_bk, RF.forK_rt, RF.asV, Option.map_some, Option.map_none, Option.bind_some, Option.bind_none, Option.some.injEq, List.getElem?_cons_zero, List.getElem?_cons_succ, List.set_cons_zero, List.set_cons_succ, List.length_cons, List.length_nil, List.cons_append, List.nil_append, List.replicate_succ, List.replicate_zero, Nat.reduceAdd, Nat.reduceSub, Nat.add_zero, Nat.zero_add, Nat.sub_self, RF.seqI, RF.seqD, RF.wipeE, RF.restE, Option.getD_some, RF.ix_lst0, RF.ix_tup0, RF.ixN_0, RF.ix_lst1, RF.ix_tup1, RF.ixN_1, RF.ix_lst2, RF.ix_tup2, RF.ixN_2, RF.ix_lst3, RF.ix_tup3, RF.ixN_3, RF.ix_lst4, RF.ix_tup4, RF.ixN_4, RF.ix_lst5, RF.ix_tup5, RF.ixN_5, RF.ix_lst6, RF.ix_tup6, RF.ixN_6, RF.ix_lst7, RF.ix_tup7, RF.ixN_7, RF.ix_lst8, RF.ix_tup8, RF.ixN_8, RF.add_int, RF.dSub, RF.dMul, RF.dFdiv, RF.dMod, RF.dPow, RF.eq_int, RF.eq_str, RF.ne_int, RF.ne_str, RF.dLt, RF.le_int, RF.gt_int, RF.ge_int, RF.dIs, RF.dLen, RF.dAbs, RF.dInt, RF.dList, RF.dTup, RF.dAll, RF.dAny, RF.dSum, RF.dMax2, RF.dMin2, RF.truthD, RF.isNon, wp_of (f_int d)]
    exact ⟨by trivial, by trivial⟩
  refine ⟨by rw [List.length_map]; exact Nat.le_trans hl (by decide), ?_⟩
  simp -dsimp -implicitDefEqProofs only [RF.w_seq, RF.w_if, RF.w_asg, RF.w_ret, RF.w_drop, RF.w_nx, RF.w_run, RF.w_C, RF.w_var, RF.w_mv, RF.w_D, RF.w_V, RF.w_ev, RF.w_lv, RF.w_op, RF.w_T, RF.w_B, RF.w_notT, RF.w_andT, RF.w_orT, RF.w_andV, RF.w_orV, RF.w_not, RF.w_neg, RF.w_CB, RF.w_pre0, RF.w_pre, RF.w_isi, RF.w_evs0, RF.w_evs, RF.w_tup, RF.w_lst, RF.w_part0, RF.w_part, RF.w_sl, RF.w_call, RF.w_call0, RF.w_app, RF.w_ext, RF.w_ins, RF.w_pop, RF.w_setI, RF.w_aug, RF.w_asgT, RF.w_for, RF.w_for0, RF.w_for1, RF.w_it, RF.w_enum, RF.w_rng1, RF.w_rng2, RF.w_lc, RF.w_lc0, RF.w_lc1, RF.w_chain, RF.w_lam, RF.w_bnd, RF.oK_some, RF.oK_none, RF.oK_ite, RF.ifK_true, RF.ifK_false, RF.ifK_not, RF.seqK_nx, RF.seqK_bk, RF.seqK_ct, RF.seqK_rt, RF.stO_un, RF.stO_va, RF.stO_ow, RF.retK_rt, RF.retK_nx, RF.back_nil, RF.back_ow, RF.back_va, RF.varK_va, RF.varK_ow, RF.toD_lst, RF.toD_dct, RF.mvK_va, RF.mvK_ow, RF.rvK_va, RF.rvK_ow, RF.rdS_va, RF.rdS_ow, RF.fin_ev, RF.fin_lv, RF.ap2_some, RF.blK_bl, RF.negD, RF.cons2_some, RF.finL_nil, RF.finL_cons, RF.intK_int, RF.mkA_nil, RF.mkA_ev, RF.mkS_ow, RF.mkA_lv, RF.putA_nil, RF.putA_ev, RF.putS_ow, RF.putA_lv, RF.owS_ow, RF.vaS_va, RF.tgN_eq, RF.tgO_un, RF.tgO_va, RF.tgO_ow, RF.tgT_tup, RF.tgL_nil, RF.tgL_cons, RF.forK_nx, RF.forK_ct, RF.forK_bk, RF.forK_rt, RF.asV, Option.map_some, Option.map_none, Option.bind_some, Option.bind_none, Option.some.injEq, List.getElem?_cons_zero, List.getElem?_cons_succ, List.set_cons_zero, List.set_cons_succ, List.length_cons, List.length_nil, List.cons_append, List.nil_append, List.replicate_succ, List.replicate_zero, Nat.reduceAdd, Nat.reduceSub, Nat.add_zero, Nat.zero_add, Nat.sub_self, RF.seqI, RF.seqD, RF.wipeE, RF.restE, Option.getD_some, RF.ix_lst0, RF.ix_tup0, RF.ixN_0, RF.ix_lst1, RF.ix_tup1, RF.ixN_1, RF.ix_lst2, RF.ix_tup2, RF.ixN_2, RF.ix_lst3, RF.ix_tup3, RF.ixN_3, RF.ix_lst4, RF.ix_tup4, RF.ixN_4, RF.ix_lst5, RF.ix_tup5, RF.ixN_5, RF.ix_lst6, RF.ix_tup6, RF.ixN_6, RF.ix_lst7, RF.ix_tup7, RF.ixN_7, RF.ix_lst8, RF.ix_tup8, RF.ixN_8, RF.add_int, RF.dSub, RF.dMul, RF.dFdiv, RF.dMod, RF.dPow, RF.eq_int, RF.eq_str, RF.ne_int, RF.ne_str, RF.dLt, RF.le_int, RF.gt_int, RF.ge_int, RF.dIs, RF.dLen, RF.dAbs, RF.dInt, RF.dList, RF.dTup, RF.dAll, RF.dAny, RF.dSum, RF.dMax2, RF.dMin2, RF.truthD, RF.isNon, bools_map]
  simp [tin]
theorem f_lints (d : D) (n : Int) (h : ∀ ds, d = .tup ds → ds.length ≤ 2 ^ 20) : F__law_are_ints [.va d, .va (.int n)] = .ok (.va (.bl (tn d n && tin d))) [.va d, .va (.int n)] := by
  refine wp_ok ?_
  unfold F__law_are_ints b__law_are_ints
  cases d <;> simp -dsimp -implicitDefEqProofs only [RF.w_seq, RF.w_if, RF.w_asg, RF.w_ret, RF.w_drop, RF.w_nx, RF.w_run, RF.w_C, RF.w_var, RF.w_mv, RF.w_D, RF.w_V, RF.w_ev, RF.w_lv, RF.w_op, RF.w_T, RF.w_B, RF.w_notT, RF.w_andT, RF.w_orT, RF.w_andV, RF.w_orV, RF.w_not, RF.w_neg, RF.w_CB, RF.w_pre0, RF.w_pre, RF.w_isi, RF.w_evs0, RF.w_evs, RF.w_tup, RF.w_lst, RF.w_part0, RF.w_part, RF.w_sl, RF.w_call, RF.w_call0, RF.w_app, RF.w_ext, RF.w_ins, RF.w_pop, RF.w_setI, RF.w_aug, RF.w_asgT, RF.w_for, RF.w_for0, RF.w_for1, RF.w_it, RF.w_enum, RF.w_rng1, RF.w_rng2, RF.w_lc, RF.w_lc0, RF.w_lc1, RF.w_chain, RF.w_lam, RF.w_bnd, RF.oK_some, RF.oK_none, RF.oK_ite, RF.ifK_true, RF.ifK_false, RF.ifK_not, RF.seqK_nx, RF.seqK_bk, RF.seqK_ct, RF.seqK_rt, RF.stO_un, RF.stO_va, RF.stO_ow, RF.retK_rt, RF.retK_nx, RF.back_nil, RF.back_ow, RF.back_va, RF.varK_va, RF.varK_ow, RF.toD_lst, RF.toD_dct, RF.mvK_va, RF.mvK_ow, RF.rvK_va, RF.rvK_ow, RF.rdS_va, RF.rdS_ow, RF.fin_ev, RF.fin_lv, RF.ap2_some, RF.blK_bl, RF.negD, RF.cons2_some, RF.finL_nil, RF.finL_cons, RF.intK_int, RF.mkA_nil, RF.mkA_ev, RF.mkS_ow, RF.mkA_lv, RF.putA_nil, RF.putA_ev, RF.putS_ow, RF.putA_lv, RF.owS_ow, RF.vaS_va, RF.tgN_eq, RF.tgO_un, RF.tgO_va, RF.tgO_ow, RF.tgT_tup, RF.tgL_nil, RF.tgL_cons, RF.forK_nx, RF.forK_ct, RF.forK_bk, RF.forK_rt, RF.asV, Option.map_some, Option.map_none, Option.bind_some, Option.bind_none, Option.some.injEq, List.getElem?_cons_zero, List.getElem?_cons_succ, List.set_cons_zero, List.set_cons_succ, List.length_cons, List.length_nil, List.cons_append, List.nil_append, List.replicate_succ, List.replicate_zero, Nat.reduceAdd, Nat.reduceSub, Nat.add_zero, Nat.zero_add, Nat.sub_self, RF.seqI, RF.seqD, RF.wipeE, RF.restE, Option.getD_some, RF.ix_lst0, RF.ix_tup0, RF.ixN_0, RF.ix_lst1, RF.ix_tup1, RF.ixN_1, RF.ix_lst2, RF.ix_tup2, RF.ixN_2, RF.ix_lst3, RF.ix_tup3, RF.ixN_3, RF.ix_lst4, RF.ix_tup4, RF.ixN_4, RF.ix_lst5, RF.ix_tup5, RF.ixN_5, RF.ix_lst6, RF.ix_tup6, RF.ixN_6, RF.ix_lst7, RF.ix_tup7, RF.ixN_7, RF.ix_lst8, RF.ix_tup8, RF.ixN_8, RF.add_int, RF.dSub, RF.dMul, RF.dFdiv, RF.dMod, RF.dPow, RF.eq_int, RF.eq_str, RF.ne_int, RF.ne_str, RF.dLt, RF.le_int, RF.gt_int, RF.ge_int, RF.dIs, RF.dLen, RF.dAbs, RF.dInt, RF.dList, RF.dTup, RF.dAll, RF.dAny, RF.dSum, RF.dMax2, RF.dMin2, RF.truthD, RF.isNon, RF.isi_t, RF.isi_s, RF.isi_i, RF.isi_b, RF.isT, RF.isS, RF.isN, RF.isNB, RF.isBl, Bool.not_false, Bool.not_true, tin, tn, and_self, Bool.false_and]
  rename_i ds
  have hl := h ds rfl
  rw [ifK_beq]
  refine ⟨fun c => ?_, fun c => ?_⟩
  · simp -dsimp -implicitDefEqProofs only [RF.w_seq, RF.w_if, RF.w_asg, RF.w_ret, RF.w_drop, RF.w_nx, RF.w_run, RF.w_C, RF.w_var, RF.w_mv, RF.w_D, RF.w_V, RF.w_ev, RF.w_lv, RF.w_op, RF.w_T, RF.w_B, RF.w_notT, RF.w_andT, RF.w_orT, RF.w_andV, RF.w_orV, RF.w_not, RF.w_neg, RF.w_CB, RF.w_pre0, RF.w_pre, RF.w_isi, RF.w_evs0, RF.w_evs, RF.w_tup, RF.w_lst, RF.w_part0, RF.w_part, RF.w_sl, RF.w_call, RF.w_call0, RF.w_app, RF.w_ext, RF.w_ins, RF.w_pop, RF.w_setI, RF.w_aug, RF.w_asgT, RF.w_for, RF.w_for0, RF.w_for1, RF.w_it, RF.w_enum, RF.w_rng1, RF.w_rng2, RF.w_lc, RF.w_lc0, RF.w_lc1, RF.w_chain, RF.w_lam, RF.w_bnd, RF.oK_some, RF.oK_none, RF.oK_ite, RF.ifK_true, RF.ifK_false, RF.ifK_not, RF.seqK_nx, RF.seqK_bk, RF.seqK_ct, RF.seqK_rt, RF.stO_un, RF.stO_va, RF.stO_ow, RF.retK_rt, RF.retK_nx, RF.back_nil, RF.back_ow, RF.back_va, RF.varK_va, RF.varK_ow, RF.toD_lst, RF.toD_dct, RF.mvK_va, RF.mvK_ow, RF.rvK_va, RF.rvK_ow, RF.rdS_va, RF.rdS_ow, RF.fin_ev, RF.fin_lv, RF.ap2_some, RF.blK_bl, RF.negD, RF.cons2_some, RF.finL_nil, RF.finL_cons, RF.intK_int, RF.mkA_nil, RF.mkA_ev, RF.mkS_ow, RF.mkA_lv, RF.putA_nil, RF.putA_ev, RF.putS_ow, RF.putA_lv, RF.owS_ow, RF.vaS_va, RF.tgN_eq, RF.tgO_un, RF.tgO_va, RF.tgO_ow, RF.tgT_tup, RF.tgL_nil, RF.tgL_cons, RF.forK_nx, RF.forK_ct, RF.forK_bk, RF.forK_rt, RF.asV, Option.map_some, Option.map_none, Option.bind_some, Option.bind_none, Option.some.injEq, List.getElem?_cons_zero, List.getElem?_cons_succ, List.set_cons_zero, List.set_cons_succ, List.length_cons, List.length_nil, List.cons_append, List.nil_append, List.replicate_succ, List.replicate_zero, Nat.reduceAdd, Nat.reduceSub, Nat.add_zero, Nat.zero_add, Nat.sub_self, RF.seqI, RF.seqD, RF.wipeE, RF.restE, Option.getD_some, RF.ix_lst0, RF.ix_tup0, RF.ixN_0, RF.ix_lst1, RF.ix_tup1, RF.ixN_1, RF.ix_lst2, RF.ix_tup2, RF.ixN_2, RF.ix_lst3, RF.ix_tup3, RF.ixN_3, RF.ix_lst4, RF.ix_tup4, RF.ixN_4, RF.ix_lst5, RF.ix_tup5, RF.ixN_5, RF.ix_lst6, RF.ix_tup6, RF.ixN_6, RF.ix_lst7, RF.ix_tup7, RF.ixN_7, RF.ix_lst8, RF.ix_tup8, RF.ixN_8, RF.add_int, RF.dSub, RF.dMul, RF.dFdiv, RF.dMod, RF.dPow, RF.eq_int, RF.eq_str, RF.ne_int, RF.ne_str, RF.dLt, RF.le_int, RF.gt_int, RF.ge_int, RF.dIs, RF.dLen, RF.dAbs, RF.dInt, RF.dList, RF.dTup, RF.dAll, RF.dAny, RF.dSum, RF.dMax2, RF.dMin2, RF.truthD, RF.isNon]
    refine ⟨by rfl, ?_⟩
    refine (wp_of (lc_map (fun d => .bl (isN d)) ds (fun i d e => ?_))).mpr ?_
    · refine ⟨_, rfl, ?_⟩
      simp -dsimp -implicitDefEqProofs only [RF.w_seq, RF.w_if, RF.w_asg, RF.w_ret, RF.w_drop, RF.w_nx, RF.w_run, RF.w_C, RF.w_var, RF.w_mv, RF.w_D, RF.w_V, RF.w_ev, RF.w_lv, RF.w_op, RF.w_T, RF.w_B, RF.w_notT, RF.w_andT, RF.w_orT, RF.w_andV, RF.w_orV, RF.w_not, RF.w_neg, RF.w_CB, RF.w_pre0, RF.w_pre, RF.w_isi, RF.w_evs0, RF.w_evs, RF.w_tup, RF.w_lst, RF.w_part0, RF.w_part, RF.w_sl, RF.w_call, RF.w_call0, RF.w_app, RF.w_ext, RF.w_ins, RF.w_pop, RF.w_setI, RF.w_aug, RF.w_asgT, RF.w_for, RF.w_for0, RF.w_for1, RF.w_it, RF.w_enum, RF.w_rng1, RF.w_rng2, RF.w_lc, RF.w_lc0, RF.w_lc1, RF.w_chain, RF.w_lam, RF.w_bnd, RF.oK_some, RF.oK_none, RF.oK_ite, RF.ifK_true, RF.ifK_false, RF.ifK_not, RF.seqK_nx, RF.seqK_bk, RF.seqK_ct, RF.seqK_rt, RF.stO_un, RF.stO_va, RF.stO_ow, RF.retK_rt, RF.retK_nx, RF.back_nil, RF.back_ow, RF.back_va, RF.varK_va, RF.varK_ow, RF.toD_lst, RF.toD_dct, RF.mvK_va, RF.mvK_ow, RF.rvK_va, RF.rvK_ow, RF.rdS_va, RF.rdS_ow, RF.fin_ev, RF.fin_lv, RF.ap2_some, RF.blK_bl, RF.negD, RF.cons2_some, RF.finL_nil, RF.finL_cons, RF.intK_int, RF.mkA_nil, RF.mkA_ev, RF.mkS_ow, RF.mkA_lv, RF.putA_nil, RF.putA_ev, RF.putS_ow, RF.putA_lv, RF.owS_ow, RF.vaS_va, RF.tgN_eq, RF.tgO_un, RF.tgO_va, RF.tgO_ow, RF.tgT_tup, RF.tgL_nil, RF.tgL_cons, RF.forK_nx, RF.forK_ct, RF.forK_bk, RF.forK_rt, RF.asV, Option.map_some, Option.map_none, Option.bind_some, Option.bind_none, Option.some.injEq, List.getElem?_cons_zero, List.getElem?_cons_succ, List.set_cons_zero, List.set_cons_succ, List.length_cons, List.length_nil, List.cons_append, List.nil_append, List.replicate_succ, List.replicate_zero, Nat.reduceAdd, Nat.reduceSub, Nat.add_zero, Nat.zero_add, Nat.sub_self, RF.seqI, RF.seqD, RF.wipeE, RF.restE, Option.getD_some, RF.ix_lst0, RF.ix_tup0, RF.ixN_0, RF.ix_lst1, RF.ix_tup1, RF.ixN_1, RF.ix_lst2, RF.ix_tup2, RF.ixN_2, RF.ix_lst3, RF.ix_tup3, RF.ixN_3, RF.ix_lst4, RF.ix_tup4, RF.ixN_4, RF.ix_lst5, RF.ix_tup5, RF.ixN_5, RF.ix_lst6, RF.ix_tup6, RF.ixN_6, RF.ix_lst7, RF.ix_tup7, RF.ixN_7, RF.ix_lst8, RF.ix_tup8, RF.ixN_8, RF.add_int, RF.dSub, RF.dMul, RF.dFdiv, RF.dMod, RF.dPow, RF.eq_int, RF.eq_str, RF.ne_int, RF.ne_str, RF.dLt, RF.le_int, RF.gt_int, RF.ge_int, RF.dIs, RF.dLen, RF.dAbs, RF.dInt, RF.dList, RF.dTup, RF.dAll, RF.dAny, RF.dSum, RF.dMax2, RF.dMin2, RF.truthD, RF.isNon, wp_of (f_lint d)]
      exact ⟨by trivial, by trivial⟩
    refine ⟨by rw [List.length_map]; exact Nat.le_trans hl (by decide), ?_⟩
    simp -dsimp -implicitDefEqProofs only [RF.w_seq, RF.w_if, RF.w_asg, RF.w_ret, RF.w_drop, RF.w_nx, RF.w_run, RF.w_C, RF.w_var, RF.w_mv, RF.w_D, RF.w_V, RF.w_ev, RF.w_lv, RF.w_op, RF.w_T, RF.w_B, RF.w_notT, RF.w_andT, RF.w_orT, RF.w_andV, RF.w_orV, RF.w_not, RF.w_neg, RF.w_CB, RF.w_pre0, RF.w_pre, RF.w_isi, RF.w_evs0, RF.w_evs, RF.w_tup, RF.w_lst, RF.w_part0, RF.w_part, RF.w_sl, RF.w_call, RF.w_call0, RF.w_app, RF.w_ext, RF.w_ins, RF.w_pop, RF.w_setI, RF.w_aug, RF.w_asgT, RF.w_for, RF.w_for0, RF.w_for1, RF.w_it, RF.w_enum, RF.w_rng1, RF.w_rng2, RF.w_lc, RF.w_lc0, RF.w_lc1, RF.w_chain, RF.w_lam, RF.w_bnd, RF.oK_some, RF.oK_none, RF.oK_ite, RF.ifK_true, RF.ifK_false, RF.ifK_not, RF.seqK_nx, RF.seqK_bk, RF.seqK_ct, RF.seqK_rt, RF.stO_un, RF.stO_va, RF.stO_ow, RF.retK_rt, RF.retK_nx, RF.back_nil, RF.back_ow, RF.back_va, RF.varK_va, RF.varK_ow, RF.toD_lst, RF.toD_dct, RF.mvK_va, RF.mvK_ow, RF.rvK_va, RF.rvK_ow, RF.rdS_va, RF.rdS_ow, RF.fin_ev, RF.fin_lv, RF.ap2_some, RF.blK_bl, RF.negD, RF.cons2_some, RF.finL_nil, RF.finL_cons, RF.intK_int, RF.mkA_nil, RF.mkA_ev, RF.mkS_ow, RF.mkA_lv, RF.putA_nil, RF.putA_ev, RF.putS_ow, RF.putA_lv, RF.owS_ow, RF.vaS_va, RF.tgN_eq, RF.tgO_un, RF.tgO_va, RF.tgO_ow, RF.tgT_tup, RF.tgL_nil, RF.tgL_cons, RF.forK_nx, RF.forK_ct, RF.forK_bk, RF.forK_rt, RF.asV, Option.map_some, Option.map_none, Option.bind_some, Option.bind_none, Option.some.injEq, List.getElem?_cons_zero, List.getElem?_cons_succ, List.set_cons_zero, List.set_cons_succ, List.length_cons, List.length_nil, List.cons_append, List.nil_append, List.replicate_succ, List.replicate_zero, Nat.reduceAdd, Nat.reduceSub, Nat.add_zero, Nat.zero_add, Nat.sub_self, RF.seqI, RF.seqD, RF.wipeE, RF.restE, Option.getD_some, RF.ix_lst0, RF.ix_tup0, RF.ixN_0, RF.ix_lst1, RF.ix_tup1, RF.ixN_1, RF.ix_lst2, RF.ix_tup2, RF.ixN_2, RF.ix_lst3, RF.ix_tup3, RF.ixN_3, RF.ix_lst4, RF.ix_tup4, RF.ixN_4, RF.ix_lst5, RF.ix_tup5, RF.ixN_5, RF.ix_lst6, RF.ix_tup6, RF.ixN_6, RF.ix_lst7, RF.ix_tup7, RF.ixN_7, RF.ix_lst8, RF.ix_tup8, RF.ixN_8, RF.add_int, RF.dSub, RF.dMul, RF.dFdiv, RF.dMod, RF.dPow, RF.eq_int, RF.eq_str, RF.ne_int, RF.ne_str, RF.dLt, RF.le_int, RF.gt_int, RF.ge_int, RF.dIs, RF.dLen, RF.dAbs, RF.dInt, RF.dList, RF.dTup, RF.dAll, RF.dAny, RF.dSum, RF.dMax2, RF.dMin2, RF.truthD, RF.isNon, bools_map, c]
    simp [tin, tn, c]
  · simp -dsimp -implicitDefEqProofs only [RF.w_seq, RF.w_if, RF.w_asg, RF.w_ret, RF.w_drop, RF.w_nx, RF.w_run, RF.w_C, RF.w_var, RF.w_mv, RF.w_D, RF.w_V, RF.w_ev, RF.w_lv, RF.w_op, RF.w_T, RF.w_B, RF.w_notT, RF.w_andT, RF.w_orT, RF.w_andV, RF.w_orV, RF.w_not, RF.w_neg, RF.w_CB, RF.w_pre0, RF.w_pre, RF.w_isi, RF.w_evs0, RF.w_evs, RF.w_tup, RF.w_lst, RF.w_part0, RF.w_part, RF.w_sl, RF.w_call, RF.w_call0, RF.w_app, RF.w_ext, RF.w_ins, RF.w_pop, RF.w_setI, RF.w_aug, RF.w_asgT, RF.w_for, RF.w_for0, RF.w_for1, RF.w_it, RF.w_enum, RF.w_rng1, RF.w_rng2, RF.w_lc, RF.w_lc0, RF.w_lc1, RF.w_chain, RF.w_lam, RF.w_bnd, RF.oK_some, RF.oK_none, RF.oK_ite, RF.ifK_true, RF.ifK_false, RF.ifK_not, RF.seqK_nx, RF.seqK_bk, RF.seqK_ct, RF.seqK_rt, RF.stO_un, RF.stO_va, RF.stO_ow, RF.retK_rt, RF.retK_nx, RF.back_nil, RF.back_ow, RF.back_va, RF.varK_va, RF.varK_ow, RF.toD_lst, RF.toD_dct, RF.mvK_va, RF.mvK_ow, RF.rvK_va, RF.rvK_ow, RF.rdS_va, RF.rdS_ow, RF.fin_ev, RF.fin_lv, RF.ap2_some, RF.blK_bl, RF.negD, RF.cons2_some, RF.finL_nil, RF.finL_cons, RF.intK_int, RF.mkA_nil, RF.mkA_ev, RF.mkS_ow, RF.mkA_lv, RF.putA_nil, RF.putA_ev, RF.putS_ow, RF.putA_lv, RF.owS_ow, RF.vaS_va, RF.tgN_eq, RF.tgO_un, RF.tgO_va, RF.tgO_ow, RF.tgT_tup, RF.tgL_nil, RF.tgL_cons, RF.forK_nx, RF.forK_ct, RF.forK_bk, RF.forK_rt, RF.asV, Option.map_some, Option.map_none, Option.bind_some, Option.bind_none, Option.some.injEq, List.getElem?_cons_zero, List.getElem?_cons_succ, List.set_cons_zero, List.set_cons_succ, List.length_cons, List.length_nil, List.cons_append, List.nil_append, List.replicate_succ, List.replicate_zero, Nat.reduceAdd, Nat.reduceSub, Nat.add_zero, Nat.zero_add, Nat.sub_self, RF.seqI, RF.seqD, RF.wipeE, RF.restE, Option.getD_some, RF.ix_lst0, RF.ix_tup0, RF.ixN_0, RF.ix_lst1, RF.ix_tup1, RF.ixN_1, RF.ix_lst2, RF.ix_tup2, RF.ixN_2, RF.ix_lst3, RF.ix_tup3, RF.ixN_3, RF.ix_lst4, RF.ix_tup4, RF.ixN_4, RF.ix_lst5, RF.ix_tup5, RF.ixN_5, RF.ix_lst6, RF.ix_tup6, RF.ixN_6, RF.ix_lst7, RF.ix_tup7, RF.ixN_7, RF.ix_lst8, RF.ix_tup8, RF.ixN_8, RF.add_int, RF.dSub, RF.dMul, RF.dFdiv, RF.dMod, RF.dPow, RF.eq_int, RF.eq_str, RF.ne_int, RF.ne_str, RF.dLt, RF.le_int, RF.gt_int, RF.ge_int, RF.dIs, RF.dLen, RF.dAbs, RF.dInt, RF.dList, RF.dTup, RF.dAll, RF.dAny, RF.dSum, RF.dMax2, RF.dMin2, RF.truthD, RF.isNon]
    simp [c, tn]
theorem kD_ne : (Str.ofString "int" == Str.ofString "array") = false := by decide +kernel
theorem f_val (d : D) (k : Bool) (h : ∀ ds, d = .tup ds → ds.length ≤ 2 ^ 20) : F_is_value [.va d, .va (kD k)] = .ok (.va (.bl (vOk k d))) [.va d, .va (kD k)] := by
  refine wp_ok ?_
  unfold F_is_value b_is_value kD
  cases k
  · rw [if_neg (by simp)]
    simp -dsimp -implicitDefEqProofs only [RF.w_seq, RF.w_if, RF.w_asg, RF.w_ret, RF.w_drop, RF.w_nx, RF.w_run, RF.w_C, RF.w_var, RF.w_mv, RF.w_D, RF.w_V, RF.w_ev, RF.w_lv, RF.w_op, RF.w_T, RF.w_B, RF.w_notT, RF.w_andT, RF.w_orT, RF.w_andV, RF.w_orV, RF.w_not, RF.w_neg, RF.w_CB, RF.w_pre0, RF.w_pre, RF.w_isi, RF.w_evs0, RF.w_evs, RF.w_tup, RF.w_lst, RF.w_part0, RF.w_part, RF.w_sl, RF.w_call, RF.w_call0, RF.w_app, RF.w_ext, RF.w_ins, RF.w_pop, RF.w_setI, RF.w_aug, RF.w_asgT, RF.w_for, RF.w_for0, RF.w_for1, RF.w_it, RF.w_enum, RF.w_rng1, RF.w_rng2, RF.w_lc, RF.w_lc0, RF.w_lc1, RF.w_chain, RF.w_lam, RF.w_bnd, RF.oK_some, RF.oK_none, RF.oK_ite, RF.ifK_true, RF.ifK_false, RF.ifK_not, RF.seqK_nx, RF.seqK_bk, RF.seqK_ct, RF.seqK_rt, RF.stO_un, RF.stO_va, RF.stO_ow, RF.retK_rt, RF.retK_nx, RF.back_nil, RF.back_ow, RF.back_va, RF.varK_va, RF.varK_ow, RF.toD_lst, RF.toD_dct, RF.mvK_va, RF.mvK_ow, RF.rvK_va, RF.rvK_ow, RF.rdS_va, RF.rdS_ow, RF.fin_ev, RF.fin_lv, RF.ap2_some, RF.blK_bl, RF.negD, RF.cons2_some, RF.finL_nil, RF.finL_cons, RF.intK_int, RF.mkA_nil, RF.mkA_ev, RF.mkS_ow, RF.mkA_lv, RF.putA_nil, RF.putA_ev, RF.putS_ow, RF.putA_lv, RF.owS_ow, RF.vaS_va, RF.tgN_eq, RF.tgO_un, RF.tgO_va, RF.tgO_ow, RF.tgT_tup, RF.tgL_nil, RF.tgL_cons, RF.forK_nx, RF.forK_ct, RF.forK_bk, RF.forK_rt, RF.asV, Option.map_some, Option.map_none, Option.bind_some, Option.bind_none, Option.some.injEq, List.getElem?_cons_zero, List.getElem?_cons_succ, List.set_cons_zero, List.set_cons_succ, List.length_cons, List.length_nil, List.cons_append, List.nil_append, List.replicate_succ, List.replicate_zero, Nat.reduceAdd, Nat.reduceSub, Nat.add_zero, Nat.zero_add, Nat.sub_self, RF.seqI, RF.seqD, RF.wipeE, RF.restE, Option.getD_some, RF.ix_lst0, RF.ix_tup0, RF.ixN_0, RF.ix_lst1, RF.ix_tup1, RF.ixN_1, RF.ix_lst2, RF.ix_tup2, RF.ixN_2, RF.ix_lst3, RF.ix_tup3, RF.ixN_3, RF.ix_lst4, RF.ix_tup4, RF.ixN_4, RF.ix_lst5, RF.ix_tup5, RF.ixN_5, RF.ix_lst6, RF.ix_tup6, RF.ixN_6, RF.ix_lst7, RF.ix_tup7, RF.ixN_7, RF.ix_lst8, RF.ix_tup8, RF.ixN_8, RF.add_int, RF.dSub, RF.dMul, RF.dFdiv, RF.dMod, RF.dPow, RF.eq_int, RF.eq_str, RF.ne_int, RF.ne_str, RF.dLt, RF.le_int, RF.gt_int, RF.ge_int, RF.dIs, RF.dLen, RF.dAbs, RF.dInt, RF.dList, RF.dTup, RF.dAll, RF.dAny, RF.dSum, RF.dMax2, RF.dMin2, RF.truthD, RF.isNon, RF.isi_t, RF.isi_s, RF.isi_i, RF.isi_b, RF.isT, RF.isS, RF.isN, RF.isNB, RF.isBl, Bool.not_false, Bool.not_true, kD_ne, wp_of (f_int d), vOk, Bool.false_eq_true, if_false, and_self]
  · rw [if_pos rfl]
    simp -dsimp -implicitDefEqProofs only [RF.w_seq, RF.w_if, RF.w_asg, RF.w_ret, RF.w_drop, RF.w_nx, RF.w_run, RF.w_C, RF.w_var, RF.w_mv, RF.w_D, RF.w_V, RF.w_ev, RF.w_lv, RF.w_op, RF.w_T, RF.w_B, RF.w_notT, RF.w_andT, RF.w_orT, RF.w_andV, RF.w_orV, RF.w_not, RF.w_neg, RF.w_CB, RF.w_pre0, RF.w_pre, RF.w_isi, RF.w_evs0, RF.w_evs, RF.w_tup, RF.w_lst, RF.w_part0, RF.w_part, RF.w_sl, RF.w_call, RF.w_call0, RF.w_app, RF.w_ext, RF.w_ins, RF.w_pop, RF.w_setI, RF.w_aug, RF.w_asgT, RF.w_for, RF.w_for0, RF.w_for1, RF.w_it, RF.w_enum, RF.w_rng1, RF.w_rng2, RF.w_lc, RF.w_lc0, RF.w_lc1, RF.w_chain, RF.w_lam, RF.w_bnd, RF.oK_some, RF.oK_none, RF.oK_ite, RF.ifK_true, RF.ifK_false, RF.ifK_not, RF.seqK_nx, RF.seqK_bk, RF.seqK_ct, RF.seqK_rt, RF.stO_un, RF.stO_va, RF.stO_ow, RF.retK_rt, RF.retK_nx, RF.back_nil, RF.back_ow, RF.back_va, RF.varK_va, RF.varK_ow, RF.toD_lst, RF.toD_dct, RF.mvK_va, RF.mvK_ow, RF.rvK_va, RF.rvK_ow, RF.rdS_va, RF.rdS_ow, RF.fin_ev, RF.fin_lv, RF.ap2_some, RF.blK_bl, RF.negD, RF.cons2_some, RF.finL_nil, RF.finL_cons, RF.intK_int, RF.mkA_nil, RF.mkA_ev, RF.mkS_ow, RF.mkA_lv, RF.putA_nil, RF.putA_ev, RF.putS_ow, RF.putA_lv, RF.owS_ow, RF.vaS_va, RF.tgN_eq, RF.tgO_un, RF.tgO_va, RF.tgO_ow, RF.tgT_tup, RF.tgL_nil, RF.tgL_cons, RF.forK_nx, RF.forK_ct, RF.forK_bk, RF.forK_rt, RF.asV, Option.map_some, Option.map_none, Option.bind_some, Option.bind_none, Option.some.injEq, List.getElem?_cons_zero, List.getElem?_cons_succ, List.set_cons_zero, List.set_cons_succ, List.length_cons, List.length_nil, List.cons_append, List.nil_append, List.replicate_succ, List.replicate_zero, Nat.reduceAdd, Nat.reduceSub, Nat.add_zero, Nat.zero_add, Nat.sub_self, RF.seqI, RF.seqD, RF.wipeE, RF.restE, Option.getD_some, RF.ix_lst0, RF.ix_tup0, RF.ixN_0, RF.ix_lst1, RF.ix_tup1, RF.ixN_1, RF.ix_lst2, RF.ix_tup2, RF.ixN_2, RF.ix_lst3, RF.ix_tup3, RF.ixN_3, RF.ix_lst4, RF.ix_tup4, RF.ixN_4, RF.ix_lst5, RF.ix_tup5, RF.ixN_5, RF.ix_lst6, RF.ix_tup6, RF.ixN_6, RF.ix_lst7, RF.ix_tup7, RF.ixN_7, RF.ix_lst8, RF.ix_tup8, RF.ixN_8, RF.add_int, RF.dSub, RF.dMul, RF.dFdiv, RF.dMod, RF.dPow, RF.eq_int, RF.eq_str, RF.ne_int, RF.ne_str, RF.dLt, RF.le_int, RF.gt_int, RF.ge_int, RF.dIs, RF.dLen, RF.dAbs, RF.dInt, RF.dList, RF.dTup, RF.dAll, RF.dAny, RF.dSum, RF.dMax2, RF.dMin2, RF.truthD, RF.isNon, RF.isi_t, RF.isi_s, RF.isi_i, RF.isi_b, RF.isT, RF.isS, RF.isN, RF.isNB, RF.isBl, Bool.not_false, Bool.not_true, beq_self_eq_true, wp_of (f_ints d h), vOk, if_true, and_self]
theorem named_list (ps : List P) (s : Str) : (ps.map pD).filterMap (fun d => match d with | .tup (.str n :: _) => if n == s then some d else none | _ => none) = (ps.filter fun p => p.name == s).map pD := by
  induction ps with
  | nil => rfl
  | cons p ps ih =>
    rw [List.map_cons, List.filterMap_cons, ih, List.filter_cons]
    by_cases h : p.name == s
    · simp [pD, h]
    · simp [pD, h]
theorem f_named (ps : List P) (hp : ps.length ≤ 10) (s : Str) (p : P) (h : ps.find? (fun p => p.name == s) = some p) : F_proc_named [.va (.tup (ps.map pD)), .va (.str s)] = .ok (.va (pD p)) [.va (.tup (ps.map pD)), .va (.str s)] := by
  refine wp_ok ?_
  unfold F_proc_named b_proc_named
  simp -dsimp -implicitDefEqProofs only [RF.w_seq, RF.w_if, RF.w_asg, RF.w_ret, RF.w_drop, RF.w_nx, RF.w_run, RF.w_C, RF.w_var, RF.w_mv, RF.w_D, RF.w_V, RF.w_ev, RF.w_lv, RF.w_op, RF.w_T, RF.w_B, RF.w_notT, RF.w_andT, RF.w_orT, RF.w_andV, RF.w_orV, RF.w_not, RF.w_neg, RF.w_CB, RF.w_pre0, RF.w_pre, RF.w_isi, RF.w_evs0, RF.w_evs, RF.w_tup, RF.w_lst, RF.w_part0, RF.w_part, RF.w_sl, RF.w_call, RF.w_call0, RF.w_app, RF.w_ext, RF.w_ins, RF.w_pop, RF.w_setI, RF.w_aug, RF.w_asgT, RF.w_for, RF.w_for0, RF.w_for1, RF.w_it, RF.w_enum, RF.w_rng1, RF.w_rng2, RF.w_lc, RF.w_lc0, RF.w_lc1, RF.w_chain, RF.w_lam, RF.w_bnd, RF.oK_some, RF.oK_none, RF.oK_ite, RF.ifK_true, RF.ifK_false, RF.ifK_not, RF.seqK_nx, RF.seqK_bk, RF.seqK_ct, RF.seqK_rt, RF.stO_un, RF.stO_va, RF.stO_ow, RF.retK_rt, RF.retK_nx, RF.back_nil, RF.back_ow, RF.back_va, RF.varK_va, RF.varK_ow, RF.toD_lst, RF.toD_dct, RF.mvK_va, RF.mvK_ow, RF.rvK_va, RF.rvK_ow, RF.rdS_va, RF.rdS_ow, RF.fin_ev, RF.fin_lv, RF.ap2_some, RF.blK_bl, RF.negD, RF.cons2_some, RF.finL_nil, RF.finL_cons, RF.intK_int, RF.mkA_nil, RF.mkA_ev, RF.mkS_ow, RF.mkA_lv, RF.putA_nil, RF.putA_ev, RF.putS_ow, RF.putA_lv, RF.owS_ow, RF.vaS_va, RF.tgN_eq, RF.tgO_un, RF.tgO_va, RF.tgO_ow, RF.tgT_tup, RF.tgL_nil, RF.tgL_cons, RF.forK_nx, RF.forK_ct, RF.forK_bk, RF.forK_rt, RF.asV, Option.map_some, Option.map_none, Option.bind_some, Option.bind_none, Option.some.injEq, List.getElem?_cons_zero, List.getElem?_cons_succ, List.set_cons_zero, List.set_cons_succ, List.length_cons, List.length_nil, List.cons_append, List.nil_append, List.replicate_succ, List.replicate_zero, Nat.reduceAdd, Nat.reduceSub, Nat.add_zero, Nat.zero_add, Nat.sub_self, RF.seqI, RF.seqD, RF.wipeE, RF.restE, Option.getD_some, RF.ix_lst0, RF.ix_tup0, RF.ixN_0, RF.ix_lst1, RF.ix_tup1, RF.ixN_1, RF.ix_lst2, RF.ix_tup2, RF.ixN_2, RF.ix_lst3, RF.ix_tup3, RF.ixN_3, RF.ix_lst4, RF.ix_tup4, RF.ixN_4, RF.ix_lst5, RF.ix_tup5, RF.ixN_5, RF.ix_lst6, RF.ix_tup6, RF.ixN_6, RF.ix_lst7, RF.ix_tup7, RF.ixN_7, RF.ix_lst8, RF.ix_tup8, RF.ixN_8, RF.add_int, RF.dSub, RF.dMul, RF.dFdiv, RF.dMod, RF.dPow, RF.eq_int, RF.eq_str, RF.ne_int, RF.ne_str, RF.dLt, RF.le_int, RF.gt_int, RF.ge_int, RF.dIs, RF.dLen, RF.dAbs, RF.dInt, RF.dList, RF.dTup, RF.dAll, RF.dAny, RF.dSum, RF.dMax2, RF.dMin2, RF.truthD, RF.isNon]
  refine ⟨by rfl, ?_⟩
  refine (wp_of (lc_filter (fun d => match d with | .tup (.str n :: _) => if n == s then some d else none | _ => none) (ps.map pD) (fun i d e => ?_))).mpr ?_
  · rw [List.getElem?_map] at e
    cases e2 : ps[i]? with
    | none => rw [e2] at e; cases e
    | some p =>
      rw [e2] at e
      cases e
      refine ⟨_, rfl, ?_⟩
      unfold pD
      simp -dsimp -implicitDefEqProofs only [RF.w_seq, RF.w_if, RF.w_asg, RF.w_ret, RF.w_drop, RF.w_nx, RF.w_run, RF.w_C, RF.w_var, RF.w_mv, RF.w_D, RF.w_V, RF.w_ev, RF.w_lv, RF.w_op, RF.w_T, RF.w_B, RF.w_notT, RF.w_andT, RF.w_orT, RF.w_andV, RF.w_orV, RF.w_not, RF.w_neg, RF.w_CB, RF.w_pre0, RF.w_pre, RF.w_isi, RF.w_evs0, RF.w_evs, RF.w_tup, RF.w_lst, RF.w_part0, RF.w_part, RF.w_sl, RF.w_call, RF.w_call0, RF.w_app, RF.w_ext, RF.w_ins, RF.w_pop, RF.w_setI, RF.w_aug, RF.w_asgT, RF.w_for, RF.w_for0, RF.w_for1, RF.w_it, RF.w_enum, RF.w_rng1, RF.w_rng2, RF.w_lc, RF.w_lc0, RF.w_lc1, RF.w_chain, RF.w_lam, RF.w_bnd, RF.oK_some, RF.oK_none, RF.oK_ite, RF.ifK_true, RF.ifK_false, RF.ifK_not, RF.seqK_nx, RF.seqK_bk, RF.seqK_ct, RF.seqK_rt, RF.stO_un, RF.stO_va, RF.stO_ow, RF.retK_rt, RF.retK_nx, RF.back_nil, RF.back_ow, RF.back_va, RF.varK_va, RF.varK_ow, RF.toD_lst, RF.toD_dct, RF.mvK_va, RF.mvK_ow, RF.rvK_va, RF.rvK_ow, RF.rdS_va, RF.rdS_ow, RF.fin_ev, RF.fin_lv, RF.ap2_some, RF.blK_bl, RF.negD, RF.cons2_some, RF.finL_nil, RF.finL_cons, RF.intK_int, RF.mkA_nil, RF.mkA_ev, RF.mkS_ow, RF.mkA_lv, RF.putA_nil, RF.putA_ev, RF.putS_ow, RF.putA_lv, RF.owS_ow, RF.vaS_va, RF.tgN_eq, RF.tgO_un, RF.tgO_va, RF.tgO_ow, RF.tgT_tup, RF.tgL_nil, RF.tgL_cons, RF.forK_nx, RF.forK_ct, RF.forK_bk, RF.forK_rt, RF.asV, Option.map_some, Option.map_none, Option.bind_some, Option.bind_none, Option.some.injEq, List.getElem?_cons_zero, List.getElem?_cons_succ, List.set_cons_zero, List.set_cons_succ, List.length_cons, List.length_nil, List.cons_append, List.nil_append, List.replicate_succ, List.replicate_zero, Nat.reduceAdd, Nat.reduceSub, Nat.add_zero, Nat.zero_add, Nat.sub_self, RF.seqI, RF.seqD, RF.wipeE, RF.restE, Option.getD_some, RF.ix_lst0, RF.ix_tup0, RF.ixN_0, RF.ix_lst1, RF.ix_tup1, RF.ixN_1, RF.ix_lst2, RF.ix_tup2, RF.ixN_2, RF.ix_lst3, RF.ix_tup3, RF.ixN_3, RF.ix_lst4, RF.ix_tup4, RF.ixN_4, RF.ix_lst5, RF.ix_tup5, RF.ixN_5, RF.ix_lst6, RF.ix_tup6, RF.ixN_6, RF.ix_lst7, RF.ix_tup7, RF.ixN_7, RF.ix_lst8, RF.ix_tup8, RF.ixN_8, RF.add_int, RF.dSub, RF.dMul, RF.dFdiv, RF.dMod, RF.dPow, RF.eq_int, RF.eq_str, RF.ne_int, RF.ne_str, RF.dLt, RF.le_int, RF.gt_int, RF.ge_int, RF.dIs, RF.dLen, RF.dAbs, RF.dInt, RF.dList, RF.dTup, RF.dAll, RF.dAny, RF.dSum, RF.dMax2, RF.dMin2, RF.truthD, RF.isNon]
      cases h : p.name == s
      · simp -dsimp -implicitDefEqProofs only [RF.w_seq, RF.w_if, RF.w_asg, RF.w_ret, RF.w_drop, RF.w_nx, RF.w_run, RF.w_C, RF.w_var, RF.w_mv, RF.w_D, RF.w_V, RF.w_ev, RF.w_lv, RF.w_op, RF.w_T, RF.w_B, RF.w_notT, RF.w_andT, RF.w_orT, RF.w_andV, RF.w_orV, RF.w_not, RF.w_neg, RF.w_CB, RF.w_pre0, RF.w_pre, RF.w_isi, RF.w_evs0, RF.w_evs, RF.w_tup, RF.w_lst, RF.w_part0, RF.w_part, RF.w_sl, RF.w_call, RF.w_call0, RF.w_app, RF.w_ext, RF.w_ins, RF.w_pop, RF.w_setI, RF.w_aug, RF.w_asgT, RF.w_for, RF.w_for0, RF.w_for1, RF.w_it, RF.w_enum, RF.w_rng1, RF.w_rng2, RF.w_lc, RF.w_lc0, RF.w_lc1, RF.w_chain, RF.w_lam, RF.w_bnd, RF.oK_some, RF.oK_none, RF.oK_ite, RF.ifK_true, RF.ifK_false, RF.ifK_not, RF.seqK_nx, RF.seqK_bk, RF.seqK_ct, RF.seqK_rt, RF.stO_un, RF.stO_va, RF.stO_ow, RF.retK_rt, RF.retK_nx, RF.back_nil, RF.back_ow, RF.back_va, RF.varK_va, RF.varK_ow, RF.toD_lst, RF.toD_dct, RF.mvK_va, RF.mvK_ow, RF.rvK_va, RF.rvK_ow, RF.rdS_va, RF.rdS_ow, RF.fin_ev, RF.fin_lv, RF.ap2_some, RF.blK_bl, RF.negD, RF.cons2_some, RF.finL_nil, RF.finL_cons, RF.intK_int, RF.mkA_nil, RF.mkA_ev, RF.mkS_ow, RF.mkA_lv, RF.putA_nil, RF.putA_ev, RF.putS_ow, RF.putA_lv, RF.owS_ow, RF.vaS_va, RF.tgN_eq, RF.tgO_un, RF.tgO_va, RF.tgO_ow, RF.tgT_tup, RF.tgL_nil, RF.tgL_cons, RF.forK_nx, RF.forK_ct, RF.forK_bk, RF.forK_rt, RF.asV, Option.map_some, Option.map_none, Option.bind_some, Option.bind_none, Option.some.injEq, List.getElem?_cons_zero, List.getElem?_cons_succ, List.set_cons_zero, List.set_cons_succ, List.length_cons, List.length_nil, List.cons_append, List.nil_append, List.replicate_succ, List.replicate_zero, Nat.reduceAdd, Nat.reduceSub, Nat.add_zero, Nat.zero_add, Nat.sub_self, RF.seqI, RF.seqD, RF.wipeE, RF.restE, Option.getD_some, RF.ix_lst0, RF.ix_tup0, RF.ixN_0, RF.ix_lst1, RF.ix_tup1, RF.ixN_1, RF.ix_lst2, RF.ix_tup2, RF.ixN_2, RF.ix_lst3, RF.ix_tup3, RF.ixN_3, RF.ix_lst4, RF.ix_tup4, RF.ixN_4, RF.ix_lst5, RF.ix_tup5, RF.ixN_5, RF.ix_lst6, RF.ix_tup6, RF.ixN_6, RF.ix_lst7, RF.ix_tup7, RF.ixN_7, RF.ix_lst8, RF.ix_tup8, RF.ixN_8, RF.add_int, RF.dSub, RF.dMul, RF.dFdiv, RF.dMod, RF.dPow, RF.eq_int, RF.eq_str, RF.ne_int, RF.ne_str, RF.dLt, RF.le_int, RF.gt_int, RF.ge_int, RF.dIs, RF.dLen, RF.dAbs, RF.dInt, RF.dList, RF.dTup, RF.dAll, RF.dAny, RF.dSum, RF.dMax2, RF.dMin2, RF.truthD, RF.isNon]
        exact ⟨by simpa using h, by trivial⟩
      · simp -dsimp -implicitDefEqProofs only [RF.w_seq, RF.w_if, RF.w_asg, RF.w_ret, RF.w_drop, RF.w_nx, RF.w_run, RF.w_C, RF.w_var, RF.w_mv, RF.w_D, RF.w_V, RF.w_ev, RF.w_lv, RF.w_op, RF.w_T, RF.w_B, RF.w_notT, RF.w_andT, RF.w_orT, RF.w_andV, RF.w_orV, RF.w_not, RF.w_neg, RF.w_CB, RF.w_pre0, RF.w_pre, RF.w_isi, RF.w_evs0, RF.w_evs, RF.w_tup, RF.w_lst, RF.w_part0, RF.w_part, RF.w_sl, RF.w_call, RF.w_call0, RF.w_app, RF.w_ext, RF.w_ins, RF.w_pop, RF.w_setI, RF.w_aug, RF.w_asgT, RF.w_for, RF.w_for0, RF.w_for1, RF.w_it, RF.w_enum, RF.w_rng1, RF.w_rng2, RF.w_lc, RF.w_lc0, RF.w_lc1, RF.w_chain, RF.w_lam, RF.w_bnd, RF.oK_some, RF.oK_none, RF.oK_ite, RF.ifK_true, RF.ifK_false, RF.ifK_not, RF.seqK_nx, RF.seqK_bk, RF.seqK_ct, RF.seqK_rt, RF.stO_un, RF.stO_va, RF.stO_ow, RF.retK_rt, RF.retK_nx, RF.back_nil, RF.back_ow, RF.back_va, RF.varK_va, RF.varK_ow, RF.toD_lst, RF.toD_dct, RF.mvK_va, RF.mvK_ow, RF.rvK_va, RF.rvK_ow, RF.rdS_va, RF.rdS_ow, RF.fin_ev, RF.fin_lv, RF.ap2_some, RF.blK_bl, RF.negD, RF.cons2_some, RF.finL_nil, RF.finL_cons, RF.intK_int, RF.mkA_nil, RF.mkA_ev, RF.mkS_ow, RF.mkA_lv, RF.putA_nil, RF.putA_ev, RF.putS_ow, RF.putA_lv, RF.owS_ow, RF.vaS_va, RF.tgN_eq, RF.tgO_un, RF.tgO_va, RF.tgO_ow, RF.tgT_tup, RF.tgL_nil, RF.tgL_cons, RF.forK_nx, RF.forK_ct, RF.forK_bk, RF.forK_rt, RF.asV, Option.map_some, Option.map_none, Option.bind_some, Option.bind_none, Option.some.injEq, List.getElem?_cons_zero, List.getElem?_cons_succ, List.set_cons_zero, List.set_cons_succ, List.length_cons, List.length_nil, List.cons_append, List.nil_append, List.replicate_succ, List.replicate_zero, Nat.reduceAdd, Nat.reduceSub, Nat.add_zero, Nat.zero_add, Nat.sub_self, RF.seqI, RF.seqD, RF.wipeE, RF.restE, Option.getD_some, RF.ix_lst0, RF.ix_tup0, RF.ixN_0, RF.ix_lst1, RF.ix_tup1, RF.ixN_1, RF.ix_lst2, RF.ix_tup2, RF.ixN_2, RF.ix_lst3, RF.ix_tup3, RF.ixN_3, RF.ix_lst4, RF.ix_tup4, RF.ixN_4, RF.ix_lst5, RF.ix_tup5, RF.ixN_5, RF.ix_lst6, RF.ix_tup6, RF.ixN_6, RF.ix_lst7, RF.ix_tup7, RF.ixN_7, RF.ix_lst8, RF.ix_tup8, RF.ixN_8, RF.add_int, RF.dSub, RF.dMul, RF.dFdiv, RF.dMod, RF.dPow, RF.eq_int, RF.eq_str, RF.ne_int, RF.ne_str, RF.dLt, RF.le_int, RF.gt_int, RF.ge_int, RF.dIs, RF.dLen, RF.dAbs, RF.dInt, RF.dList, RF.dTup, RF.dAll, RF.dAny, RF.dSum, RF.dMax2, RF.dMin2, RF.truthD, RF.isNon]
        exact ⟨by simpa using h, by trivial⟩
  rw [named_list]
  have hd : (ps.filter fun p => p.name == s).head? = some p := by rw [List.head?_filter]; exact h
  refine ⟨?_, ?_⟩
  · rw [List.length_map]
    exact Nat.le_trans (List.length_filter_le _ _) (Nat.le_trans hp (by decide))
  cases e : ps.filter fun p => p.name == s with
  | nil => rw [e] at hd; cases hd
  | cons x xs =>
    rw [e] at hd
    cases hd
    rw [List.map_cons]
    simp -dsimp -implicitDefEqProofs only [RF.w_seq, RF.w_if, RF.w_asg, RF.w_ret, RF.w_drop, RF.w_nx, RF.w_run, RF.w_C, RF.w_var, RF.w_mv, RF.w_D, RF.w_V, RF.w_ev, RF.w_lv, RF.w_op, RF.w_T, RF.w_B, RF.w_notT, RF.w_andT, RF.w_orT, RF.w_andV, RF.w_orV, RF.w_not, RF.w_neg, RF.w_CB, RF.w_pre0, RF.w_pre, RF.w_isi, RF.w_evs0, RF.w_evs, RF.w_tup, RF.w_lst, RF.w_part0, RF.w_part, RF.w_sl, RF.w_call, RF.w_call0, RF.w_app, RF.w_ext, RF.w_ins, RF.w_pop, RF.w_setI, RF.w_aug, RF.w_asgT, RF.w_for, RF.w_for0, RF.w_for1, RF.w_it, RF.w_enum, RF.w_rng1, RF.w_rng2, RF.w_lc, RF.w_lc0, RF.w_lc1, RF.w_chain, RF.w_lam, RF.w_bnd, RF.oK_some, RF.oK_none, RF.oK_ite, RF.ifK_true, RF.ifK_false, RF.ifK_not, RF.seqK_nx, RF.seqK_bk, RF.seqK_ct, RF.seqK_rt, RF.stO_un, RF.stO_va, RF.stO_ow, RF.retK_rt, RF.retK_nx, RF.back_nil, RF.back_ow, RF.back_va, RF.varK_va, RF.varK_ow, RF.toD_lst, RF.toD_dct, RF.mvK_va, RF.mvK_ow, RF.rvK_va, RF.rvK_ow, RF.rdS_va, RF.rdS_ow, RF.fin_ev, RF.fin_lv, RF.ap2_some, RF.blK_bl, RF.negD, RF.cons2_some, RF.finL_nil, RF.finL_cons, RF.intK_int, RF.mkA_nil, RF.mkA_ev, RF.mkS_ow, RF.mkA_lv, RF.putA_nil, RF.putA_ev, RF.putS_ow, RF.putA_lv, RF.owS_ow, RF.vaS_va, RF.tgN_eq, RF.tgO_un, RF.tgO_va, RF.tgO_ow, RF.tgT_tup, RF.tgL_nil, RF.tgL_cons, RF.forK_nx, RF.forK_ct, RF.forK_bk, RF.forK_rt, RF.asV, Option.map_some, Option.map_none, Option.bind_some, Option.bind_none, Option.some.injEq, List.getElem?_cons_zero, List.getElem?_cons_succ, List.set_cons_zero, List.set_cons_succ, List.length_cons, List.length_nil, List.cons_append, List.nil_append, List.replicate_succ, List.replicate_zero, Nat.reduceAdd, Nat.reduceSub, Nat.add_zero, Nat.zero_add, Nat.sub_self, RF.seqI, RF.seqD, RF.wipeE, RF.restE, Option.getD_some, RF.ix_lst0, RF.ix_tup0, RF.ixN_0, RF.ix_lst1, RF.ix_tup1, RF.ixN_1, RF.ix_lst2, RF.ix_tup2, RF.ixN_2, RF.ix_lst3, RF.ix_tup3, RF.ixN_3, RF.ix_lst4, RF.ix_tup4, RF.ixN_4, RF.ix_lst5, RF.ix_tup5, RF.ixN_5, RF.ix_lst6, RF.ix_tup6, RF.ixN_6, RF.ix_lst7, RF.ix_tup7, RF.ixN_7, RF.ix_lst8, RF.ix_tup8, RF.ixN_8, RF.add_int, RF.dSub, RF.dMul, RF.dFdiv, RF.dMod, RF.dPow, RF.eq_int, RF.eq_str, RF.ne_int, RF.ne_str, RF.dLt, RF.le_int, RF.gt_int, RF.ge_int, RF.dIs, RF.dLen, RF.dAbs, RF.dInt, RF.dList, RF.dTup, RF.dAll, RF.dAny, RF.dSum, RF.dMax2, RF.dMin2, RF.truthD, RF.isNon]
    exact ⟨by trivial, by trivial⟩
def nameIn (ps : List P) (a : D) : Bool := match a with
  | .str s => ps.any fun p => p.name == s
  | _ => false
theorem in_names (ps : List P) (a : D) (ha : RF.plain a = true) : dIn true a (.lst (ps.map fun p => D.str p.name)) = some (.va (.bl (!nameIn ps a))) := by
  have hpl : RF.plainL (ps.map fun p => D.str p.name) = true := by
    induction ps with
    | nil => rfl
    | cons p ps ih => simpa [RF.plainL, RF.plain] using ih
  have hdl : depL (ps.map fun p => D.str p.name) = 0 := by
    induction ps with
    | nil => rfl
    | cons p ps ih => rw [List.map_cons, depL, ih (by simpa [RF.plainL, RF.plain] using hpl)]; rfl
  have key : inD a (ps.map fun p => D.str p.name) = nameIn ps a := by
    unfold inD nameIn
    rw [List.any_map]
    cases a <;> simp [Function.comp_def, eqv]
  cases a <;> simp only [dIn, seqD, hpl, hdl, ha, key] <;> simp
theorem vals_zip : ∀ (is : List (Bool × Str)) (bs : List D), bs.length = is.length → (zipD bs (is.map fun i => kD i.1)).map (fun d => match d with | .tup [x, .str k] => D.bl (vOk (k == Str.ofString "array") x) | _ => .non) = (is.zip bs).map (fun x => D.bl (vOk x.1.1 x.2)) ∧ vals is bs = (is.zip bs).all fun x => vOk x.1.1 x.2
  | [], [], _ => ⟨rfl, rfl⟩
  | [], _ :: _, h => by simp at h
  | _ :: _, [], h => by simp at h
  | i :: is, b :: bs, h => by
    obtain ⟨h1, h2⟩ := vals_zip is bs (by simpa using h)
    refine ⟨?_, ?_⟩
    · rw [List.map_cons, zipD, List.map_cons, h1, List.zip_cons_cons, List.map_cons]
      congr 1
      cases i with
      | mk k x => cases k <;> simp [kD, kD_ne]
    · rw [vals, h2, List.zip_cons_cons, List.all_cons]
theorem vals_len : ∀ {is : List (Bool × Str)} {bs : List D}, vals is bs = true → bs.length = is.length
  | [], [], _ => rfl
  | [], _ :: _, h => by simp [vals] at h
  | _ :: _, [], h => by simp [vals] at h
  | i :: is, b :: bs, h => by
    simp only [vals, Bool.and_eq_true] at h
    simp [vals_len h.2]
theorem good_not4 {ps : List P} {d : D} (h : tn d 4 = false) : good ps d = false := by
  unfold good
  split
  · simp [tn] at h
  · rfl
theorem tn4 {d : D} (h : tn d 4 = true) : ∃ a b c e, d = .tup [a, b, c, e] := by
  cases d with
  | tup ds =>
    simp only [tn, beq_iff_eq] at h
    match ds, h with
    | [a, b, c, e], _ => exact ⟨a, b, c, e, rfl⟩
    | [], h => simp at h
    | [_], h => simp at h
    | [_, _], h => simp at h
    | [_, _, _], h => simp at h
    | _ :: _ :: _ :: _ :: _ :: _, h => simp at h; omega
  | _ => simp [tn] at h
theorem find_any {ps : List P} {s : Str} (h : ps.any (fun p => p.name == s) = true) : ∃ p, ps.find? (fun p => p.name == s) = some p := by
  cases e : ps.find? (fun p => p.name == s) with
  | some p => exact ⟨p, rfl⟩
  | none =>
    rw [List.find?_eq_none] at e
    rw [List.any_eq_true] at h
    obtain ⟨p, hp, h2⟩ := h
    exact absurd h2 (e p hp)
theorem find_none {ps : List P} {s : Str} (h : ps.any (fun p => p.name == s) = false) : ps.find? (fun p => p.name == s) = none := by
  rw [List.find?_eq_none]
  intro p hp h2
  rw [List.any_eq_false] at h
  exact h p hp h2
def PsOk (ps : List P) : Prop := ps.length ≤ 10 ∧ ∀ p ∈ ps, p.items.length ≤ 10 ∧ p.res.length ≤ 10
theorem get_pD {ps : List P} {i : Nat} {d : D} (e : (ps.map pD)[i]? = some d) : ∃ p, d = pD p := by
  rw [List.getElem?_map] at e
  cases e2 : ps[i]? with
  | none => rw [e2] at e; cases e
  | some p => rw [e2] at e; cases e; exact ⟨p, rfl⟩
theorem get_iD {ps : List (Bool × Str)} {i : Nat} {d : D} (e : (ps.map iD)[i]? = some d) : ∃ p, d = iD p := by
  rw [List.getElem?_map] at e
  cases e2 : ps[i]? with
  | none => rw [e2] at e; cases e
  | some p => rw [e2] at e; cases e; exact ⟨p, rfl⟩
theorem names_eq (ps : List P) : (ps.map pD).map (fun d => match d with | .tup (x :: _) => x | _ => .non) = ps.map fun p => D.str p.name := by
  rw [List.map_map]
  rfl
theorem kinds_eq (is : List (Bool × Str)) : (is.map iD).map (fun d => match d with | .tup (x :: _) => x | _ => .non) = is.map fun i => kD i.1 := by
  rw [List.map_map]
  rfl
theorem good_noname {ps : List P} {a b c e : D} (h : nameIn ps a = false) : good ps (.tup [a, b, c, e]) = false := by
  cases a with
  | str s => simp only [good, find_none h]
  | _ => rfl
theorem named {ps : List P} {a : D} (h : nameIn ps a = true) : ∃ s p, a = .str s ∧ ps.find? (fun p => p.name == s) = some p := by
  cases a with
  | str s =>
    obtain ⟨p, hp⟩ := find_any h
    exact ⟨s, p, rfl, hp⟩
  | _ => cases h
theorem tn_tup {d : D} {n : Nat} (h : tn d n = true) : ∃ ds, d = .tup ds ∧ ds.length = n := by
  cases d with
  | tup ds =>
    simp only [tn, beq_iff_eq] at h
    exact ⟨ds, rfl, by omega⟩
  | _ => cases h
theorem tin_tup {d : D} (h : tin d = true) : ∃ ds, d = .tup ds := by
  cases d with
  | tup ds => exact ⟨ds, rfl⟩
  | _ => cases h
theorem good1_b {p : P} {b c e : D} (h : tn b (p.items.length : Int) = false) : good1 p b c e = false := by
  cases b with
  | tup bs =>
    have h2 : vals p.items bs = false := by
      cases h3 : vals p.items bs with
      | false => rfl
      | true =>
        have := vals_len h3
        simp [tn, this] at h
    simp [good1, h2]
  | _ => simp [good1]
theorem get_zip {bs : List D} {is : List (Bool × Str)} {i : Nat} {d : D} (e : (zipD bs (is.map fun i => kD i.1))[i]? = some d) : ∃ x k, x ∈ bs ∧ d = .tup [x, kD k] := by
  rw [zipD_get, List.getElem?_map] at e
  cases e1 : bs[i]? with
  | none => rw [e1] at e; cases e
  | some x =>
    cases e2 : is[i]? with
    | none => rw [e1, e2] at e; cases e
    | some y =>
      rw [e1, e2] at e
      cases e
      exact ⟨x, y.1, List.mem_of_getElem? e1, rfl⟩
def isArr (d : D) : Option D := match d with
  | .str k => if k == Str.ofString "array" then some d else none
  | _ => none
theorem get_kD {is : List (Bool × Str)} {i : Nat} {d : D} (e : (is.map fun i => kD i.1)[i]? = some d) : ∃ k, d = kD k := by
  rw [List.getElem?_map] at e
  cases e2 : is[i]? with
  | none => rw [e2] at e; cases e
  | some p => rw [e2] at e; cases e; exact ⟨_, rfl⟩
theorem arr_len : ∀ (is : List (Bool × Str)), ((is.map fun i => kD i.1).filterMap isArr).length = (is.filter (·.1)).length
  | [] => rfl
  | (true, x) :: is => by
    rw [List.map_cons, List.filterMap_cons, show isArr (kD true) = some (kD true) by simp [isArr, kD]]
    show (kD true :: _).length = _
    rw [List.length_cons, arr_len is, List.filter_cons, if_pos rfl, List.length_cons]
  | (false, x) :: is => by
    rw [List.map_cons, List.filterMap_cons, show isArr (kD false) = none by simp [isArr, kD, kD_ne]]
    show (List.filterMap _ _).length = _
    rw [arr_len is, List.filter_cons, if_neg (by simp)]
theorem good1_e {p : P} {b c e : D} (h : tn e ((p.items.filter (·.1)).length : Int) = false) : good1 p b c e = false := by
  have h2 : rowsOk e (arrs p) = false := by
    cases e with
    | tup es =>
      simp only [tn, beq_eq_false_iff_ne] at h
      have : (es.length == arrs p) = false := by
        rw [beq_eq_false_iff_ne]
        unfold arrs
        omega
      simp [rowsOk, this]
    | _ => rfl
  simp [good1, h2]
theorem f_test (ps : List P) (hp : PsOk ps) (d : D) (hd : smD d = true) : F_is_test [.va (.tup (ps.map pD)), .va d] = .ok (.va (.bl (good ps d))) [.va (.tup (ps.map pD)), .va d] := by
  refine wp_ok ?_
  unfold F_is_test b_is_test
  simp -dsimp -implicitDefEqProofs only [RF.w_seq, RF.w_if, RF.w_asg, RF.w_ret, RF.w_drop, RF.w_nx, RF.w_run, RF.w_C, RF.w_var, RF.w_mv, RF.w_D, RF.w_V, RF.w_ev, RF.w_lv, RF.w_op, RF.w_T, RF.w_B, RF.w_notT, RF.w_andT, RF.w_orT, RF.w_andV, RF.w_orV, RF.w_not, RF.w_neg, RF.w_CB, RF.w_pre0, RF.w_pre, RF.w_isi, RF.w_evs0, RF.w_evs, RF.w_tup, RF.w_lst, RF.w_part0, RF.w_part, RF.w_sl, RF.w_call, RF.w_call0, RF.w_app, RF.w_ext, RF.w_ins, RF.w_pop, RF.w_setI, RF.w_aug, RF.w_asgT, RF.w_for, RF.w_for0, RF.w_for1, RF.w_it, RF.w_enum, RF.w_rng1, RF.w_rng2, RF.w_lc, RF.w_lc0, RF.w_lc1, RF.w_chain, RF.w_lam, RF.w_bnd, RF.oK_some, RF.oK_none, RF.oK_ite, RF.ifK_true, RF.ifK_false, RF.ifK_not, RF.seqK_nx, RF.seqK_bk, RF.seqK_ct, RF.seqK_rt, RF.stO_un, RF.stO_va, RF.stO_ow, RF.retK_rt, RF.retK_nx, RF.back_nil, RF.back_ow, RF.back_va, RF.varK_va, RF.varK_ow, RF.toD_lst, RF.toD_dct, RF.mvK_va, RF.mvK_ow, RF.rvK_va, RF.rvK_ow, RF.rdS_va, RF.rdS_ow, RF.fin_ev, RF.fin_lv, RF.ap2_some, RF.blK_bl, RF.negD, RF.cons2_some, RF.finL_nil, RF.finL_cons, RF.intK_int, RF.mkA_nil, RF.mkA_ev, RF.mkS_ow, RF.mkA_lv, RF.putA_nil, RF.putA_ev, RF.putS_ow, RF.putA_lv, RF.owS_ow, RF.vaS_va, RF.tgN_eq, RF.tgO_un, RF.tgO_va, RF.tgO_ow, RF.tgT_tup, RF.tgL_nil, RF.tgL_cons, RF.forK_nx, RF.forK_ct, RF.forK_bk, RF.forK_rt, RF.asV, Option.map_some, Option.map_none, Option.bind_some, Option.bind_none, Option.some.injEq, List.getElem?_cons_zero, List.getElem?_cons_succ, List.set_cons_zero, List.set_cons_succ, List.length_cons, List.length_nil, List.cons_append, List.nil_append, List.replicate_succ, List.replicate_zero, Nat.reduceAdd, Nat.reduceSub, Nat.add_zero, Nat.zero_add, Nat.sub_self, RF.seqI, RF.seqD, RF.wipeE, RF.restE, Option.getD_some, RF.ix_lst0, RF.ix_tup0, RF.ixN_0, RF.ix_lst1, RF.ix_tup1, RF.ixN_1, RF.ix_lst2, RF.ix_tup2, RF.ixN_2, RF.ix_lst3, RF.ix_tup3, RF.ixN_3, RF.ix_lst4, RF.ix_tup4, RF.ixN_4, RF.ix_lst5, RF.ix_tup5, RF.ixN_5, RF.ix_lst6, RF.ix_tup6, RF.ixN_6, RF.ix_lst7, RF.ix_tup7, RF.ixN_7, RF.ix_lst8, RF.ix_tup8, RF.ixN_8, RF.add_int, RF.dSub, RF.dMul, RF.dFdiv, RF.dMod, RF.dPow, RF.eq_int, RF.eq_str, RF.ne_int, RF.ne_str, RF.dLt, RF.le_int, RF.gt_int, RF.ge_int, RF.dIs, RF.dLen, RF.dAbs, RF.dInt, RF.dList, RF.dTup, RF.dAll, RF.dAny, RF.dSum, RF.dMax2, RF.dMin2, RF.truthD, RF.isNon, RF.isi_t, RF.isi_s, RF.isi_i, RF.isi_b, RF.isT, RF.isS, RF.isN, RF.isNB, RF.isBl, Bool.not_false, Bool.not_true, wp_of (f_tup d 4)]
  cases h4 : tn d 4
  · simp -dsimp -implicitDefEqProofs only [RF.w_seq, RF.w_if, RF.w_asg, RF.w_ret, RF.w_drop, RF.w_nx, RF.w_run, RF.w_C, RF.w_var, RF.w_mv, RF.w_D, RF.w_V, RF.w_ev, RF.w_lv, RF.w_op, RF.w_T, RF.w_B, RF.w_notT, RF.w_andT, RF.w_orT, RF.w_andV, RF.w_orV, RF.w_not, RF.w_neg, RF.w_CB, RF.w_pre0, RF.w_pre, RF.w_isi, RF.w_evs0, RF.w_evs, RF.w_tup, RF.w_lst, RF.w_part0, RF.w_part, RF.w_sl, RF.w_call, RF.w_call0, RF.w_app, RF.w_ext, RF.w_ins, RF.w_pop, RF.w_setI, RF.w_aug, RF.w_asgT, RF.w_for, RF.w_for0, RF.w_for1, RF.w_it, RF.w_enum, RF.w_rng1, RF.w_rng2, RF.w_lc, RF.w_lc0, RF.w_lc1, RF.w_chain, RF.w_lam, RF.w_bnd, RF.oK_some, RF.oK_none, RF.oK_ite, RF.ifK_true, RF.ifK_false, RF.ifK_not, RF.seqK_nx, RF.seqK_bk, RF.seqK_ct, RF.seqK_rt, RF.stO_un, RF.stO_va, RF.stO_ow, RF.retK_rt, RF.retK_nx, RF.back_nil, RF.back_ow, RF.back_va, RF.varK_va, RF.varK_ow, RF.toD_lst, RF.toD_dct, RF.mvK_va, RF.mvK_ow, RF.rvK_va, RF.rvK_ow, RF.rdS_va, RF.rdS_ow, RF.fin_ev, RF.fin_lv, RF.ap2_some, RF.blK_bl, RF.negD, RF.cons2_some, RF.finL_nil, RF.finL_cons, RF.intK_int, RF.mkA_nil, RF.mkA_ev, RF.mkS_ow, RF.mkA_lv, RF.putA_nil, RF.putA_ev, RF.putS_ow, RF.putA_lv, RF.owS_ow, RF.vaS_va, RF.tgN_eq, RF.tgO_un, RF.tgO_va, RF.tgO_ow, RF.tgT_tup, RF.tgL_nil, RF.tgL_cons, RF.forK_nx, RF.forK_ct, RF.forK_bk, RF.forK_rt, RF.asV, Option.map_some, Option.map_none, Option.bind_some, Option.bind_none, Option.some.injEq, List.getElem?_cons_zero, List.getElem?_cons_succ, List.set_cons_zero, List.set_cons_succ, List.length_cons, List.length_nil, List.cons_append, List.nil_append, List.replicate_succ, List.replicate_zero, Nat.reduceAdd, Nat.reduceSub, Nat.add_zero, Nat.zero_add, Nat.sub_self, RF.seqI, RF.seqD, RF.wipeE, RF.restE, Option.getD_some, RF.ix_lst0, RF.ix_tup0, RF.ixN_0, RF.ix_lst1, RF.ix_tup1, RF.ixN_1, RF.ix_lst2, RF.ix_tup2, RF.ixN_2, RF.ix_lst3, RF.ix_tup3, RF.ixN_3, RF.ix_lst4, RF.ix_tup4, RF.ixN_4, RF.ix_lst5, RF.ix_tup5, RF.ixN_5, RF.ix_lst6, RF.ix_tup6, RF.ixN_6, RF.ix_lst7, RF.ix_tup7, RF.ixN_7, RF.ix_lst8, RF.ix_tup8, RF.ixN_8, RF.add_int, RF.dSub, RF.dMul, RF.dFdiv, RF.dMod, RF.dPow, RF.eq_int, RF.eq_str, RF.ne_int, RF.ne_str, RF.dLt, RF.le_int, RF.gt_int, RF.ge_int, RF.dIs, RF.dLen, RF.dAbs, RF.dInt, RF.dList, RF.dTup, RF.dAll, RF.dAny, RF.dSum, RF.dMax2, RF.dMin2, RF.truthD, RF.isNon]
    rw [good_not4 h4]
    exact ⟨by trivial, by trivial⟩
  obtain ⟨a, b, c, e, rfl⟩ := tn4 h4
  have hm := sm_mem hd
  have ha := hm a (by simp)
  have hb := hm b (by simp)
  have hc := hm c (by simp)
  have he := hm e (by simp)
  simp -dsimp -implicitDefEqProofs only [RF.w_seq, RF.w_if, RF.w_asg, RF.w_ret, RF.w_drop, RF.w_nx, RF.w_run, RF.w_C, RF.w_var, RF.w_mv, RF.w_D, RF.w_V, RF.w_ev, RF.w_lv, RF.w_op, RF.w_T, RF.w_B, RF.w_notT, RF.w_andT, RF.w_orT, RF.w_andV, RF.w_orV, RF.w_not, RF.w_neg, RF.w_CB, RF.w_pre0, RF.w_pre, RF.w_isi, RF.w_evs0, RF.w_evs, RF.w_tup, RF.w_lst, RF.w_part0, RF.w_part, RF.w_sl, RF.w_call, RF.w_call0, RF.w_app, RF.w_ext, RF.w_ins, RF.w_pop, RF.w_setI, RF.w_aug, RF.w_asgT, RF.w_for, RF.w_for0, RF.w_for1, RF.w_it, RF.w_enum, RF.w_rng1, RF.w_rng2, RF.w_lc, RF.w_lc0, RF.w_lc1, RF.w_chain, RF.w_lam, RF.w_bnd, RF.oK_some, RF.oK_none, RF.oK_ite, RF.ifK_true, RF.ifK_false, RF.ifK_not, RF.seqK_nx, RF.seqK_bk, RF.seqK_ct, RF.seqK_rt, RF.stO_un, RF.stO_va, RF.stO_ow, RF.retK_rt, RF.retK_nx, RF.back_nil, RF.back_ow, RF.back_va, RF.varK_va, RF.varK_ow, RF.toD_lst, RF.toD_dct, RF.mvK_va, RF.mvK_ow, RF.rvK_va, RF.rvK_ow, RF.rdS_va, RF.rdS_ow, RF.fin_ev, RF.fin_lv, RF.ap2_some, RF.blK_bl, RF.negD, RF.cons2_some, RF.finL_nil, RF.finL_cons, RF.intK_int, RF.mkA_nil, RF.mkA_ev, RF.mkS_ow, RF.mkA_lv, RF.putA_nil, RF.putA_ev, RF.putS_ow, RF.putA_lv, RF.owS_ow, RF.vaS_va, RF.tgN_eq, RF.tgO_un, RF.tgO_va, RF.tgO_ow, RF.tgT_tup, RF.tgL_nil, RF.tgL_cons, RF.forK_nx, RF.forK_ct, RF.forK_bk, RF.forK_rt, RF.asV, Option.map_some, Option.map_none, Option.bind_some, Option.bind_none, Option.some.injEq, List.getElem?_cons_zero, List.getElem?_cons_succ, List.set_cons_zero, List.set_cons_succ, List.length_cons, List.length_nil, List.cons_append, List.nil_append, List.replicate_succ, List.replicate_zero, Nat.reduceAdd, Nat.reduceSub, Nat.add_zero, Nat.zero_add, Nat.sub_self, RF.seqI, RF.seqD, RF.wipeE, RF.restE, Option.getD_some, RF.ix_lst0, RF.ix_tup0, RF.ixN_0, RF.ix_lst1, RF.ix_tup1, RF.ixN_1, RF.ix_lst2, RF.ix_tup2, RF.ixN_2, RF.ix_lst3, RF.ix_tup3, RF.ixN_3, RF.ix_lst4, RF.ix_tup4, RF.ixN_4, RF.ix_lst5, RF.ix_tup5, RF.ixN_5, RF.ix_lst6, RF.ix_tup6, RF.ixN_6, RF.ix_lst7, RF.ix_tup7, RF.ixN_7, RF.ix_lst8, RF.ix_tup8, RF.ixN_8, RF.add_int, RF.dSub, RF.dMul, RF.dFdiv, RF.dMod, RF.dPow, RF.eq_int, RF.eq_str, RF.ne_int, RF.ne_str, RF.dLt, RF.le_int, RF.gt_int, RF.ge_int, RF.dIs, RF.dLen, RF.dAbs, RF.dInt, RF.dList, RF.dTup, RF.dAll, RF.dAny, RF.dSum, RF.dMax2, RF.dMin2, RF.truthD, RF.isNon]
  refine ⟨by rfl, ?_⟩
  refine (wp_of (lc_map (fun d => match d with | .tup (x :: _) => x | _ => .non) (ps.map pD) (fun i d e => ?_))).mpr ?_
  · obtain ⟨p, rfl⟩ := get_pD e
    refine ⟨_, rfl, ?_⟩
    unfold pD
    simp -dsimp -implicitDefEqProofs only [RF.w_seq, RF.w_if, RF.w_asg, RF.w_ret, RF.w_drop, RF.w_nx, RF.w_run, RF.w_C, RF.w_var, RF.w_mv, RF.w_D, RF.w_V, RF.w_ev, RF.w_lv, RF.w_op, RF.w_T, RF.w_B, RF.w_notT, RF.w_andT, RF.w_orT, RF.w_andV, RF.w_orV, RF.w_not, RF.w_neg, RF.w_CB, RF.w_pre0, RF.w_pre, RF.w_isi, RF.w_evs0, RF.w_evs, RF.w_tup, RF.w_lst, RF.w_part0, RF.w_part, RF.w_sl, RF.w_call, RF.w_call0, RF.w_app, RF.w_ext, RF.w_ins, RF.w_pop, RF.w_setI, RF.w_aug, RF.w_asgT, RF.w_for, RF.w_for0, RF.w_for1, RF.w_it, RF.w_enum, RF.w_rng1, RF.w_rng2, RF.w_lc, RF.w_lc0, RF.w_lc1, RF.w_chain, RF.w_lam, RF.w_bnd, RF.oK_some, RF.oK_none, RF.oK_ite, RF.ifK_true, RF.ifK_false, RF.ifK_not, RF.seqK_nx, RF.seqK_bk, RF.seqK_ct, RF.seqK_rt, RF.stO_un, RF.stO_va, RF.stO_ow, RF.retK_rt, RF.retK_nx, RF.back_nil, RF.back_ow, RF.back_va, RF.varK_va, RF.varK_ow, RF.toD_lst, RF.toD_dct, RF.mvK_va, RF.mvK_ow, RF.rvK_va, RF.rvK_ow, RF.rdS_va, RF.rdS_ow, RF.fin_ev, RF.fin_lv, RF.ap2_some, RF.blK_bl, RF.negD, RF.cons2_some, RF.finL_nil, RF.finL_cons, RF.intK_int, RF.mkA_nil, RF.mkA_ev, RF.mkS_ow, RF.mkA_lv, RF.putA_nil, RF.putA_ev, RF.putS_ow, RF.putA_lv, RF.owS_ow, RF.vaS_va, RF.tgN_eq, RF.tgO_un, RF.tgO_va, RF.tgO_ow, RF.tgT_tup, RF.tgL_nil, RF.tgL_cons, RF.forK_nx, RF.forK_ct, RF.forK_bk, RF.forK_rt, RF.asV, Option.map_some, Option.map_none, Option.bind_some, Option.bind_none, Option.some.injEq, List.getElem?_cons_zero, List.getElem?_cons_succ, List.set_cons_zero, List.set_cons_succ, List.length_cons, List.length_nil, List.cons_append, List.nil_append, List.replicate_succ, List.replicate_zero, Nat.reduceAdd, Nat.reduceSub, Nat.add_zero, Nat.zero_add, Nat.sub_self, RF.seqI, RF.seqD, RF.wipeE, RF.restE, Option.getD_some, RF.ix_lst0, RF.ix_tup0, RF.ixN_0, RF.ix_lst1, RF.ix_tup1, RF.ixN_1, RF.ix_lst2, RF.ix_tup2, RF.ixN_2, RF.ix_lst3, RF.ix_tup3, RF.ixN_3, RF.ix_lst4, RF.ix_tup4, RF.ixN_4, RF.ix_lst5, RF.ix_tup5, RF.ixN_5, RF.ix_lst6, RF.ix_tup6, RF.ixN_6, RF.ix_lst7, RF.ix_tup7, RF.ixN_7, RF.ix_lst8, RF.ix_tup8, RF.ixN_8, RF.add_int, RF.dSub, RF.dMul, RF.dFdiv, RF.dMod, RF.dPow, RF.eq_int, RF.eq_str, RF.ne_int, RF.ne_str, RF.dLt, RF.le_int, RF.gt_int, RF.ge_int, RF.dIs, RF.dLen, RF.dAbs, RF.dInt, RF.dList, RF.dTup, RF.dAll, RF.dAny, RF.dSum, RF.dMax2, RF.dMin2, RF.truthD, RF.isNon]
    exact ⟨by trivial, by trivial⟩
  rw [names_eq]
  refine ⟨by rw [List.length_map]; exact Nat.le_trans hp.1 (by decide), ?_⟩
  simp -dsimp -implicitDefEqProofs only [RF.w_seq, RF.w_if, RF.w_asg, RF.w_ret, RF.w_drop, RF.w_nx, RF.w_run, RF.w_C, RF.w_var, RF.w_mv, RF.w_D, RF.w_V, RF.w_ev, RF.w_lv, RF.w_op, RF.w_T, RF.w_B, RF.w_notT, RF.w_andT, RF.w_orT, RF.w_andV, RF.w_orV, RF.w_not, RF.w_neg, RF.w_CB, RF.w_pre0, RF.w_pre, RF.w_isi, RF.w_evs0, RF.w_evs, RF.w_tup, RF.w_lst, RF.w_part0, RF.w_part, RF.w_sl, RF.w_call, RF.w_call0, RF.w_app, RF.w_ext, RF.w_ins, RF.w_pop, RF.w_setI, RF.w_aug, RF.w_asgT, RF.w_for, RF.w_for0, RF.w_for1, RF.w_it, RF.w_enum, RF.w_rng1, RF.w_rng2, RF.w_lc, RF.w_lc0, RF.w_lc1, RF.w_chain, RF.w_lam, RF.w_bnd, RF.oK_some, RF.oK_none, RF.oK_ite, RF.ifK_true, RF.ifK_false, RF.ifK_not, RF.seqK_nx, RF.seqK_bk, RF.seqK_ct, RF.seqK_rt, RF.stO_un, RF.stO_va, RF.stO_ow, RF.retK_rt, RF.retK_nx, RF.back_nil, RF.back_ow, RF.back_va, RF.varK_va, RF.varK_ow, RF.toD_lst, RF.toD_dct, RF.mvK_va, RF.mvK_ow, RF.rvK_va, RF.rvK_ow, RF.rdS_va, RF.rdS_ow, RF.fin_ev, RF.fin_lv, RF.ap2_some, RF.blK_bl, RF.negD, RF.cons2_some, RF.finL_nil, RF.finL_cons, RF.intK_int, RF.mkA_nil, RF.mkA_ev, RF.mkS_ow, RF.mkA_lv, RF.putA_nil, RF.putA_ev, RF.putS_ow, RF.putA_lv, RF.owS_ow, RF.vaS_va, RF.tgN_eq, RF.tgO_un, RF.tgO_va, RF.tgO_ow, RF.tgT_tup, RF.tgL_nil, RF.tgL_cons, RF.forK_nx, RF.forK_ct, RF.forK_bk, RF.forK_rt, RF.asV, Option.map_some, Option.map_none, Option.bind_some, Option.bind_none, Option.some.injEq, List.getElem?_cons_zero, List.getElem?_cons_succ, List.set_cons_zero, List.set_cons_succ, List.length_cons, List.length_nil, List.cons_append, List.nil_append, List.replicate_succ, List.replicate_zero, Nat.reduceAdd, Nat.reduceSub, Nat.add_zero, Nat.zero_add, Nat.sub_self, RF.seqI, RF.seqD, RF.wipeE, RF.restE, Option.getD_some, RF.ix_lst0, RF.ix_tup0, RF.ixN_0, RF.ix_lst1, RF.ix_tup1, RF.ixN_1, RF.ix_lst2, RF.ix_tup2, RF.ixN_2, RF.ix_lst3, RF.ix_tup3, RF.ixN_3, RF.ix_lst4, RF.ix_tup4, RF.ixN_4, RF.ix_lst5, RF.ix_tup5, RF.ixN_5, RF.ix_lst6, RF.ix_tup6, RF.ixN_6, RF.ix_lst7, RF.ix_tup7, RF.ixN_7, RF.ix_lst8, RF.ix_tup8, RF.ixN_8, RF.add_int, RF.dSub, RF.dMul, RF.dFdiv, RF.dMod, RF.dPow, RF.eq_int, RF.eq_str, RF.ne_int, RF.ne_str, RF.dLt, RF.le_int, RF.gt_int, RF.ge_int, RF.dIs, RF.dLen, RF.dAbs, RF.dInt, RF.dList, RF.dTup, RF.dAll, RF.dAny, RF.dSum, RF.dMax2, RF.dMin2, RF.truthD, RF.isNon, in_names ps a (sm_plain a ha)]
  cases hx : nameIn ps a
  · simp -dsimp -implicitDefEqProofs only [RF.w_seq, RF.w_if, RF.w_asg, RF.w_ret, RF.w_drop, RF.w_nx, RF.w_run, RF.w_C, RF.w_var, RF.w_mv, RF.w_D, RF.w_V, RF.w_ev, RF.w_lv, RF.w_op, RF.w_T, RF.w_B, RF.w_notT, RF.w_andT, RF.w_orT, RF.w_andV, RF.w_orV, RF.w_not, RF.w_neg, RF.w_CB, RF.w_pre0, RF.w_pre, RF.w_isi, RF.w_evs0, RF.w_evs, RF.w_tup, RF.w_lst, RF.w_part0, RF.w_part, RF.w_sl, RF.w_call, RF.w_call0, RF.w_app, RF.w_ext, RF.w_ins, RF.w_pop, RF.w_setI, RF.w_aug, RF.w_asgT, RF.w_for, RF.w_for0, RF.w_for1, RF.w_it, RF.w_enum, RF.w_rng1, RF.w_rng2, RF.w_lc, RF.w_lc0, RF.w_lc1, RF.w_chain, RF.w_lam, RF.w_bnd, RF.oK_some, RF.oK_none, RF.oK_ite, RF.ifK_true, RF.ifK_false, RF.ifK_not, RF.seqK_nx, RF.seqK_bk, RF.seqK_ct, RF.seqK_rt, RF.stO_un, RF.stO_va, RF.stO_ow, RF.retK_rt, RF.retK_nx, RF.back_nil, RF.back_ow, RF.back_va, RF.varK_va, RF.varK_ow, RF.toD_lst, RF.toD_dct, RF.mvK_va, RF.mvK_ow, RF.rvK_va, RF.rvK_ow, RF.rdS_va, RF.rdS_ow, RF.fin_ev, RF.fin_lv, RF.ap2_some, RF.blK_bl, RF.negD, RF.cons2_some, RF.finL_nil, RF.finL_cons, RF.intK_int, RF.mkA_nil, RF.mkA_ev, RF.mkS_ow, RF.mkA_lv, RF.putA_nil, RF.putA_ev, RF.putS_ow, RF.putA_lv, RF.owS_ow, RF.vaS_va, RF.tgN_eq, RF.tgO_un, RF.tgO_va, RF.tgO_ow, RF.tgT_tup, RF.tgL_nil, RF.tgL_cons, RF.forK_nx, RF.forK_ct, RF.forK_bk, RF.forK_rt, RF.asV, Option.map_some, Option.map_none, Option.bind_some, Option.bind_none, Option.some.injEq, List.getElem?_cons_zero, List.getElem?_cons_succ, List.set_cons_zero, List.set_cons_succ, List.length_cons, List.length_nil, List.cons_append, List.nil_append, List.replicate_succ, List.replicate_zero, Nat.reduceAdd, Nat.reduceSub, Nat.add_zero, Nat.zero_add, Nat.sub_self, RF.seqI, RF.seqD, RF.wipeE, RF.restE, Option.getD_some, RF.ix_lst0, RF.ix_tup0, RF.ixN_0, RF.ix_lst1, RF.ix_tup1, RF.ixN_1, RF.ix_lst2, RF.ix_tup2, RF.ixN_2, RF.ix_lst3, RF.ix_tup3, RF.ixN_3, RF.ix_lst4, RF.ix_tup4, RF.ixN_4, RF.ix_lst5, RF.ix_tup5, RF.ixN_5, RF.ix_lst6, RF.ix_tup6, RF.ixN_6, RF.ix_lst7, RF.ix_tup7, RF.ixN_7, RF.ix_lst8, RF.ix_tup8, RF.ixN_8, RF.add_int, RF.dSub, RF.dMul, RF.dFdiv, RF.dMod, RF.dPow, RF.eq_int, RF.eq_str, RF.ne_int, RF.ne_str, RF.dLt, RF.le_int, RF.gt_int, RF.ge_int, RF.dIs, RF.dLen, RF.dAbs, RF.dInt, RF.dList, RF.dTup, RF.dAll, RF.dAny, RF.dSum, RF.dMax2, RF.dMin2, RF.truthD, RF.isNon]
    rw [good_noname hx]
    exact ⟨by trivial, by trivial⟩
  obtain ⟨s, p, rfl, hf⟩ := named hx
  have hpp := hp.2 p (List.mem_of_find?_eq_some hf)
  simp -dsimp -implicitDefEqProofs only [RF.w_seq, RF.w_if, RF.w_asg, RF.w_ret, RF.w_drop, RF.w_nx, RF.w_run, RF.w_C, RF.w_var, RF.w_mv, RF.w_D, RF.w_V, RF.w_ev, RF.w_lv, RF.w_op, RF.w_T, RF.w_B, RF.w_notT, RF.w_andT, RF.w_orT, RF.w_andV, RF.w_orV, RF.w_not, RF.w_neg, RF.w_CB, RF.w_pre0, RF.w_pre, RF.w_isi, RF.w_evs0, RF.w_evs, RF.w_tup, RF.w_lst, RF.w_part0, RF.w_part, RF.w_sl, RF.w_call, RF.w_call0, RF.w_app, RF.w_ext, RF.w_ins, RF.w_pop, RF.w_setI, RF.w_aug, RF.w_asgT, RF.w_for, RF.w_for0, RF.w_for1, RF.w_it, RF.w_enum, RF.w_rng1, RF.w_rng2, RF.w_lc, RF.w_lc0, RF.w_lc1, RF.w_chain, RF.w_lam, RF.w_bnd, RF.oK_some, RF.oK_none, RF.oK_ite, RF.ifK_true, RF.ifK_false, RF.ifK_not, RF.seqK_nx, RF.seqK_bk, RF.seqK_ct, RF.seqK_rt, RF.stO_un, RF.stO_va, RF.stO_ow, RF.retK_rt, RF.retK_nx, RF.back_nil, RF.back_ow, RF.back_va, RF.varK_va, RF.varK_ow, RF.toD_lst, RF.toD_dct, RF.mvK_va, RF.mvK_ow, RF.rvK_va, RF.rvK_ow, RF.rdS_va, RF.rdS_ow, RF.fin_ev, RF.fin_lv, RF.ap2_some, RF.blK_bl, RF.negD, RF.cons2_some, RF.finL_nil, RF.finL_cons, RF.intK_int, RF.mkA_nil, RF.mkA_ev, RF.mkS_ow, RF.mkA_lv, RF.putA_nil, RF.putA_ev, RF.putS_ow, RF.putA_lv, RF.owS_ow, RF.vaS_va, RF.tgN_eq, RF.tgO_un, RF.tgO_va, RF.tgO_ow, RF.tgT_tup, RF.tgL_nil, RF.tgL_cons, RF.forK_nx, RF.forK_ct, RF.forK_bk, RF.forK_rt, RF.asV, Option.map_some, Option.map_none, Option.bind_some, Option.bind_none, Option.some.injEq, List.getElem?_cons_zero, List.getElem?_cons_succ, List.set_cons_zero, List.set_cons_succ, List.length_cons, List.length_nil, List.cons_append, List.nil_append, List.replicate_succ, List.replicate_zero, Nat.reduceAdd, Nat.reduceSub, Nat.add_zero, Nat.zero_add, Nat.sub_self, RF.seqI, RF.seqD, RF.wipeE, RF.restE, Option.getD_some, RF.ix_lst0, RF.ix_tup0, RF.ixN_0, RF.ix_lst1, RF.ix_tup1, RF.ixN_1, RF.ix_lst2, RF.ix_tup2, RF.ixN_2, RF.ix_lst3, RF.ix_tup3, RF.ixN_3, RF.ix_lst4, RF.ix_tup4, RF.ixN_4, RF.ix_lst5, RF.ix_tup5, RF.ixN_5, RF.ix_lst6, RF.ix_tup6, RF.ixN_6, RF.ix_lst7, RF.ix_tup7, RF.ixN_7, RF.ix_lst8, RF.ix_tup8, RF.ixN_8, RF.add_int, RF.dSub, RF.dMul, RF.dFdiv, RF.dMod, RF.dPow, RF.eq_int, RF.eq_str, RF.ne_int, RF.ne_str, RF.dLt, RF.le_int, RF.gt_int, RF.ge_int, RF.dIs, RF.dLen, RF.dAbs, RF.dInt, RF.dList, RF.dTup, RF.dAll, RF.dAny, RF.dSum, RF.dMax2, RF.dMin2, RF.truthD, RF.isNon, wp_of (f_named ps hp.1 s p hf)]
  rw [show good ps (.tup [.str s, b, c, e]) = good1 p b c e by simp [good, hf]]
  unfold pD
  simp -dsimp -implicitDefEqProofs only [RF.w_seq, RF.w_if, RF.w_asg, RF.w_ret, RF.w_drop, RF.w_nx, RF.w_run, RF.w_C, RF.w_var, RF.w_mv, RF.w_D, RF.w_V, RF.w_ev, RF.w_lv, RF.w_op, RF.w_T, RF.w_B, RF.w_notT, RF.w_andT, RF.w_orT, RF.w_andV, RF.w_orV, RF.w_not, RF.w_neg, RF.w_CB, RF.w_pre0, RF.w_pre, RF.w_isi, RF.w_evs0, RF.w_evs, RF.w_tup, RF.w_lst, RF.w_part0, RF.w_part, RF.w_sl, RF.w_call, RF.w_call0, RF.w_app, RF.w_ext, RF.w_ins, RF.w_pop, RF.w_setI, RF.w_aug, RF.w_asgT, RF.w_for, RF.w_for0, RF.w_for1, RF.w_it, RF.w_enum, RF.w_rng1, RF.w_rng2, RF.w_lc, RF.w_lc0, RF.w_lc1, RF.w_chain, RF.w_lam, RF.w_bnd, RF.oK_some, RF.oK_none, RF.oK_ite, RF.ifK_true, RF.ifK_false, RF.ifK_not, RF.seqK_nx, RF.seqK_bk, RF.seqK_ct, RF.seqK_rt, RF.stO_un, RF.stO_va, RF.stO_ow, RF.retK_rt, RF.retK_nx, RF.back_nil, RF.back_ow, RF.back_va, RF.varK_va, RF.varK_ow, RF.toD_lst, RF.toD_dct, RF.mvK_va, RF.mvK_ow, RF.rvK_va, RF.rvK_ow, RF.rdS_va, RF.rdS_ow, RF.fin_ev, RF.fin_lv, RF.ap2_some, RF.blK_bl, RF.negD, RF.cons2_some, RF.finL_nil, RF.finL_cons, RF.intK_int, RF.mkA_nil, RF.mkA_ev, RF.mkS_ow, RF.mkA_lv, RF.putA_nil, RF.putA_ev, RF.putS_ow, RF.putA_lv, RF.owS_ow, RF.vaS_va, RF.tgN_eq, RF.tgO_un, RF.tgO_va, RF.tgO_ow, RF.tgT_tup, RF.tgL_nil, RF.tgL_cons, RF.forK_nx, RF.forK_ct, RF.forK_bk, RF.forK_rt, RF.asV, Option.map_some, Option.map_none, Option.bind_some, Option.bind_none, Option.some.injEq, List.getElem?_cons_zero, List.getElem?_cons_succ, List.set_cons_zero, List.set_cons_succ, List.length_cons, List.length_nil, List.cons_append, List.nil_append, List.replicate_succ, List.replicate_zero, Nat.reduceAdd, Nat.reduceSub, Nat.add_zero, Nat.zero_add, Nat.sub_self, RF.seqI, RF.seqD, RF.wipeE, RF.restE, Option.getD_some, RF.ix_lst0, RF.ix_tup0, RF.ixN_0, RF.ix_lst1, RF.ix_tup1, RF.ixN_1, RF.ix_lst2, RF.ix_tup2, RF.ixN_2, RF.ix_lst3, RF.ix_tup3, RF.ixN_3, RF.ix_lst4, RF.ix_tup4, RF.ixN_4, RF.ix_lst5, RF.ix_tup5, RF.ixN_5, RF.ix_lst6, RF.ix_tup6, RF.ixN_6, RF.ix_lst7, RF.ix_tup7, RF.ixN_7, RF.ix_lst8, RF.ix_tup8, RF.ixN_8, RF.add_int, RF.dSub, RF.dMul, RF.dFdiv, RF.dMod, RF.dPow, RF.eq_int, RF.eq_str, RF.ne_int, RF.ne_str, RF.dLt, RF.le_int, RF.gt_int, RF.ge_int, RF.dIs, RF.dLen, RF.dAbs, RF.dInt, RF.dList, RF.dTup, RF.dAll, RF.dAny, RF.dSum, RF.dMax2, RF.dMin2, RF.truthD, RF.isNon]
  refine ⟨by rfl, ?_⟩
  refine (wp_of (lc_map (fun d => match d with | .tup (x :: _) => x | _ => .non) (p.items.map iD) (fun i d e => ?_))).mpr ?_
  · obtain ⟨x, rfl⟩ := get_iD e
    refine ⟨_, rfl, ?_⟩
    unfold iD
    simp -dsimp -implicitDefEqProofs only [RF.w_seq, RF.w_if, RF.w_asg, RF.w_ret, RF.w_drop, RF.w_nx, RF.w_run, RF.w_C, RF.w_var, RF.w_mv, RF.w_D, RF.w_V, RF.w_ev, RF.w_lv, RF.w_op, RF.w_T, RF.w_B, RF.w_notT, RF.w_andT, RF.w_orT, RF.w_andV, RF.w_orV, RF.w_not, RF.w_neg, RF.w_CB, RF.w_pre0, RF.w_pre, RF.w_isi, RF.w_evs0, RF.w_evs, RF.w_tup, RF.w_lst, RF.w_part0, RF.w_part, RF.w_sl, RF.w_call, RF.w_call0, RF.w_app, RF.w_ext, RF.w_ins, RF.w_pop, RF.w_setI, RF.w_aug, RF.w_asgT, RF.w_for, RF.w_for0, RF.w_for1, RF.w_it, RF.w_enum, RF.w_rng1, RF.w_rng2, RF.w_lc, RF.w_lc0, RF.w_lc1, RF.w_chain, RF.w_lam, RF.w_bnd, RF.oK_some, RF.oK_none, RF.oK_ite, RF.ifK_true, RF.ifK_false, RF.ifK_not, RF.seqK_nx, RF.seqK_bk, RF.seqK_ct, RF.seqK_rt, RF.stO_un, RF.stO_va, RF.stO_ow, RF.retK_rt, RF.retK_nx, RF.back_nil, RF.back_ow, RF.back_va, RF.varK_va, RF.varK_ow, RF.toD_lst, RF.toD_dct, RF.mvK_va, RF.mvK_ow, RF.rvK_va, RF.rvK_ow, RF.rdS_va, RF.rdS_ow, RF.fin_ev, RF.fin_lv, RF.ap2_some, RF.blK_bl, RF.negD, RF.cons2_some, RF.finL_nil, RF.finL_cons, RF.intK_int, RF.mkA_nil, RF.mkA_ev, RF.mkS_ow, RF.mkA_lv, RF.putA_nil, RF.putA_ev, RF.putS_ow, RF.putA_lv, RF.owS_ow, RF.vaS_va, RF.tgN_eq, RF.tgO_un, RF.tgO_va, RF.tgO_ow, RF.tgT_tup, RF.tgL_nil, RF.tgL_cons, RF.forK_nx, RF.forK_ct, RF.forK_bk, RF.forK_rt, RF.asV, Option.map_some, Option.map_none, Option.bind_some, Option.bind_none, Option.some.injEq, List.getElem?_cons_zero, List.getElem?_cons_succ, List.set_cons_zero, List.set_cons_succ, List.length_cons, List.length_nil, List.cons_append, List.nil_append, List.replicate_succ, List.replicate_zero, Nat.reduceAdd, Nat.reduceSub, Nat.add_zero, Nat.zero_add, Nat.sub_self, RF.seqI, RF.seqD, RF.wipeE, RF.restE, Option.getD_some, RF.ix_lst0, RF.ix_tup0, RF.ixN_0, RF.ix_lst1, RF.ix_tup1, RF.ixN_1, RF.ix_lst2, RF.ix_tup2, RF.ixN_2, RF.ix_lst3, RF.ix_tup3, RF.ixN_3, RF.ix_lst4, RF.ix_tup4, RF.ixN_4, RF.ix_lst5, RF.ix_tup5, RF.ixN_5, RF.ix_lst6, RF.ix_tup6, RF.ixN_6, RF.ix_lst7, RF.ix_tup7, RF.ixN_7, RF.ix_lst8, RF.ix_tup8, RF.ixN_8, RF.add_int, RF.dSub, RF.dMul, RF.dFdiv, RF.dMod, RF.dPow, RF.eq_int, RF.eq_str, RF.ne_int, RF.ne_str, RF.dLt, RF.le_int, RF.gt_int, RF.ge_int, RF.dIs, RF.dLen, RF.dAbs, RF.dInt, RF.dList, RF.dTup, RF.dAll, RF.dAny, RF.dSum, RF.dMax2, RF.dMin2, RF.truthD, RF.isNon]
    exact ⟨by trivial, by trivial⟩
  rw [kinds_eq]
  refine ⟨by rw [List.length_map]; exact Nat.le_trans hpp.1 (by decide), ?_⟩
  simp -dsimp -implicitDefEqProofs only [RF.w_seq, RF.w_if, RF.w_asg, RF.w_ret, RF.w_drop, RF.w_nx, RF.w_run, RF.w_C, RF.w_var, RF.w_mv, RF.w_D, RF.w_V, RF.w_ev, RF.w_lv, RF.w_op, RF.w_T, RF.w_B, RF.w_notT, RF.w_andT, RF.w_orT, RF.w_andV, RF.w_orV, RF.w_not, RF.w_neg, RF.w_CB, RF.w_pre0, RF.w_pre, RF.w_isi, RF.w_evs0, RF.w_evs, RF.w_tup, RF.w_lst, RF.w_part0, RF.w_part, RF.w_sl, RF.w_call, RF.w_call0, RF.w_app, RF.w_ext, RF.w_ins, RF.w_pop, RF.w_setI, RF.w_aug, RF.w_asgT, RF.w_for, RF.w_for0, RF.w_for1, RF.w_it, RF.w_enum, RF.w_rng1, RF.w_rng2, RF.w_lc, RF.w_lc0, RF.w_lc1, RF.w_chain, RF.w_lam, RF.w_bnd, RF.oK_some, RF.oK_none, RF.oK_ite, RF.ifK_true, RF.ifK_false, RF.ifK_not, RF.seqK_nx, RF.seqK_bk, RF.seqK_ct, RF.seqK_rt, RF.stO_un, RF.stO_va, RF.stO_ow, RF.retK_rt, RF.retK_nx, RF.back_nil, RF.back_ow, RF.back_va, RF.varK_va, RF.varK_ow, RF.toD_lst, RF.toD_dct, RF.mvK_va, RF.mvK_ow, RF.rvK_va, RF.rvK_ow, RF.rdS_va, RF.rdS_ow, RF.fin_ev, RF.fin_lv, RF.ap2_some, RF.blK_bl, RF.negD, RF.cons2_some, RF.finL_nil, RF.finL_cons, RF.intK_int, RF.mkA_nil, RF.mkA_ev, RF.mkS_ow, RF.mkA_lv, RF.putA_nil, RF.putA_ev, RF.putS_ow, RF.putA_lv, RF.owS_ow, RF.vaS_va, RF.tgN_eq, RF.tgO_un, RF.tgO_va, RF.tgO_ow, RF.tgT_tup, RF.tgL_nil, RF.tgL_cons, RF.forK_nx, RF.forK_ct, RF.forK_bk, RF.forK_rt, RF.asV, Option.map_some, Option.map_none, Option.bind_some, Option.bind_none, Option.some.injEq, List.getElem?_cons_zero, List.getElem?_cons_succ, List.set_cons_zero, List.set_cons_succ, List.length_cons, List.length_nil, List.cons_append, List.nil_append, List.replicate_succ, List.replicate_zero, Nat.reduceAdd, Nat.reduceSub, Nat.add_zero, Nat.zero_add, Nat.sub_self, RF.seqI, RF.seqD, RF.wipeE, RF.restE, Option.getD_some, RF.ix_lst0, RF.ix_tup0, RF.ixN_0, RF.ix_lst1, RF.ix_tup1, RF.ixN_1, RF.ix_lst2, RF.ix_tup2, RF.ixN_2, RF.ix_lst3, RF.ix_tup3, RF.ixN_3, RF.ix_lst4, RF.ix_tup4, RF.ixN_4, RF.ix_lst5, RF.ix_tup5, RF.ixN_5, RF.ix_lst6, RF.ix_tup6, RF.ixN_6, RF.ix_lst7, RF.ix_tup7, RF.ixN_7, RF.ix_lst8, RF.ix_tup8, RF.ixN_8, RF.add_int, RF.dSub, RF.dMul, RF.dFdiv, RF.dMod, RF.dPow, RF.eq_int, RF.eq_str, RF.ne_int, RF.ne_str, RF.dLt, RF.le_int, RF.gt_int, RF.ge_int, RF.dIs, RF.dLen, RF.dAbs, RF.dInt, RF.dList, RF.dTup, RF.dAll, RF.dAny, RF.dSum, RF.dMax2, RF.dMin2, RF.truthD, RF.isNon, wp_of (f_tup b _), List.length_map]
  cases h5 : tn b (p.items.length : Int)
  · simp -dsimp -implicitDefEqProofs only [RF.w_seq, RF.w_if, RF.w_asg, RF.w_ret, RF.w_drop, RF.w_nx, RF.w_run, RF.w_C, RF.w_var, RF.w_mv, RF.w_D, RF.w_V, RF.w_ev, RF.w_lv, RF.w_op, RF.w_T, RF.w_B, RF.w_notT, RF.w_andT, RF.w_orT, RF.w_andV, RF.w_orV, RF.w_not, RF.w_neg, RF.w_CB, RF.w_pre0, RF.w_pre, RF.w_isi, RF.w_evs0, RF.w_evs, RF.w_tup, RF.w_lst, RF.w_part0, RF.w_part, RF.w_sl, RF.w_call, RF.w_call0, RF.w_app, RF.w_ext, RF.w_ins, RF.w_pop, RF.w_setI, RF.w_aug, RF.w_asgT, RF.w_for, RF.w_for0, RF.w_for1, RF.w_it, RF.w_enum, RF.w_rng1, RF.w_rng2, RF.w_lc, RF.w_lc0, RF.w_lc1, RF.w_chain, RF.w_lam, RF.w_bnd, RF.oK_some, RF.oK_none, RF.oK_ite, RF.ifK_true, RF.ifK_false, RF.ifK_not, RF.seqK_nx, RF.seqK_bk, RF.seqK_ct, RF.seqK_rt, RF.stO_un, RF.stO_va, RF.stO_ow, RF.retK_rt, RF.retK_nx, RF.back_nil, RF.back_ow, RF.back_va, RF.varK_va, RF.varK_ow, RF.toD_lst, RF.toD_dct, RF.mvK_va, RF.mvK_ow, RF.rvK_va, RF.rvK_ow, RF.rdS_va, RF.rdS_ow, RF.fin_ev, RF.fin_lv, RF.ap2_some, RF.blK_bl, RF.negD, RF.cons2_some, RF.finL_nil, RF.finL_cons, RF.intK_int, RF.mkA_nil, RF.mkA_ev, RF.mkS_ow, RF.mkA_lv, RF.putA_nil, RF.putA_ev, RF.putS_ow, RF.putA_lv, RF.owS_ow, RF.vaS_va, RF.tgN_eq, RF.tgO_un, RF.tgO_va, RF.tgO_ow, RF.tgT_tup, RF.tgL_nil, RF.tgL_cons, RF.forK_nx, RF.forK_ct, RF.forK_bk, RF.forK_rt, RF.asV, Option.map_some, Option.map_none, Option.bind_some, Option.bind_none, Option.some.injEq, List.getElem?_cons_zero, List.getElem?_cons_succ, List.set_cons_zero, List.set_cons_succ, List.length_cons, List.length_nil, List.cons_append, List.nil_append, List.replicate_succ, List.replicate_zero, Nat.reduceAdd, Nat.reduceSub, Nat.add_zero, Nat.zero_add, Nat.sub_self, RF.seqI, RF.seqD, RF.wipeE, RF.restE, Option.getD_some, RF.ix_lst0, RF.ix_tup0, RF.ixN_0, RF.ix_lst1, RF.ix_tup1, RF.ixN_1, RF.ix_lst2, RF.ix_tup2, RF.ixN_2, RF.ix_lst3, RF.ix_tup3, RF.ixN_3, RF.ix_lst4, RF.ix_tup4, RF.ixN_4, RF.ix_lst5, RF.ix_tup5, RF.ixN_5, RF.ix_lst6, RF.ix_tup6, RF.ixN_6, RF.ix_lst7, RF.ix_tup7, RF.ixN_7, RF.ix_lst8, RF.ix_tup8, RF.ixN_8, RF.add_int, RF.dSub, RF.dMul, RF.dFdiv, RF.dMod, RF.dPow, RF.eq_int, RF.eq_str, RF.ne_int, RF.ne_str, RF.dLt, RF.le_int, RF.gt_int, RF.ge_int, RF.dIs, RF.dLen, RF.dAbs, RF.dInt, RF.dList, RF.dTup, RF.dAll, RF.dAny, RF.dSum, RF.dMax2, RF.dMin2, RF.truthD, RF.isNon]
    rw [good1_b h5]
    exact ⟨by trivial, by trivial⟩
  obtain ⟨bs, rfl, hbl⟩ := tn_tup h5
  have hbm := sm_mem hb
  simp -dsimp -implicitDefEqProofs only [RF.w_seq, RF.w_if, RF.w_asg, RF.w_ret, RF.w_drop, RF.w_nx, RF.w_run, RF.w_C, RF.w_var, RF.w_mv, RF.w_D, RF.w_V, RF.w_ev, RF.w_lv, RF.w_op, RF.w_T, RF.w_B, RF.w_notT, RF.w_andT, RF.w_orT, RF.w_andV, RF.w_orV, RF.w_not, RF.w_neg, RF.w_CB, RF.w_pre0, RF.w_pre, RF.w_isi, RF.w_evs0, RF.w_evs, RF.w_tup, RF.w_lst, RF.w_part0, RF.w_part, RF.w_sl, RF.w_call, RF.w_call0, RF.w_app, RF.w_ext, RF.w_ins, RF.w_pop, RF.w_setI, RF.w_aug, RF.w_asgT, RF.w_for, RF.w_for0, RF.w_for1, RF.w_it, RF.w_enum, RF.w_rng1, RF.w_rng2, RF.w_lc, RF.w_lc0, RF.w_lc1, RF.w_chain, RF.w_lam, RF.w_bnd, RF.oK_some, RF.oK_none, RF.oK_ite, RF.ifK_true, RF.ifK_false, RF.ifK_not, RF.seqK_nx, RF.seqK_bk, RF.seqK_ct, RF.seqK_rt, RF.stO_un, RF.stO_va, RF.stO_ow, RF.retK_rt, RF.retK_nx, RF.back_nil, RF.back_ow, RF.back_va, RF.varK_va, RF.varK_ow, RF.toD_lst, RF.toD_dct, RF.mvK_va, RF.mvK_ow, RF.rvK_va, RF.rvK_ow, RF.rdS_va, RF.rdS_ow, RF.fin_ev, RF.fin_lv, RF.ap2_some, RF.blK_bl, RF.negD, RF.cons2_some, RF.finL_nil, RF.finL_cons, RF.intK_int, RF.mkA_nil, RF.mkA_ev, RF.mkS_ow, RF.mkA_lv, RF.putA_nil, RF.putA_ev, RF.putS_ow, RF.putA_lv, RF.owS_ow, RF.vaS_va, RF.tgN_eq, RF.tgO_un, RF.tgO_va, RF.tgO_ow, RF.tgT_tup, RF.tgL_nil, RF.tgL_cons, RF.forK_nx, RF.forK_ct, RF.forK_bk, RF.forK_rt, RF.asV, Option.map_some, Option.map_none, Option.bind_some, Option.bind_none, Option.some.injEq, List.getElem?_cons_zero, List.getElem?_cons_succ, List.set_cons_zero, List.set_cons_succ, List.length_cons, List.length_nil, List.cons_append, List.nil_append, List.replicate_succ, List.replicate_zero, Nat.reduceAdd, Nat.reduceSub, Nat.add_zero, Nat.zero_add, Nat.sub_self, RF.seqI, RF.seqD, RF.wipeE, RF.restE, Option.getD_some, RF.ix_lst0, RF.ix_tup0, RF.ixN_0, RF.ix_lst1, RF.ix_tup1, RF.ixN_1, RF.ix_lst2, RF.ix_tup2, RF.ixN_2, RF.ix_lst3, RF.ix_tup3, RF.ixN_3, RF.ix_lst4, RF.ix_tup4, RF.ixN_4, RF.ix_lst5, RF.ix_tup5, RF.ixN_5, RF.ix_lst6, RF.ix_tup6, RF.ixN_6, RF.ix_lst7, RF.ix_tup7, RF.ixN_7, RF.ix_lst8, RF.ix_tup8, RF.ixN_8, RF.add_int, RF.dSub, RF.dMul, RF.dFdiv, RF.dMod, RF.dPow, RF.eq_int, RF.eq_str, RF.ne_int, RF.ne_str, RF.dLt, RF.le_int, RF.gt_int, RF.ge_int, RF.dIs, RF.dLen, RF.dAbs, RF.dInt, RF.dList, RF.dTup, RF.dAll, RF.dAny, RF.dSum, RF.dMax2, RF.dMin2, RF.truthD, RF.isNon, RF.w_zip, RF.w_rev, RF.dIsB, RF.dStr, RF.dRev, RF.dSorted]
  refine ⟨by rfl, ?_⟩
  refine (wp_of (lc_map (fun d => match d with | .tup [x, .str k] => D.bl (vOk (k == Str.ofString "array") x) | _ => .non) (zipD bs (p.items.map fun i => kD i.1)) (fun i d e => ?_))).mpr ?_
  · obtain ⟨x, k, hx, rfl⟩ := get_zip e
    refine ⟨_, rfl, ?_⟩
    simp -dsimp -implicitDefEqProofs only [RF.w_seq, RF.w_if, RF.w_asg, RF.w_ret, RF.w_drop, RF.w_nx, RF.w_run, RF.w_C, RF.w_var, RF.w_mv, RF.w_D, RF.w_V, RF.w_ev, RF.w_lv, RF.w_op, RF.w_T, RF.w_B, RF.w_notT, RF.w_andT, RF.w_orT, RF.w_andV, RF.w_orV, RF.w_not, RF.w_neg, RF.w_CB, RF.w_pre0, RF.w_pre, RF.w_isi, RF.w_evs0, RF.w_evs, RF.w_tup, RF.w_lst, RF.w_part0, RF.w_part, RF.w_sl, RF.w_call, RF.w_call0, RF.w_app, RF.w_ext, RF.w_ins, RF.w_pop, RF.w_setI, RF.w_aug, RF.w_asgT, RF.w_for, RF.w_for0, RF.w_for1, RF.w_it, RF.w_enum, RF.w_rng1, RF.w_rng2, RF.w_lc, RF.w_lc0, RF.w_lc1, RF.w_chain, RF.w_lam, RF.w_bnd, RF.oK_some, RF.oK_none, RF.oK_ite, RF.ifK_true, RF.ifK_false, RF.ifK_not, RF.seqK_nx, RF.seqK_bk, RF.seqK_ct, RF.seqK_rt, RF.stO_un, RF.stO_va, RF.stO_ow, RF.retK_rt, RF.retK_nx, RF.back_nil, RF.back_ow, RF.back_va, RF.varK_va, RF.varK_ow, RF.toD_lst, RF.toD_dct, RF.mvK_va, RF.mvK_ow, RF.rvK_va, RF.rvK_ow, RF.rdS_va, RF.rdS_ow, RF.fin_ev, RF.fin_lv, RF.ap2_some, RF.blK_bl, RF.negD, RF.cons2_some, RF.finL_nil, RF.finL_cons, RF.intK_int, RF.mkA_nil, RF.mkA_ev, RF.mkS_ow, RF.mkA_lv, RF.putA_nil, RF.putA_ev, RF.putS_ow, RF.putA_lv, RF.owS_ow, RF.vaS_va, RF.tgN_eq, RF.tgO_un, RF.tgO_va, RF.tgO_ow, RF.tgT_tup, RF.tgL_nil, RF.tgL_cons, RF.forK_nx, RF.forK_ct, RF.forK_bk, RF.forK_rt, RF.asV, Option.map_some, Option.map_none, Option.bind_some, Option.bind_none, Option.some.injEq, List.getElem?_cons_zero, List.getElem?_cons_succ, List.set_cons_zero, List.set_cons_succ, List.length_cons, List.length_nil, List.cons_append, List.nil_append, List.replicate_succ, List.replicate_zero, Nat.reduceAdd, Nat.reduceSub, Nat.add_zero, Nat.zero_add, Nat.sub_self, RF.seqI, RF.seqD, RF.wipeE, RF.restE, Option.getD_some, RF.ix_lst0, RF.ix_tup0, RF.ixN_0, RF.ix_lst1, RF.ix_tup1, RF.ixN_1, RF.ix_lst2, RF.ix_tup2, RF.ixN_2, RF.ix_lst3, RF.ix_tup3, RF.ixN_3, RF.ix_lst4, RF.ix_tup4, RF.ixN_4, RF.ix_lst5, RF.ix_tup5, RF.ixN_5, RF.ix_lst6, RF.ix_tup6, RF.ixN_6, RF.ix_lst7, RF.ix_tup7, RF.ixN_7, RF.ix_lst8, RF.ix_tup8, RF.ixN_8, RF.add_int, RF.dSub, RF.dMul, RF.dFdiv, RF.dMod, RF.dPow, RF.eq_int, RF.eq_str, RF.ne_int, RF.ne_str, RF.dLt, RF.le_int, RF.gt_int, RF.ge_int, RF.dIs, RF.dLen, RF.dAbs, RF.dInt, RF.dList, RF.dTup, RF.dAll, RF.dAny, RF.dSum, RF.dMax2, RF.dMin2, RF.truthD, RF.isNon, wp_of (f_val x k (sm_len (hbm x hx)))]
    refine ⟨?_, by trivial⟩
    cases k <;> simp [kD, kD_ne]
  rw [(vals_zip p.items bs hbl).1]
  refine ⟨by rw [List.length_map, List.length_zip]; exact Nat.le_trans (Nat.min_le_left _ _) (Nat.le_trans hpp.1 (by decide)), ?_⟩
  simp -dsimp -implicitDefEqProofs only [RF.w_seq, RF.w_if, RF.w_asg, RF.w_ret, RF.w_drop, RF.w_nx, RF.w_run, RF.w_C, RF.w_var, RF.w_mv, RF.w_D, RF.w_V, RF.w_ev, RF.w_lv, RF.w_op, RF.w_T, RF.w_B, RF.w_notT, RF.w_andT, RF.w_orT, RF.w_andV, RF.w_orV, RF.w_not, RF.w_neg, RF.w_CB, RF.w_pre0, RF.w_pre, RF.w_isi, RF.w_evs0, RF.w_evs, RF.w_tup, RF.w_lst, RF.w_part0, RF.w_part, RF.w_sl, RF.w_call, RF.w_call0, RF.w_app, RF.w_ext, RF.w_ins, RF.w_pop, RF.w_setI, RF.w_aug, RF.w_asgT, RF.w_for, RF.w_for0, RF.w_for1, RF.w_it, RF.w_enum, RF.w_rng1, RF.w_rng2, RF.w_lc, RF.w_lc0, RF.w_lc1, RF.w_chain, RF.w_lam, RF.w_bnd, RF.oK_some, RF.oK_none, RF.oK_ite, RF.ifK_true, RF.ifK_false, RF.ifK_not, RF.seqK_nx, RF.seqK_bk, RF.seqK_ct, RF.seqK_rt, RF.stO_un, RF.stO_va, RF.stO_ow, RF.retK_rt, RF.retK_nx, RF.back_nil, RF.back_ow, RF.back_va, RF.varK_va, RF.varK_ow, RF.toD_lst, RF.toD_dct, RF.mvK_va, RF.mvK_ow, RF.rvK_va, RF.rvK_ow, RF.rdS_va, RF.rdS_ow, RF.fin_ev, RF.fin_lv, RF.ap2_some, RF.blK_bl, RF.negD, RF.cons2_some, RF.finL_nil, RF.finL_cons, RF.intK_int, RF.mkA_nil, RF.mkA_ev, RF.mkS_ow, RF.mkA_lv, RF.putA_nil, RF.putA_ev, RF.putS_ow, RF.putA_lv, RF.owS_ow, RF.vaS_va, RF.tgN_eq, RF.tgO_un, RF.tgO_va, RF.tgO_ow, RF.tgT_tup, RF.tgL_nil, RF.tgL_cons, RF.forK_nx, RF.forK_ct, RF.forK_bk, RF.forK_rt, RF.asV, Option.map_some, Option.map_none, Option.bind_some, Option.bind_none, Option.some.injEq, List.getElem?_cons_zero, List.getElem?_cons_succ, List.set_cons_zero, List.set_cons_succ, List.length_cons, List.length_nil, List.cons_append, List.nil_append, List.replicate_succ, List.replicate_zero, Nat.reduceAdd, Nat.reduceSub, Nat.add_zero, Nat.zero_add, Nat.sub_self, RF.seqI, RF.seqD, RF.wipeE, RF.restE, Option.getD_some, RF.ix_lst0, RF.ix_tup0, RF.ixN_0, RF.ix_lst1, RF.ix_tup1, RF.ixN_1, RF.ix_lst2, RF.ix_tup2, RF.ixN_2, RF.ix_lst3, RF.ix_tup3, RF.ixN_3, RF.ix_lst4, RF.ix_tup4, RF.ixN_4, RF.ix_lst5, RF.ix_tup5, RF.ixN_5, RF.ix_lst6, RF.ix_tup6, RF.ixN_6, RF.ix_lst7, RF.ix_tup7, RF.ixN_7, RF.ix_lst8, RF.ix_tup8, RF.ixN_8, RF.add_int, RF.dSub, RF.dMul, RF.dFdiv, RF.dMod, RF.dPow, RF.eq_int, RF.eq_str, RF.ne_int, RF.ne_str, RF.dLt, RF.le_int, RF.gt_int, RF.ge_int, RF.dIs, RF.dLen, RF.dAbs, RF.dInt, RF.dList, RF.dTup, RF.dAll, RF.dAny, RF.dSum, RF.dMax2, RF.dMin2, RF.truthD, RF.isNon, bools_map]
  rw [show (List.map (fun x : (Bool × Str) × D => vOk x.1.1 x.2) (p.items.zip bs)).all id = vals p.items bs by rw [(vals_zip p.items bs hbl).2, List.all_map]; rfl]
  cases h6 : vals p.items bs
  · simp -dsimp -implicitDefEqProofs only [RF.w_seq, RF.w_if, RF.w_asg, RF.w_ret, RF.w_drop, RF.w_nx, RF.w_run, RF.w_C, RF.w_var, RF.w_mv, RF.w_D, RF.w_V, RF.w_ev, RF.w_lv, RF.w_op, RF.w_T, RF.w_B, RF.w_notT, RF.w_andT, RF.w_orT, RF.w_andV, RF.w_orV, RF.w_not, RF.w_neg, RF.w_CB, RF.w_pre0, RF.w_pre, RF.w_isi, RF.w_evs0, RF.w_evs, RF.w_tup, RF.w_lst, RF.w_part0, RF.w_part, RF.w_sl, RF.w_call, RF.w_call0, RF.w_app, RF.w_ext, RF.w_ins, RF.w_pop, RF.w_setI, RF.w_aug, RF.w_asgT, RF.w_for, RF.w_for0, RF.w_for1, RF.w_it, RF.w_enum, RF.w_rng1, RF.w_rng2, RF.w_lc, RF.w_lc0, RF.w_lc1, RF.w_chain, RF.w_lam, RF.w_bnd, RF.oK_some, RF.oK_none, RF.oK_ite, RF.ifK_true, RF.ifK_false, RF.ifK_not, RF.seqK_nx, RF.seqK_bk, RF.seqK_ct, RF.seqK_rt, RF.stO_un, RF.stO_va, RF.stO_ow, RF.retK_rt, RF.retK_nx, RF.back_nil, RF.back_ow, RF.back_va, RF.varK_va, RF.varK_ow, RF.toD_lst, RF.toD_dct, RF.mvK_va, RF.mvK_ow, RF.rvK_va, RF.rvK_ow, RF.rdS_va, RF.rdS_ow, RF.fin_ev, RF.fin_lv, RF.ap2_some, RF.blK_bl, RF.negD, RF.cons2_some, RF.finL_nil, RF.finL_cons, RF.intK_int, RF.mkA_nil, RF.mkA_ev, RF.mkS_ow, RF.mkA_lv, RF.putA_nil, RF.putA_ev, RF.putS_ow, RF.putA_lv, RF.owS_ow, RF.vaS_va, RF.tgN_eq, RF.tgO_un, RF.tgO_va, RF.tgO_ow, RF.tgT_tup, RF.tgL_nil, RF.tgL_cons, RF.forK_nx, RF.forK_ct, RF.forK_bk, RF.forK_rt, RF.asV, Option.map_some, Option.map_none, Option.bind_some, Option.bind_none, Option.some.injEq, List.getElem?_cons_zero, List.getElem?_cons_succ, List.set_cons_zero, List.set_cons_succ, List.length_cons, List.length_nil, List.cons_append, List.nil_append, List.replicate_succ, List.replicate_zero, Nat.reduceAdd, Nat.reduceSub, Nat.add_zero, Nat.zero_add, Nat.sub_self, RF.seqI, RF.seqD, RF.wipeE, RF.restE, Option.getD_some, RF.ix_lst0, RF.ix_tup0, RF.ixN_0, RF.ix_lst1, RF.ix_tup1, RF.ixN_1, RF.ix_lst2, RF.ix_tup2, RF.ixN_2, RF.ix_lst3, RF.ix_tup3, RF.ixN_3, RF.ix_lst4, RF.ix_tup4, RF.ixN_4, RF.ix_lst5, RF.ix_tup5, RF.ixN_5, RF.ix_lst6, RF.ix_tup6, RF.ixN_6, RF.ix_lst7, RF.ix_tup7, RF.ixN_7, RF.ix_lst8, RF.ix_tup8, RF.ixN_8, RF.add_int, RF.dSub, RF.dMul, RF.dFdiv, RF.dMod, RF.dPow, RF.eq_int, RF.eq_str, RF.ne_int, RF.ne_str, RF.dLt, RF.le_int, RF.gt_int, RF.ge_int, RF.dIs, RF.dLen, RF.dAbs, RF.dInt, RF.dList, RF.dTup, RF.dAll, RF.dAny, RF.dSum, RF.dMax2, RF.dMin2, RF.truthD, RF.isNon]
    rw [show good1 p (.tup bs) c e = false by simp [good1, h6]]
    exact ⟨by trivial, by trivial⟩
  simp -dsimp -implicitDefEqProofs only [RF.w_seq, RF.w_if, RF.w_asg, RF.w_ret, RF.w_drop, RF.w_nx, RF.w_run, RF.w_C, RF.w_var, RF.w_mv, RF.w_D, RF.w_V, RF.w_ev, RF.w_lv, RF.w_op, RF.w_T, RF.w_B, RF.w_notT, RF.w_andT, RF.w_orT, RF.w_andV, RF.w_orV, RF.w_not, RF.w_neg, RF.w_CB, RF.w_pre0, RF.w_pre, RF.w_isi, RF.w_evs0, RF.w_evs, RF.w_tup, RF.w_lst, RF.w_part0, RF.w_part, RF.w_sl, RF.w_call, RF.w_call0, RF.w_app, RF.w_ext, RF.w_ins, RF.w_pop, RF.w_setI, RF.w_aug, RF.w_asgT, RF.w_for, RF.w_for0, RF.w_for1, RF.w_it, RF.w_enum, RF.w_rng1, RF.w_rng2, RF.w_lc, RF.w_lc0, RF.w_lc1, RF.w_chain, RF.w_lam, RF.w_bnd, RF.oK_some, RF.oK_none, RF.oK_ite, RF.ifK_true, RF.ifK_false, RF.ifK_not, RF.seqK_nx, RF.seqK_bk, RF.seqK_ct, RF.seqK_rt, RF.stO_un, RF.stO_va, RF.stO_ow, RF.retK_rt, RF.retK_nx, RF.back_nil, RF.back_ow, RF.back_va, RF.varK_va, RF.varK_ow, RF.toD_lst, RF.toD_dct, RF.mvK_va, RF.mvK_ow, RF.rvK_va, RF.rvK_ow, RF.rdS_va, RF.rdS_ow, RF.fin_ev, RF.fin_lv, RF.ap2_some, RF.blK_bl, RF.negD, RF.cons2_some, RF.finL_nil, RF.finL_cons, RF.intK_int, RF.mkA_nil, RF.mkA_ev, RF.mkS_ow, RF.mkA_lv, RF.putA_nil, RF.putA_ev, RF.putS_ow, RF.putA_lv, RF.owS_ow, RF.vaS_va, RF.tgN_eq, RF.tgO_un, RF.tgO_va, RF.tgO_ow, RF.tgT_tup, RF.tgL_nil, RF.tgL_cons, RF.forK_nx, RF.forK_ct, RF.forK_bk, RF.forK_rt, RF.asV, Option.map_some, Option.map_none, Option.bind_some, Option.bind_none, Option.some.injEq, List.getElem?_cons_zero, List.getElem?_cons_succ, List.set_cons_zero, List.set_cons_succ, List.length_cons, List.length_nil, List.cons_append, List.nil_append, List.replicate_succ, List.replicate_zero, Nat.reduceAdd, Nat.reduceSub, Nat.add_zero, Nat.zero_add, Nat.sub_self, RF.seqI, RF.seqD, RF.wipeE, RF.restE, Option.getD_some, RF.ix_lst0, RF.ix_tup0, RF.ixN_0, RF.ix_lst1, RF.ix_tup1, RF.ixN_1, RF.ix_lst2, RF.ix_tup2, RF.ixN_2, RF.ix_lst3, RF.ix_tup3, RF.ixN_3, RF.ix_lst4, RF.ix_tup4, RF.ixN_4, RF.ix_lst5, RF.ix_tup5, RF.ixN_5, RF.ix_lst6, RF.ix_tup6, RF.ixN_6, RF.ix_lst7, RF.ix_tup7, RF.ixN_7, RF.ix_lst8, RF.ix_tup8, RF.ixN_8, RF.add_int, RF.dSub, RF.dMul, RF.dFdiv, RF.dMod, RF.dPow, RF.eq_int, RF.eq_str, RF.ne_int, RF.ne_str, RF.dLt, RF.le_int, RF.gt_int, RF.ge_int, RF.dIs, RF.dLen, RF.dAbs, RF.dInt, RF.dList, RF.dTup, RF.dAll, RF.dAny, RF.dSum, RF.dMax2, RF.dMin2, RF.truthD, RF.isNon, wp_of (f_ints c (sm_len hc))]
  cases h7 : tin c
  · simp -dsimp -implicitDefEqProofs only [RF.w_seq, RF.w_if, RF.w_asg, RF.w_ret, RF.w_drop, RF.w_nx, RF.w_run, RF.w_C, RF.w_var, RF.w_mv, RF.w_D, RF.w_V, RF.w_ev, RF.w_lv, RF.w_op, RF.w_T, RF.w_B, RF.w_notT, RF.w_andT, RF.w_orT, RF.w_andV, RF.w_orV, RF.w_not, RF.w_neg, RF.w_CB, RF.w_pre0, RF.w_pre, RF.w_isi, RF.w_evs0, RF.w_evs, RF.w_tup, RF.w_lst, RF.w_part0, RF.w_part, RF.w_sl, RF.w_call, RF.w_call0, RF.w_app, RF.w_ext, RF.w_ins, RF.w_pop, RF.w_setI, RF.w_aug, RF.w_asgT, RF.w_for, RF.w_for0, RF.w_for1, RF.w_it, RF.w_enum, RF.w_rng1, RF.w_rng2, RF.w_lc, RF.w_lc0, RF.w_lc1, RF.w_chain, RF.w_lam, RF.w_bnd, RF.oK_some, RF.oK_none, RF.oK_ite, RF.ifK_true, RF.ifK_false, RF.ifK_not, RF.seqK_nx, RF.seqK_bk, RF.seqK_ct, RF.seqK_rt, RF.stO_un, RF.stO_va, RF.stO_ow, RF.retK_rt, RF.retK_nx, RF.back_nil, RF.back_ow, RF.back_va, RF.varK_va, RF.varK_ow, RF.toD_lst, RF.toD_dct, RF.mvK_va, RF.mvK_ow, RF.rvK_va, RF.rvK_ow, RF.rdS_va, RF.rdS_ow, RF.fin_ev, RF.fin_lv, RF.ap2_some, RF.blK_bl, RF.negD, RF.cons2_some, RF.finL_nil, RF.finL_cons, RF.intK_int, RF.mkA_nil, RF.mkA_ev, RF.mkS_ow, RF.mkA_lv, RF.putA_nil, RF.putA_ev, RF.putS_ow, RF.putA_lv, RF.owS_ow, RF.vaS_va, RF.tgN_eq, RF.tgO_un, RF.tgO_va, RF.tgO_ow, RF.tgT_tup, RF.tgL_nil, RF.tgL_cons, RF.forK_nx, RF.forK_ct, RF.forK_bk, RF.forK_rt, RF.asV, Option.map_some, Option.map_none, Option.bind_some, Option.bind_none, Option.some.injEq, List.getElem?_cons_zero, List.getElem?_cons_succ, List.set_cons_zero, List.set_cons_succ, List.length_cons, List.length_nil, List.cons_append, List.nil_append, List.replicate_succ, List.replicate_zero, Nat.reduceAdd, Nat.reduceSub, Nat.add_zero, Nat.zero_add, Nat.sub_self, RF.seqI, RF.seqD, RF.wipeE, RF.restE, Option.getD_some, RF.ix_lst0, RF.ix_tup0, RF.ixN_0, RF.ix_lst1, RF.ix_tup1, RF.ixN_1, RF.ix_lst2, RF.ix_tup2, RF.ixN_2, RF.ix_lst3, RF.ix_tup3, RF.ixN_3, RF.ix_lst4, RF.ix_tup4, RF.ixN_4, RF.ix_lst5, RF.ix_tup5, RF.ixN_5, RF.ix_lst6, RF.ix_tup6, RF.ixN_6, RF.ix_lst7, RF.ix_tup7, RF.ixN_7, RF.ix_lst8, RF.ix_tup8, RF.ixN_8, RF.add_int, RF.dSub, RF.dMul, RF.dFdiv, RF.dMod, RF.dPow, RF.eq_int, RF.eq_str, RF.ne_int, RF.ne_str, RF.dLt, RF.le_int, RF.gt_int, RF.ge_int, RF.dIs, RF.dLen, RF.dAbs, RF.dInt, RF.dList, RF.dTup, RF.dAll, RF.dAny, RF.dSum, RF.dMax2, RF.dMin2, RF.truthD, RF.isNon]
    rw [show good1 p (.tup bs) c e = false by simp [good1, h7]]
    exact ⟨by trivial, by trivial⟩
  obtain ⟨cs, rfl⟩ := tin_tup h7
  simp -dsimp -implicitDefEqProofs only [RF.w_seq, RF.w_if, RF.w_asg, RF.w_ret, RF.w_drop, RF.w_nx, RF.w_run, RF.w_C, RF.w_var, RF.w_mv, RF.w_D, RF.w_V, RF.w_ev, RF.w_lv, RF.w_op, RF.w_T, RF.w_B, RF.w_notT, RF.w_andT, RF.w_orT, RF.w_andV, RF.w_orV, RF.w_not, RF.w_neg, RF.w_CB, RF.w_pre0, RF.w_pre, RF.w_isi, RF.w_evs0, RF.w_evs, RF.w_tup, RF.w_lst, RF.w_part0, RF.w_part, RF.w_sl, RF.w_call, RF.w_call0, RF.w_app, RF.w_ext, RF.w_ins, RF.w_pop, RF.w_setI, RF.w_aug, RF.w_asgT, RF.w_for, RF.w_for0, RF.w_for1, RF.w_it, RF.w_enum, RF.w_rng1, RF.w_rng2, RF.w_lc, RF.w_lc0, RF.w_lc1, RF.w_chain, RF.w_lam, RF.w_bnd, RF.oK_some, RF.oK_none, RF.oK_ite, RF.ifK_true, RF.ifK_false, RF.ifK_not, RF.seqK_nx, RF.seqK_bk, RF.seqK_ct, RF.seqK_rt, RF.stO_un, RF.stO_va, RF.stO_ow, RF.retK_rt, RF.retK_nx, RF.back_nil, RF.back_ow, RF.back_va, RF.varK_va, RF.varK_ow, RF.toD_lst, RF.toD_dct, RF.mvK_va, RF.mvK_ow, RF.rvK_va, RF.rvK_ow, RF.rdS_va, RF.rdS_ow, RF.fin_ev, RF.fin_lv, RF.ap2_some, RF.blK_bl, RF.negD, RF.cons2_some, RF.finL_nil, RF.finL_cons, RF.intK_int, RF.mkA_nil, RF.mkA_ev, RF.mkS_ow, RF.mkA_lv, RF.putA_nil, RF.putA_ev, RF.putS_ow, RF.putA_lv, RF.owS_ow, RF.vaS_va, RF.tgN_eq, RF.tgO_un, RF.tgO_va, RF.tgO_ow, RF.tgT_tup, RF.tgL_nil, RF.tgL_cons, RF.forK_nx, RF.forK_ct, RF.forK_bk, RF.forK_rt, RF.asV, Option.map_some, Option.map_none, Option.bind_some, Option.bind_none, Option.some.injEq, List.getElem?_cons_zero, List.getElem?_cons_succ, List.set_cons_zero, List.set_cons_succ, List.length_cons, List.length_nil, List.cons_append, List.nil_append, List.replicate_succ, List.replicate_zero, Nat.reduceAdd, Nat.reduceSub, Nat.add_zero, Nat.zero_add, Nat.sub_self, RF.seqI, RF.seqD, RF.wipeE, RF.restE, Option.getD_some, RF.ix_lst0, RF.ix_tup0, RF.ixN_0, RF.ix_lst1, RF.ix_tup1, RF.ixN_1, RF.ix_lst2, RF.ix_tup2, RF.ixN_2, RF.ix_lst3, RF.ix_tup3, RF.ixN_3, RF.ix_lst4, RF.ix_tup4, RF.ixN_4, RF.ix_lst5, RF.ix_tup5, RF.ixN_5, RF.ix_lst6, RF.ix_tup6, RF.ixN_6, RF.ix_lst7, RF.ix_tup7, RF.ixN_7, RF.ix_lst8, RF.ix_tup8, RF.ixN_8, RF.add_int, RF.dSub, RF.dMul, RF.dFdiv, RF.dMod, RF.dPow, RF.eq_int, RF.eq_str, RF.ne_int, RF.ne_str, RF.dLt, RF.le_int, RF.gt_int, RF.ge_int, RF.dIs, RF.dLen, RF.dAbs, RF.dInt, RF.dList, RF.dTup, RF.dAll, RF.dAny, RF.dSum, RF.dMax2, RF.dMin2, RF.truthD, RF.isNon, List.length_map]
  rw [ifK_beq]
  refine ⟨fun h8 => ?_, fun h8 => ?_⟩
  rotate_left
  · simp -dsimp -implicitDefEqProofs only [RF.w_seq, RF.w_if, RF.w_asg, RF.w_ret, RF.w_drop, RF.w_nx, RF.w_run, RF.w_C, RF.w_var, RF.w_mv, RF.w_D, RF.w_V, RF.w_ev, RF.w_lv, RF.w_op, RF.w_T, RF.w_B, RF.w_notT, RF.w_andT, RF.w_orT, RF.w_andV, RF.w_orV, RF.w_not, RF.w_neg, RF.w_CB, RF.w_pre0, RF.w_pre, RF.w_isi, RF.w_evs0, RF.w_evs, RF.w_tup, RF.w_lst, RF.w_part0, RF.w_part, RF.w_sl, RF.w_call, RF.w_call0, RF.w_app, RF.w_ext, RF.w_ins, RF.w_pop, RF.w_setI, RF.w_aug, RF.w_asgT, RF.w_for, RF.w_for0, RF.w_for1, RF.w_it, RF.w_enum, RF.w_rng1, RF.w_rng2, RF.w_lc, RF.w_lc0, RF.w_lc1, RF.w_chain, RF.w_lam, RF.w_bnd, RF.oK_some, RF.oK_none, RF.oK_ite, RF.ifK_true, RF.ifK_false, RF.ifK_not, RF.seqK_nx, RF.seqK_bk, RF.seqK_ct, RF.seqK_rt, RF.stO_un, RF.stO_va, RF.stO_ow, RF.retK_rt, RF.retK_nx, RF.back_nil, RF.back_ow, RF.back_va, RF.varK_va, RF.varK_ow, RF.toD_lst, RF.toD_dct, RF.mvK_va, RF.mvK_ow, RF.rvK_va, RF.rvK_ow, RF.rdS_va, RF.rdS_ow, RF.fin_ev, RF.fin_lv, RF.ap2_some, RF.blK_bl, RF.negD, RF.cons2_some, RF.finL_nil, RF.finL_cons, RF.intK_int, RF.mkA_nil, RF.mkA_ev, RF.mkS_ow, RF.mkA_lv, RF.putA_nil, RF.putA_ev, RF.putS_ow, RF.putA_lv, RF.owS_ow, RF.vaS_va, RF.tgN_eq, RF.tgO_un, RF.tgO_va, RF.tgO_ow, RF.tgT_tup, RF.tgL_nil, RF.tgL_cons, RF.forK_nx, RF.forK_ct, RF.forK_bk, RF.forK_rt, RF.asV, Option.map_some, Option.map_none, Option.bind_some, Option.bind_none, Option.some.injEq, List.getElem?_cons_zero, List.getElem?_cons_succ, List.set_cons_zero, List.set_cons_succ, List.length_cons, List.length_nil, List.cons_append, List.nil_append, List.replicate_succ, List.replicate_zero, Nat.reduceAdd, Nat.reduceSub, Nat.add_zero, Nat.zero_add, Nat.sub_self, RF.seqI, RF.seqD, RF.wipeE, RF.restE, Option.getD_some, RF.ix_lst0, RF.ix_tup0, RF.ixN_0, RF.ix_lst1, RF.ix_tup1, RF.ixN_1, RF.ix_lst2, RF.ix_tup2, RF.ixN_2, RF.ix_lst3, RF.ix_tup3, RF.ixN_3, RF.ix_lst4, RF.ix_tup4, RF.ixN_4, RF.ix_lst5, RF.ix_tup5, RF.ixN_5, RF.ix_lst6, RF.ix_tup6, RF.ixN_6, RF.ix_lst7, RF.ix_tup7, RF.ixN_7, RF.ix_lst8, RF.ix_tup8, RF.ixN_8, RF.add_int, RF.dSub, RF.dMul, RF.dFdiv, RF.dMod, RF.dPow, RF.eq_int, RF.eq_str, RF.ne_int, RF.ne_str, RF.dLt, RF.le_int, RF.gt_int, RF.ge_int, RF.dIs, RF.dLen, RF.dAbs, RF.dInt, RF.dList, RF.dTup, RF.dAll, RF.dAny, RF.dSum, RF.dMax2, RF.dMin2, RF.truthD, RF.isNon]
    rw [show good1 p (.tup bs) (.tup cs) e = false by simp [good1, tn]; omega]
    exact ⟨by trivial, by trivial⟩
  simp -dsimp -implicitDefEqProofs only [RF.w_seq, RF.w_if, RF.w_asg, RF.w_ret, RF.w_drop, RF.w_nx, RF.w_run, RF.w_C, RF.w_var, RF.w_mv, RF.w_D, RF.w_V, RF.w_ev, RF.w_lv, RF.w_op, RF.w_T, RF.w_B, RF.w_notT, RF.w_andT, RF.w_orT, RF.w_andV, RF.w_orV, RF.w_not, RF.w_neg, RF.w_CB, RF.w_pre0, RF.w_pre, RF.w_isi, RF.w_evs0, RF.w_evs, RF.w_tup, RF.w_lst, RF.w_part0, RF.w_part, RF.w_sl, RF.w_call, RF.w_call0, RF.w_app, RF.w_ext, RF.w_ins, RF.w_pop, RF.w_setI, RF.w_aug, RF.w_asgT, RF.w_for, RF.w_for0, RF.w_for1, RF.w_it, RF.w_enum, RF.w_rng1, RF.w_rng2, RF.w_lc, RF.w_lc0, RF.w_lc1, RF.w_chain, RF.w_lam, RF.w_bnd, RF.oK_some, RF.oK_none, RF.oK_ite, RF.ifK_true, RF.ifK_false, RF.ifK_not, RF.seqK_nx, RF.seqK_bk, RF.seqK_ct, RF.seqK_rt, RF.stO_un, RF.stO_va, RF.stO_ow, RF.retK_rt, RF.retK_nx, RF.back_nil, RF.back_ow, RF.back_va, RF.varK_va, RF.varK_ow, RF.toD_lst, RF.toD_dct, RF.mvK_va, RF.mvK_ow, RF.rvK_va, RF.rvK_ow, RF.rdS_va, RF.rdS_ow, RF.fin_ev, RF.fin_lv, RF.ap2_some, RF.blK_bl, RF.negD, RF.cons2_some, RF.finL_nil, RF.finL_cons, RF.intK_int, RF.mkA_nil, RF.mkA_ev, RF.mkS_ow, RF.mkA_lv, RF.putA_nil, RF.putA_ev, RF.putS_ow, RF.putA_lv, RF.owS_ow, RF.vaS_va, RF.tgN_eq, RF.tgO_un, RF.tgO_va, RF.tgO_ow, RF.tgT_tup, RF.tgL_nil, RF.tgL_cons, RF.forK_nx, RF.forK_ct, RF.forK_bk, RF.forK_rt, RF.asV, Option.map_some, Option.map_none, Option.bind_some, Option.bind_none, Option.some.injEq, List.getElem?_cons_zero, List.getElem?_cons_succ, List.set_cons_zero, List.set_cons_succ, List.length_cons, List.length_nil, List.cons_append, List.nil_append, List.replicate_succ, List.replicate_zero, Nat.reduceAdd, Nat.reduceSub, Nat.add_zero, Nat.zero_add, Nat.sub_self, RF.seqI, RF.seqD, RF.wipeE, RF.restE, Option.getD_some, RF.ix_lst0, RF.ix_tup0, RF.ixN_0, RF.ix_lst1, RF.ix_tup1, RF.ixN_1, RF.ix_lst2, RF.ix_tup2, RF.ixN_2, RF.ix_lst3, RF.ix_tup3, RF.ixN_3, RF.ix_lst4, RF.ix_tup4, RF.ixN_4, RF.ix_lst5, RF.ix_tup5, RF.ixN_5, RF.ix_lst6, RF.ix_tup6, RF.ixN_6, RF.ix_lst7, RF.ix_tup7, RF.ixN_7, RF.ix_lst8, RF.ix_tup8, RF.ixN_8, RF.add_int, RF.dSub, RF.dMul, RF.dFdiv, RF.dMod, RF.dPow, RF.eq_int, RF.eq_str, RF.ne_int, RF.ne_str, RF.dLt, RF.le_int, RF.gt_int, RF.ge_int, RF.dIs, RF.dLen, RF.dAbs, RF.dInt, RF.dList, RF.dTup, RF.dAll, RF.dAny, RF.dSum, RF.dMax2, RF.dMin2, RF.truthD, RF.isNon]
  refine ⟨by rfl, ?_⟩
  refine (wp_of (lc_filter isArr (p.items.map fun i => kD i.1) (fun i d e => ?_))).mpr ?_
  · obtain ⟨k, rfl⟩ := get_kD e
    refine ⟨_, rfl, ?_⟩
    unfold kD
    cases k
    · rw [if_neg (by simp)]
      simp -dsimp -implicitDefEqProofs only [RF.w_seq, RF.w_if, RF.w_asg, RF.w_ret, RF.w_drop, RF.w_nx, RF.w_run, RF.w_C, RF.w_var, RF.w_mv, RF.w_D, RF.w_V, RF.w_ev, RF.w_lv, RF.w_op, RF.w_T, RF.w_B, RF.w_notT, RF.w_andT, RF.w_orT, RF.w_andV, RF.w_orV, RF.w_not, RF.w_neg, RF.w_CB, RF.w_pre0, RF.w_pre, RF.w_isi, RF.w_evs0, RF.w_evs, RF.w_tup, RF.w_lst, RF.w_part0, RF.w_part, RF.w_sl, RF.w_call, RF.w_call0, RF.w_app, RF.w_ext, RF.w_ins, RF.w_pop, RF.w_setI, RF.w_aug, RF.w_asgT, RF.w_for, RF.w_for0, RF.w_for1, RF.w_it, RF.w_enum, RF.w_rng1, RF.w_rng2, RF.w_lc, RF.w_lc0, RF.w_lc1, RF.w_chain, RF.w_lam, RF.w_bnd, RF.oK_some, RF.oK_none, RF.oK_ite, RF.ifK_true, RF.ifK_false, RF.ifK_not, RF.seqK_nx, RF.seqK_bk, RF.seqK_ct, RF.seqK_rt, RF.stO_un, RF.stO_va, RF.stO_ow, RF.retK_rt, RF.retK_nx, RF.back_nil, RF.back_ow, RF.back_va, RF.varK_va, RF.varK_ow, RF.toD_lst, RF.toD_dct, RF.mvK_va, RF.mvK_ow, RF.rvK_va, RF.rvK_ow, RF.rdS_va, RF.rdS_ow, RF.fin_ev, RF.fin_lv, RF.ap2_some, RF.blK_bl, RF.negD, RF.cons2_some, RF.finL_nil, RF.finL_cons, RF.intK_int, RF.mkA_nil, RF.mkA_ev, RF.mkS_ow, RF.mkA_lv, RF.putA_nil, RF.putA_ev, RF.putS_ow, RF.putA_lv, RF.owS_ow, RF.vaS_va, RF.tgN_eq, RF.tgO_un, RF.tgO_va, RF.tgO_ow, RF.tgT_tup, RF.tgL_nil, RF.tgL_cons, RF.forK_nx, RF.forK_ct, RF.forK_bk, RF.forK_rt, RF.asV, Option.map_some, Option.map_none, Option.bind_some, Option.bind_none, Option.some.injEq, List.getElem?_cons_zero, List.getElem?_cons_succ, List.set_cons_zero, List.set_cons_succ, List.length_cons, List.length_nil, List.cons_append, List.nil_append, List.replicate_succ, List.replicate_zero, Nat.reduceAdd, Nat.reduceSub, Nat.add_zero, Nat.zero_add, Nat.sub_self, RF.seqI, RF.seqD, RF.wipeE, RF.restE, Option.getD_some, RF.ix_lst0, RF.ix_tup0, RF.ixN_0, RF.ix_lst1, RF.ix_tup1, RF.ixN_1, RF.ix_lst2, RF.ix_tup2, RF.ixN_2, RF.ix_lst3, RF.ix_tup3, RF.ixN_3, RF.ix_lst4, RF.ix_tup4, RF.ixN_4, RF.ix_lst5, RF.ix_tup5, RF.ixN_5, RF.ix_lst6, RF.ix_tup6, RF.ixN_6, RF.ix_lst7, RF.ix_tup7, RF.ixN_7, RF.ix_lst8, RF.ix_tup8, RF.ixN_8, RF.add_int, RF.dSub, RF.dMul, RF.dFdiv, RF.dMod, RF.dPow, RF.eq_int, RF.eq_str, RF.ne_int, RF.ne_str, RF.dLt, RF.le_int, RF.gt_int, RF.ge_int, RF.dIs, RF.dLen, RF.dAbs, RF.dInt, RF.dList, RF.dTup, RF.dAll, RF.dAny, RF.dSum, RF.dMax2, RF.dMin2, RF.truthD, RF.isNon, kD_ne]
      exact ⟨by rfl, by trivial⟩
    · rw [if_pos rfl]
      simp -dsimp -implicitDefEqProofs only [RF.w_seq, RF.w_if, RF.w_asg, RF.w_ret, RF.w_drop, RF.w_nx, RF.w_run, RF.w_C, RF.w_var, RF.w_mv, RF.w_D, RF.w_V, RF.w_ev, RF.w_lv, RF.w_op, RF.w_T, RF.w_B, RF.w_notT, RF.w_andT, RF.w_orT, RF.w_andV, RF.w_orV, RF.w_not, RF.w_neg, RF.w_CB, RF.w_pre0, RF.w_pre, RF.w_isi, RF.w_evs0, RF.w_evs, RF.w_tup, RF.w_lst, RF.w_part0, RF.w_part, RF.w_sl, RF.w_call, RF.w_call0, RF.w_app, RF.w_ext, RF.w_ins, RF.w_pop, RF.w_setI, RF.w_aug, RF.w_asgT, RF.w_for, RF.w_for0, RF.w_for1, RF.w_it, RF.w_enum, RF.w_rng1, RF.w_rng2, RF.w_lc, RF.w_lc0, RF.w_lc1, RF.w_chain, RF.w_lam, RF.w_bnd, RF.oK_some, RF.oK_none, RF.oK_ite, RF.ifK_true, RF.ifK_false, RF.ifK_not, RF.seqK_nx, RF.seqK_bk, RF.seqK_ct, RF.seqK_rt, RF.stO_un, RF.stO_va, RF.stO_ow, RF.retK_rt, RF.retK_nx, RF.back_nil, RF.back_ow, RF.back_va, RF.varK_va, RF.varK_ow, RF.toD_lst, RF.toD_dct, RF.mvK_va, RF.mvK_ow, RF.rvK_va, RF.rvK_ow, RF.rdS_va, RF.rdS_ow, RF.fin_ev, RF.fin_lv, RF.ap2_some, RF.blK_bl, RF.negD, RF.cons2_some, RF.finL_nil, RF.finL_cons, RF.intK_int, RF.mkA_nil, RF.mkA_ev, RF.mkS_ow, RF.mkA_lv, RF.putA_nil, RF.putA_ev, RF.putS_ow, RF.putA_lv, RF.owS_ow, RF.vaS_va, RF.tgN_eq, RF.tgO_un, RF.tgO_va, RF.tgO_ow, RF.tgT_tup, RF.tgL_nil, RF.tgL_cons, RF.forK_nx, RF.forK_ct, RF.forK_bk, RF.forK_rt, RF.asV, Option.map_some, Option.map_none, Option.bind_some, Option.bind_none, Option.some.injEq, List.getElem?_cons_zero, List.getElem?_cons_succ, List.set_cons_zero, List.set_cons_succ, List.length_cons, List.length_nil, List.cons_append, List.nil_append, List.replicate_succ, List.replicate_zero, Nat.reduceAdd, Nat.reduceSub, Nat.add_zero, Nat.zero_add, Nat.sub_self, RF.seqI, RF.seqD, RF.wipeE, RF.restE, Option.getD_some, RF.ix_lst0, RF.ix_tup0, RF.ixN_0, RF.ix_lst1, RF.ix_tup1, RF.ixN_1, RF.ix_lst2, RF.ix_tup2, RF.ixN_2, RF.ix_lst3, RF.ix_tup3, RF.ixN_3, RF.ix_lst4, RF.ix_tup4, RF.ixN_4, RF.ix_lst5, RF.ix_tup5, RF.ixN_5, RF.ix_lst6, RF.ix_tup6, RF.ixN_6, RF.ix_lst7, RF.ix_tup7, RF.ixN_7, RF.ix_lst8, RF.ix_tup8, RF.ixN_8, RF.add_int, RF.dSub, RF.dMul, RF.dFdiv, RF.dMod, RF.dPow, RF.eq_int, RF.eq_str, RF.ne_int, RF.ne_str, RF.dLt, RF.le_int, RF.gt_int, RF.ge_int, RF.dIs, RF.dLen, RF.dAbs, RF.dInt, RF.dList, RF.dTup, RF.dAll, RF.dAny, RF.dSum, RF.dMax2, RF.dMin2, RF.truthD, RF.isNon, beq_self_eq_true]
      exact ⟨by rfl, by trivial⟩
  have hal := arr_len p.items
  have hal2 : (p.items.filter (·.1)).length ≤ p.items.length := List.length_filter_le _ _
  refine ⟨by rw [hal, show sizeLine = 16777216 from rfl]; omega, ?_⟩
  simp -dsimp -implicitDefEqProofs only [RF.w_seq, RF.w_if, RF.w_asg, RF.w_ret, RF.w_drop, RF.w_nx, RF.w_run, RF.w_C, RF.w_var, RF.w_mv, RF.w_D, RF.w_V, RF.w_ev, RF.w_lv, RF.w_op, RF.w_T, RF.w_B, RF.w_notT, RF.w_andT, RF.w_orT, RF.w_andV, RF.w_orV, RF.w_not, RF.w_neg, RF.w_CB, RF.w_pre0, RF.w_pre, RF.w_isi, RF.w_evs0, RF.w_evs, RF.w_tup, RF.w_lst, RF.w_part0, RF.w_part, RF.w_sl, RF.w_call, RF.w_call0, RF.w_app, RF.w_ext, RF.w_ins, RF.w_pop, RF.w_setI, RF.w_aug, RF.w_asgT, RF.w_for, RF.w_for0, RF.w_for1, RF.w_it, RF.w_enum, RF.w_rng1, RF.w_rng2, RF.w_lc, RF.w_lc0, RF.w_lc1, RF.w_chain, RF.w_lam, RF.w_bnd, RF.oK_some, RF.oK_none, RF.oK_ite, RF.ifK_true, RF.ifK_false, RF.ifK_not, RF.seqK_nx, RF.seqK_bk, RF.seqK_ct, RF.seqK_rt, RF.stO_un, RF.stO_va, RF.stO_ow, RF.retK_rt, RF.retK_nx, RF.back_nil, RF.back_ow, RF.back_va, RF.varK_va, RF.varK_ow, RF.toD_lst, RF.toD_dct, RF.mvK_va, RF.mvK_ow, RF.rvK_va, RF.rvK_ow, RF.rdS_va, RF.rdS_ow, RF.fin_ev, RF.fin_lv, RF.ap2_some, RF.blK_bl, RF.negD, RF.cons2_some, RF.finL_nil, RF.finL_cons, RF.intK_int, RF.mkA_nil, RF.mkA_ev, RF.mkS_ow, RF.mkA_lv, RF.putA_nil, RF.putA_ev, RF.putS_ow, RF.putA_lv, RF.owS_ow, RF.vaS_va, RF.tgN_eq, RF.tgO_un, RF.tgO_va, RF.tgO_ow, RF.tgT_tup, RF.tgL_nil, RF.tgL_cons, RF.forK_nx, RF.forK_ct, RF.forK_bk, RF.forK_rt, RF.asV, Option.map_some, Option.map_none, Option.bind_some, Option.bind_none, Option.some.injEq, List.getElem?_cons_zero, List.getElem?_cons_succ, List.set_cons_zero, List.set_cons_succ, List.length_cons, List.length_nil, List.cons_append, List.nil_append, List.replicate_succ, List.replicate_zero, Nat.reduceAdd, Nat.reduceSub, Nat.add_zero, Nat.zero_add, Nat.sub_self, RF.seqI, RF.seqD, RF.wipeE, RF.restE, Option.getD_some, RF.ix_lst0, RF.ix_tup0, RF.ixN_0, RF.ix_lst1, RF.ix_tup1, RF.ixN_1, RF.ix_lst2, RF.ix_tup2, RF.ixN_2, RF.ix_lst3, RF.ix_tup3, RF.ixN_3, RF.ix_lst4, RF.ix_tup4, RF.ixN_4, RF.ix_lst5, RF.ix_tup5, RF.ixN_5, RF.ix_lst6, RF.ix_tup6, RF.ixN_6, RF.ix_lst7, RF.ix_tup7, RF.ixN_7, RF.ix_lst8, RF.ix_tup8, RF.ixN_8, RF.add_int, RF.dSub, RF.dMul, RF.dFdiv, RF.dMod, RF.dPow, RF.eq_int, RF.eq_str, RF.ne_int, RF.ne_str, RF.dLt, RF.le_int, RF.gt_int, RF.ge_int, RF.dIs, RF.dLen, RF.dAbs, RF.dInt, RF.dList, RF.dTup, RF.dAll, RF.dAny, RF.dSum, RF.dMax2, RF.dMin2, RF.truthD, RF.isNon, wp_of (f_tup e _), hal]
  cases h9 : tn e ((p.items.filter (·.1)).length : Int)
  · simp -dsimp -implicitDefEqProofs only [RF.w_seq, RF.w_if, RF.w_asg, RF.w_ret, RF.w_drop, RF.w_nx, RF.w_run, RF.w_C, RF.w_var, RF.w_mv, RF.w_D, RF.w_V, RF.w_ev, RF.w_lv, RF.w_op, RF.w_T, RF.w_B, RF.w_notT, RF.w_andT, RF.w_orT, RF.w_andV, RF.w_orV, RF.w_not, RF.w_neg, RF.w_CB, RF.w_pre0, RF.w_pre, RF.w_isi, RF.w_evs0, RF.w_evs, RF.w_tup, RF.w_lst, RF.w_part0, RF.w_part, RF.w_sl, RF.w_call, RF.w_call0, RF.w_app, RF.w_ext, RF.w_ins, RF.w_pop, RF.w_setI, RF.w_aug, RF.w_asgT, RF.w_for, RF.w_for0, RF.w_for1, RF.w_it, RF.w_enum, RF.w_rng1, RF.w_rng2, RF.w_lc, RF.w_lc0, RF.w_lc1, RF.w_chain, RF.w_lam, RF.w_bnd, RF.oK_some, RF.oK_none, RF.oK_ite, RF.ifK_true, RF.ifK_false, RF.ifK_not, RF.seqK_nx, RF.seqK_bk, RF.seqK_ct, RF.seqK_rt, RF.stO_un, RF.stO_va, RF.stO_ow, RF.retK_rt, RF.retK_nx, RF.back_nil, RF.back_ow, RF.back_va, RF.varK_va, RF.varK_ow, RF.toD_lst, RF.toD_dct, RF.mvK_va, RF.mvK_ow, RF.rvK_va, RF.rvK_ow, RF.rdS_va, RF.rdS_ow, RF.fin_ev, RF.fin_lv, RF.ap2_some, RF.blK_bl, RF.negD, RF.cons2_some, RF.finL_nil, RF.finL_cons, RF.intK_int, RF.mkA_nil, RF.mkA_ev, RF.mkS_ow, RF.mkA_lv, RF.putA_nil, RF.putA_ev, RF.putS_ow, RF.putA_lv, RF.owS_ow, RF.vaS_va, RF.tgN_eq, RF.tgO_un, RF.tgO_va, RF.tgO_ow, RF.tgT_tup, RF.tgL_nil, RF.tgL_cons, RF.forK_nx, RF.forK_ct, RF.forK_bk, RF.forK_rt, RF.asV, Option.map_some, Option.map_none, Option.bind_some, Option.bind_none, Option.some.injEq, List.getElem?_cons_zero, List.getElem?_cons_succ, List.set_cons_zero, List.set_cons_succ, List.length_cons, List.length_nil, List.cons_append, List.nil_append, List.replicate_succ, List.replicate_zero, Nat.reduceAdd, Nat.reduceSub, Nat.add_zero, Nat.zero_add, Nat.sub_self, RF.seqI, RF.seqD, RF.wipeE, RF.restE, Option.getD_some, RF.ix_lst0, RF.ix_tup0, RF.ixN_0, RF.ix_lst1, RF.ix_tup1, RF.ixN_1, RF.ix_lst2, RF.ix_tup2, RF.ixN_2, RF.ix_lst3, RF.ix_tup3, RF.ixN_3, RF.ix_lst4, RF.ix_tup4, RF.ixN_4, RF.ix_lst5, RF.ix_tup5, RF.ixN_5, RF.ix_lst6, RF.ix_tup6, RF.ixN_6, RF.ix_lst7, RF.ix_tup7, RF.ixN_7, RF.ix_lst8, RF.ix_tup8, RF.ixN_8, RF.add_int, RF.dSub, RF.dMul, RF.dFdiv, RF.dMod, RF.dPow, RF.eq_int, RF.eq_str, RF.ne_int, RF.ne_str, RF.dLt, RF.le_int, RF.gt_int, RF.ge_int, RF.dIs, RF.dLen, RF.dAbs, RF.dInt, RF.dList, RF.dTup, RF.dAll, RF.dAny, RF.dSum, RF.dMax2, RF.dMin2, RF.truthD, RF.isNon]
    rw [show good1 p (.tup bs) (.tup cs) e = false from good1_e h9]
    exact ⟨by trivial, by trivial⟩
  obtain ⟨es, rfl, hel⟩ := tn_tup h9
  have hem := sm_mem he
  simp -dsimp -implicitDefEqProofs only [RF.w_seq, RF.w_if, RF.w_asg, RF.w_ret, RF.w_drop, RF.w_nx, RF.w_run, RF.w_C, RF.w_var, RF.w_mv, RF.w_D, RF.w_V, RF.w_ev, RF.w_lv, RF.w_op, RF.w_T, RF.w_B, RF.w_notT, RF.w_andT, RF.w_orT, RF.w_andV, RF.w_orV, RF.w_not, RF.w_neg, RF.w_CB, RF.w_pre0, RF.w_pre, RF.w_isi, RF.w_evs0, RF.w_evs, RF.w_tup, RF.w_lst, RF.w_part0, RF.w_part, RF.w_sl, RF.w_call, RF.w_call0, RF.w_app, RF.w_ext, RF.w_ins, RF.w_pop, RF.w_setI, RF.w_aug, RF.w_asgT, RF.w_for, RF.w_for0, RF.w_for1, RF.w_it, RF.w_enum, RF.w_rng1, RF.w_rng2, RF.w_lc, RF.w_lc0, RF.w_lc1, RF.w_chain, RF.w_lam, RF.w_bnd, RF.oK_some, RF.oK_none, RF.oK_ite, RF.ifK_true, RF.ifK_false, RF.ifK_not, RF.seqK_nx, RF.seqK_bk, RF.seqK_ct, RF.seqK_rt, RF.stO_un, RF.stO_va, RF.stO_ow, RF.retK_rt, RF.retK_nx, RF.back_nil, RF.back_ow, RF.back_va, RF.varK_va, RF.varK_ow, RF.toD_lst, RF.toD_dct, RF.mvK_va, RF.mvK_ow, RF.rvK_va, RF.rvK_ow, RF.rdS_va, RF.rdS_ow, RF.fin_ev, RF.fin_lv, RF.ap2_some, RF.blK_bl, RF.negD, RF.cons2_some, RF.finL_nil, RF.finL_cons, RF.intK_int, RF.mkA_nil, RF.mkA_ev, RF.mkS_ow, RF.mkA_lv, RF.putA_nil, RF.putA_ev, RF.putS_ow, RF.putA_lv, RF.owS_ow, RF.vaS_va, RF.tgN_eq, RF.tgO_un, RF.tgO_va, RF.tgO_ow, RF.tgT_tup, RF.tgL_nil, RF.tgL_cons, RF.forK_nx, RF.forK_ct, RF.forK_bk, RF.forK_rt, RF.asV, Option.map_some, Option.map_none, Option.bind_some, Option.bind_none, Option.some.injEq, List.getElem?_cons_zero, List.getElem?_cons_succ, List.set_cons_zero, List.set_cons_succ, List.length_cons, List.length_nil, List.cons_append, List.nil_append, List.replicate_succ, List.replicate_zero, Nat.reduceAdd, Nat.reduceSub, Nat.add_zero, Nat.zero_add, Nat.sub_self, RF.seqI, RF.seqD, RF.wipeE, RF.restE, Option.getD_some, RF.ix_lst0, RF.ix_tup0, RF.ixN_0, RF.ix_lst1, RF.ix_tup1, RF.ixN_1, RF.ix_lst2, RF.ix_tup2, RF.ixN_2, RF.ix_lst3, RF.ix_tup3, RF.ixN_3, RF.ix_lst4, RF.ix_tup4, RF.ixN_4, RF.ix_lst5, RF.ix_tup5, RF.ixN_5, RF.ix_lst6, RF.ix_tup6, RF.ixN_6, RF.ix_lst7, RF.ix_tup7, RF.ixN_7, RF.ix_lst8, RF.ix_tup8, RF.ixN_8, RF.add_int, RF.dSub, RF.dMul, RF.dFdiv, RF.dMod, RF.dPow, RF.eq_int, RF.eq_str, RF.ne_int, RF.ne_str, RF.dLt, RF.le_int, RF.gt_int, RF.ge_int, RF.dIs, RF.dLen, RF.dAbs, RF.dInt, RF.dList, RF.dTup, RF.dAll, RF.dAny, RF.dSum, RF.dMax2, RF.dMin2, RF.truthD, RF.isNon]
  refine ⟨by rfl, ?_⟩
  refine (wp_of (lc_map (fun d => .bl (tin d)) es (fun i d e => ?_))).mpr ?_
  · refine ⟨_, rfl, ?_⟩
    simp -dsimp -implicitDefEqProofs only [RF.w_seq, RF.w_if, RF.w_asg, RF.w_ret, RF.w_drop, RF.w_nx, RF.w_run, RF.w_C, RF.w_var, RF.w_mv, RF.w_D, RF.w_V, RF.w_ev, RF.w_lv, RF.w_op, RF.w_T, RF.w_B, RF.w_notT, RF.w_andT, RF.w_orT, RF.w_andV, RF.w_orV, RF.w_not, RF.w_neg, RF.w_CB, RF.w_pre0, RF.w_pre, RF.w_isi, RF.w_evs0, RF.w_evs, RF.w_tup, RF.w_lst, RF.w_part0, RF.w_part, RF.w_sl, RF.w_call, RF.w_call0, RF.w_app, RF.w_ext, RF.w_ins, RF.w_pop, RF.w_setI, RF.w_aug, RF.w_asgT, RF.w_for, RF.w_for0, RF.w_for1, RF.w_it, RF.w_enum, RF.w_rng1, RF.w_rng2, RF.w_lc, RF.w_lc0, RF.w_lc1, RF.w_chain, RF.w_lam, RF.w_bnd, RF.oK_some, RF.oK_none, RF.oK_ite, RF.ifK_true, RF.ifK_false, RF.ifK_not, RF.seqK_nx, RF.seqK_bk, RF.seqK_ct, RF.seqK_rt, RF.stO_un, RF.stO_va, RF.stO_ow, RF.retK_rt, RF.retK_nx, RF.back_nil, RF.back_ow, RF.back_va, RF.varK_va, RF.varK_ow, RF.toD_lst, RF.toD_dct, RF.mvK_va, RF.mvK_ow, RF.rvK_va, RF.rvK_ow, RF.rdS_va, RF.rdS_ow, RF.fin_ev, RF.fin_lv, RF.ap2_some, RF.blK_bl, RF.negD, RF.cons2_some, RF.finL_nil, RF.finL_cons, RF.intK_int, RF.mkA_nil, RF.mkA_ev, RF.mkS_ow, RF.mkA_lv, RF.putA_nil, RF.putA_ev, RF.putS_ow, RF.putA_lv, RF.owS_ow, RF.vaS_va, RF.tgN_eq, RF.tgO_un, RF.tgO_va, RF.tgO_ow, RF.tgT_tup, RF.tgL_nil, RF.tgL_cons, RF.forK_nx, RF.forK_ct, RF.forK_bk, RF.forK_rt, RF.asV, Option.map_some, Option.map_none, Option.bind_some, Option.bind_none, Option.some.injEq, List.getElem?_cons_zero, List.getElem?_cons_succ, List.set_cons_zero, List.set_cons_succ, List.length_cons, List.length_nil, List.cons_append, List.nil_append, List.replicate_succ, List.replicate_zero, Nat.reduceAdd, Nat.reduceSub, Nat.add_zero, Nat.zero_add, Nat.sub_self, RF.seqI, RF.seqD, RF.wipeE, RF.restE, Option.getD_some, RF.ix_lst0, RF.ix_tup0, RF.ixN_0, RF.ix_lst1, RF.ix_tup1, RF.ixN_1, RF.ix_lst2, RF.ix_tup2, RF.ixN_2, RF.ix_lst3, RF.ix_tup3, RF.ixN_3, RF.ix_lst4, RF.ix_tup4, RF.ixN_4, RF.ix_lst5, RF.ix_tup5, RF.ixN_5, RF.ix_lst6, RF.ix_tup6, RF.ixN_6, RF.ix_lst7, RF.ix_tup7, RF.ixN_7, RF.ix_lst8, RF.ix_tup8, RF.ixN_8, RF.add_int, RF.dSub, RF.dMul, RF.dFdiv, RF.dMod, RF.dPow, RF.eq_int, RF.eq_str, RF.ne_int, RF.ne_str, RF.dLt, RF.le_int, RF.gt_int, RF.ge_int, RF.dIs, RF.dLen, RF.dAbs, RF.dInt, RF.dList, RF.dTup, RF.dAll, RF.dAny, RF.dSum, RF.dMax2, RF.dMin2, RF.truthD, RF.isNon, wp_of (f_ints d (sm_len (hem d (List.mem_of_getElem? e))))]
    exact ⟨by trivial, by trivial⟩
  refine ⟨by rw [List.length_map, show sizeLine = 16777216 from rfl]; omega, ?_⟩
  simp -dsimp -implicitDefEqProofs only [RF.w_seq, RF.w_if, RF.w_asg, RF.w_ret, RF.w_drop, RF.w_nx, RF.w_run, RF.w_C, RF.w_var, RF.w_mv, RF.w_D, RF.w_V, RF.w_ev, RF.w_lv, RF.w_op, RF.w_T, RF.w_B, RF.w_notT, RF.w_andT, RF.w_orT, RF.w_andV, RF.w_orV, RF.w_not, RF.w_neg, RF.w_CB, RF.w_pre0, RF.w_pre, RF.w_isi, RF.w_evs0, RF.w_evs, RF.w_tup, RF.w_lst, RF.w_part0, RF.w_part, RF.w_sl, RF.w_call, RF.w_call0, RF.w_app, RF.w_ext, RF.w_ins, RF.w_pop, RF.w_setI, RF.w_aug, RF.w_asgT, RF.w_for, RF.w_for0, RF.w_for1, RF.w_it, RF.w_enum, RF.w_rng1, RF.w_rng2, RF.w_lc, RF.w_lc0, RF.w_lc1, RF.w_chain, RF.w_lam, RF.w_bnd, RF.oK_some, RF.oK_none, RF.oK_ite, RF.ifK_true, RF.ifK_false, RF.ifK_not, RF.seqK_nx, RF.seqK_bk, RF.seqK_ct, RF.seqK_rt, RF.stO_un, RF.stO_va, RF.stO_ow, RF.retK_rt, RF.retK_nx, RF.back_nil, RF.back_ow, RF.back_va, RF.varK_va, RF.varK_ow, RF.toD_lst, RF.toD_dct, RF.mvK_va, RF.mvK_ow, RF.rvK_va, RF.rvK_ow, RF.rdS_va, RF.rdS_ow, RF.fin_ev, RF.fin_lv, RF.ap2_some, RF.blK_bl, RF.negD, RF.cons2_some, RF.finL_nil, RF.finL_cons, RF.intK_int, RF.mkA_nil, RF.mkA_ev, RF.mkS_ow, RF.mkA_lv, RF.putA_nil, RF.putA_ev, RF.putS_ow, RF.putA_lv, RF.owS_ow, RF.vaS_va, RF.tgN_eq, RF.tgO_un, RF.tgO_va, RF.tgO_ow, RF.tgT_tup, RF.tgL_nil, RF.tgL_cons, RF.forK_nx, RF.forK_ct, RF.forK_bk, RF.forK_rt, RF.asV, Option.map_some, Option.map_none, Option.bind_some, Option.bind_none, Option.some.injEq, List.getElem?_cons_zero, List.getElem?_cons_succ, List.set_cons_zero, List.set_cons_succ, List.length_cons, List.length_nil, List.cons_append, List.nil_append, List.replicate_succ, List.replicate_zero, Nat.reduceAdd, Nat.reduceSub, Nat.add_zero, Nat.zero_add, Nat.sub_self, RF.seqI, RF.seqD, RF.wipeE, RF.restE, Option.getD_some, RF.ix_lst0, RF.ix_tup0, RF.ixN_0, RF.ix_lst1, RF.ix_tup1, RF.ixN_1, RF.ix_lst2, RF.ix_tup2, RF.ixN_2, RF.ix_lst3, RF.ix_tup3, RF.ixN_3, RF.ix_lst4, RF.ix_tup4, RF.ixN_4, RF.ix_lst5, RF.ix_tup5, RF.ixN_5, RF.ix_lst6, RF.ix_tup6, RF.ixN_6, RF.ix_lst7, RF.ix_tup7, RF.ixN_7, RF.ix_lst8, RF.ix_tup8, RF.ixN_8, RF.add_int, RF.dSub, RF.dMul, RF.dFdiv, RF.dMod, RF.dPow, RF.eq_int, RF.eq_str, RF.ne_int, RF.ne_str, RF.dLt, RF.le_int, RF.gt_int, RF.ge_int, RF.dIs, RF.dLen, RF.dAbs, RF.dInt, RF.dList, RF.dTup, RF.dAll, RF.dAny, RF.dSum, RF.dMax2, RF.dMin2, RF.truthD, RF.isNon, bools_map]
  refine ⟨?_, by trivial⟩
  have h8' : cs.length = p.res.length := by omega
  simp [good1, h6, h7, tn, h8', rowsOk, arrs, hel, Function.comp_def]
theorem eq_nil {ds : List D} (h : RF.plainL ds = true) : dEq (.lst ds) (.lst []) = some (.va (.bl ds.isEmpty)) := by
  simp only [dEq, gEq, RF.plain, h, RF.plainL, dep, depL, RF.eqv]
  cases ds <;> simp [eqvL] <;> omega
theorem pD_plain : ∀ (ps : List P), RF.plainL (ps.map pD) = true
  | [] => rfl
  | p :: ps => by
    have h1 : ∀ is : List (Bool × Str), RF.plainL (is.map iD) = true := fun is => by
      induction is with
      | nil => rfl
      | cons i is ih => simp [RF.plainL, RF.plain, iD, ih, kD]; split <;> rfl
    have h2 : ∀ xs : List Str, RF.plainL (xs.map D.str) = true := fun xs => by
      induction xs with
      | nil => rfl
      | cons i is ih => simp [RF.plainL, RF.plain, ih]
    simp [RF.plainL, RF.plain, pD, h1, h2, pD_plain ps]
theorem pd0 {p : P} : dIx (pD p) (.int 0) = some (.va (.str p.name)) := ix_tup0
theorem pd1 {p : P} : dIx (pD p) (.int 1) = some (.va (.tup (p.items.map iD))) := ix_tup1
theorem pd2 {p : P} : dIx (pD p) (.int 2) = some (.va (.tup (p.res.map D.str))) := ix_tup2
theorem id0 {i : Bool × Str} : dIx (iD i) (.int 0) = some (.va (kD i.1)) := ix_tup0
theorem ix_tN {ds : List D} {k : Nat} (h : k < ds.length) : dIx (.tup ds) (.int (k : Int)) = some (.va ds[k]) := by
  simp only [dIx, atI_nat h, Option.map_some]
theorem ix_items {is : List (Bool × Str)} {k : Nat} (h : k < is.length) : dIx (.tup (is.map iD)) (.int (k : Int)) = some (.va (iD is[k])) := by
  have h' : k < (is.map iD).length := by rw [List.length_map]; exact h
  rw [ix_tN h', List.getElem_map]
theorem kD_int {b : Bool} : dEq (kD b) (.str (Str.ofString "int")) = some (.va (.bl (!b))) := by
  cases b
  · rfl
  · show some (RV.va (.bl (Str.ofString "array" == Str.ofString "int"))) = _
    rw [show (Str.ofString "array" == Str.ofString "int") = false by decide +kernel]
    rfl
theorem vals_snoc : ∀ (is : List (Bool × Str)) (bs : List D) (i : Bool × Str) (b : D), vals is bs = true → vals (is ++ [i]) (bs ++ [b]) = vOk i.1 b
  | [], [], i, b, _ => by simp [vals]
  | [], _ :: _, _, _, h => by simp [vals] at h
  | _ :: _, [], _, _, h => by simp [vals] at h
  | j :: is, c :: bs, i, b, h => by
    simp only [vals, Bool.and_eq_true] at h
    rw [List.cons_append, List.cons_append, vals, h.1, vals_snoc is bs i b h.2]
    rfl
theorem vals_step {is : List (Bool × Str)} {bs : List D} {k : Nat} (h : vals (is.take k) (bs.take k) = true) (l : k < is.length) (m : k < bs.length) : vals (is.take (k + 1)) (bs.take (k + 1)) = vOk is[k].1 bs[k] := by
  rw [List.take_succ_eq_append_getElem l, List.take_succ_eq_append_getElem m]
  exact vals_snoc _ _ _ _ h
theorem filter_step {is : List (Bool × Str)} {k : Nat} (l : k < is.length) : ((is.take (k + 1)).filter (·.1)).length = ((is.take k).filter (·.1)).length + (if is[k].1 then 1 else 0) := by
  rw [List.take_succ_eq_append_getElem l, List.filter_append, List.length_append]
  congr 1
  cases h : is[k].1 <;> simp [List.filter_cons, h]
theorem vals_bad : ∀ {is : List (Bool × Str)} {bs : List D} {k : Nat} (l : k < is.length) (m : k < bs.length), vOk is[k].1 bs[k] = false → vals is bs = false
  | [], _, _, l, _, _ => absurd l (by simp)
  | _ :: _, [], _, _, m, _ => absurd m (by simp)
  | i :: is, b :: bs, 0, _, _, h => by simp [vals, show vOk i.1 b = false from h]
  | i :: is, b :: bs, k + 1, l, m, h => by
    rw [vals, vals_bad (is := is) (bs := bs) (k := k) (by simpa using l) (by simpa using m) h, Bool.and_false]
theorem good1_v {p : P} {bs : List D} {c e : D} (h : vals p.items bs = false) : good1 p (.tup bs) c e = false := by simp [good1, h]
theorem tin_not {d : D} (h : isT d = false) : tin d = false := by
  cases d with
  | tup ds => cases h
  | _ => rfl
theorem f_good (ps : List P) (hp : PsOk ps) (d : D) (hd : smD d = true) : F__law_is_good [.va (.tup (ps.map pD)), .va d] = .ok (.va (.bl (good ps d))) [.va (.tup (ps.map pD)), .va d] := by
  refine wp_ok ?_
  unfold F__law_is_good b__law_is_good
  by_cases ht : ∃ ds, d = .tup ds
  rotate_left
  · have e1 : isT d = false := by
      cases d with
      | tup ds => exact absurd ⟨ds, rfl⟩ ht
      | _ => rfl
    have e2 : good ps d = false := by
      cases d with
      | tup ds => exact absurd ⟨ds, rfl⟩ ht
      | _ => rfl
    simp -dsimp -implicitDefEqProofs only [RF.w_seq, RF.w_if, RF.w_asg, RF.w_ret, RF.w_drop, RF.w_nx, RF.w_run, RF.w_C, RF.w_var, RF.w_mv, RF.w_D, RF.w_V, RF.w_ev, RF.w_lv, RF.w_op, RF.w_T, RF.w_B, RF.w_notT, RF.w_andT, RF.w_orT, RF.w_andV, RF.w_orV, RF.w_not, RF.w_neg, RF.w_CB, RF.w_pre0, RF.w_pre, RF.w_isi, RF.w_evs0, RF.w_evs, RF.w_tup, RF.w_lst, RF.w_part0, RF.w_part, RF.w_sl, RF.w_call, RF.w_call0, RF.w_app, RF.w_ext, RF.w_ins, RF.w_pop, RF.w_setI, RF.w_aug, RF.w_asgT, RF.w_for, RF.w_for0, RF.w_for1, RF.w_it, RF.w_enum, RF.w_rng1, RF.w_rng2, RF.w_lc, RF.w_lc0, RF.w_lc1, RF.w_chain, RF.w_lam, RF.w_bnd, RF.oK_some, RF.oK_none, RF.oK_ite, RF.ifK_true, RF.ifK_false, RF.ifK_not, RF.seqK_nx, RF.seqK_bk, RF.seqK_ct, RF.seqK_rt, RF.stO_un, RF.stO_va, RF.stO_ow, RF.retK_rt, RF.retK_nx, RF.back_nil, RF.back_ow, RF.back_va, RF.varK_va, RF.varK_ow, RF.toD_lst, RF.toD_dct, RF.mvK_va, RF.mvK_ow, RF.rvK_va, RF.rvK_ow, RF.rdS_va, RF.rdS_ow, RF.fin_ev, RF.fin_lv, RF.ap2_some, RF.blK_bl, RF.negD, RF.cons2_some, RF.finL_nil, RF.finL_cons, RF.intK_int, RF.mkA_nil, RF.mkA_ev, RF.mkS_ow, RF.mkA_lv, RF.putA_nil, RF.putA_ev, RF.putS_ow, RF.putA_lv, RF.owS_ow, RF.vaS_va, RF.tgN_eq, RF.tgO_un, RF.tgO_va, RF.tgO_ow, RF.tgT_tup, RF.tgL_nil, RF.tgL_cons, RF.forK_nx, RF.forK_ct, RF.forK_bk, RF.forK_rt, RF.asV, Option.map_some, Option.map_none, Option.bind_some, Option.bind_none, Option.some.injEq, List.getElem?_cons_zero, List.getElem?_cons_succ, List.set_cons_zero, List.set_cons_succ, List.length_cons, List.length_nil, List.cons_append, List.nil_append, List.replicate_succ, List.replicate_zero, Nat.reduceAdd, Nat.reduceSub, Nat.add_zero, Nat.zero_add, Nat.sub_self, RF.seqI, RF.seqD, RF.wipeE, RF.restE, Option.getD_some, RF.ix_lst0, RF.ix_tup0, RF.ixN_0, RF.ix_lst1, RF.ix_tup1, RF.ixN_1, RF.ix_lst2, RF.ix_tup2, RF.ixN_2, RF.ix_lst3, RF.ix_tup3, RF.ixN_3, RF.ix_lst4, RF.ix_tup4, RF.ixN_4, RF.ix_lst5, RF.ix_tup5, RF.ixN_5, RF.ix_lst6, RF.ix_tup6, RF.ixN_6, RF.ix_lst7, RF.ix_tup7, RF.ixN_7, RF.ix_lst8, RF.ix_tup8, RF.ixN_8, RF.add_int, RF.dSub, RF.dMul, RF.dFdiv, RF.dMod, RF.dPow, RF.eq_int, RF.eq_str, RF.ne_int, RF.ne_str, RF.dLt, RF.le_int, RF.gt_int, RF.ge_int, RF.dIs, RF.dLen, RF.dAbs, RF.dInt, RF.dList, RF.dTup, RF.dAll, RF.dAny, RF.dSum, RF.dMax2, RF.dMin2, RF.truthD, RF.isNon, isi_t, e1, e2, Bool.not_false]
    exact ⟨by trivial, by trivial⟩
  obtain ⟨ds, rfl⟩ := ht
  simp -dsimp -implicitDefEqProofs only [RF.w_seq, RF.w_if, RF.w_asg, RF.w_ret, RF.w_drop, RF.w_nx, RF.w_run, RF.w_C, RF.w_var, RF.w_mv, RF.w_D, RF.w_V, RF.w_ev, RF.w_lv, RF.w_op, RF.w_T, RF.w_B, RF.w_notT, RF.w_andT, RF.w_orT, RF.w_andV, RF.w_orV, RF.w_not, RF.w_neg, RF.w_CB, RF.w_pre0, RF.w_pre, RF.w_isi, RF.w_evs0, RF.w_evs, RF.w_tup, RF.w_lst, RF.w_part0, RF.w_part, RF.w_sl, RF.w_call, RF.w_call0, RF.w_app, RF.w_ext, RF.w_ins, RF.w_pop, RF.w_setI, RF.w_aug, RF.w_asgT, RF.w_for, RF.w_for0, RF.w_for1, RF.w_it, RF.w_enum, RF.w_rng1, RF.w_rng2, RF.w_lc, RF.w_lc0, RF.w_lc1, RF.w_chain, RF.w_lam, RF.w_bnd, RF.oK_some, RF.oK_none, RF.oK_ite, RF.ifK_true, RF.ifK_false, RF.ifK_not, RF.seqK_nx, RF.seqK_bk, RF.seqK_ct, RF.seqK_rt, RF.stO_un, RF.stO_va, RF.stO_ow, RF.retK_rt, RF.retK_nx, RF.back_nil, RF.back_ow, RF.back_va, RF.varK_va, RF.varK_ow, RF.toD_lst, RF.toD_dct, RF.mvK_va, RF.mvK_ow, RF.rvK_va, RF.rvK_ow, RF.rdS_va, RF.rdS_ow, RF.fin_ev, RF.fin_lv, RF.ap2_some, RF.blK_bl, RF.negD, RF.cons2_some, RF.finL_nil, RF.finL_cons, RF.intK_int, RF.mkA_nil, RF.mkA_ev, RF.mkS_ow, RF.mkA_lv, RF.putA_nil, RF.putA_ev, RF.putS_ow, RF.putA_lv, RF.owS_ow, RF.vaS_va, RF.tgN_eq, RF.tgO_un, RF.tgO_va, RF.tgO_ow, RF.tgT_tup, RF.tgL_nil, RF.tgL_cons, RF.forK_nx, RF.forK_ct, RF.forK_bk, RF.forK_rt, RF.asV, Option.map_some, Option.map_none, Option.bind_some, Option.bind_none, Option.some.injEq, List.getElem?_cons_zero, List.getElem?_cons_succ, List.set_cons_zero, List.set_cons_succ, List.length_cons, List.length_nil, List.cons_append, List.nil_append, List.replicate_succ, List.replicate_zero, Nat.reduceAdd, Nat.reduceSub, Nat.add_zero, Nat.zero_add, Nat.sub_self, RF.seqI, RF.seqD, RF.wipeE, RF.restE, Option.getD_some, RF.ix_lst0, RF.ix_tup0, RF.ixN_0, RF.ix_lst1, RF.ix_tup1, RF.ixN_1, RF.ix_lst2, RF.ix_tup2, RF.ixN_2, RF.ix_lst3, RF.ix_tup3, RF.ixN_3, RF.ix_lst4, RF.ix_tup4, RF.ixN_4, RF.ix_lst5, RF.ix_tup5, RF.ixN_5, RF.ix_lst6, RF.ix_tup6, RF.ixN_6, RF.ix_lst7, RF.ix_tup7, RF.ixN_7, RF.ix_lst8, RF.ix_tup8, RF.ixN_8, RF.add_int, RF.dSub, RF.dMul, RF.dFdiv, RF.dMod, RF.dPow, RF.eq_int, RF.eq_str, RF.ne_int, RF.ne_str, RF.dLt, RF.le_int, RF.gt_int, RF.ge_int, RF.dIs, RF.dLen, RF.dAbs, RF.dInt, RF.dList, RF.dTup, RF.dAll, RF.dAny, RF.dSum, RF.dMax2, RF.dMin2, RF.truthD, RF.isNon, RF.isi_t, RF.isi_s, RF.isi_i, RF.isi_b, RF.isT, RF.isS, RF.isN, RF.isNB, RF.isBl, Bool.not_false, Bool.not_true]
  cases h4 : ((ds.length : Int) == 4)
  · simp -dsimp -implicitDefEqProofs only [RF.w_seq, RF.w_if, RF.w_asg, RF.w_ret, RF.w_drop, RF.w_nx, RF.w_run, RF.w_C, RF.w_var, RF.w_mv, RF.w_D, RF.w_V, RF.w_ev, RF.w_lv, RF.w_op, RF.w_T, RF.w_B, RF.w_notT, RF.w_andT, RF.w_orT, RF.w_andV, RF.w_orV, RF.w_not, RF.w_neg, RF.w_CB, RF.w_pre0, RF.w_pre, RF.w_isi, RF.w_evs0, RF.w_evs, RF.w_tup, RF.w_lst, RF.w_part0, RF.w_part, RF.w_sl, RF.w_call, RF.w_call0, RF.w_app, RF.w_ext, RF.w_ins, RF.w_pop, RF.w_setI, RF.w_aug, RF.w_asgT, RF.w_for, RF.w_for0, RF.w_for1, RF.w_it, RF.w_enum, RF.w_rng1, RF.w_rng2, RF.w_lc, RF.w_lc0, RF.w_lc1, RF.w_chain, RF.w_lam, RF.w_bnd, RF.oK_some, RF.oK_none, RF.oK_ite, RF.ifK_true, RF.ifK_false, RF.ifK_not, RF.seqK_nx, RF.seqK_bk, RF.seqK_ct, RF.seqK_rt, RF.stO_un, RF.stO_va, RF.stO_ow, RF.retK_rt, RF.retK_nx, RF.back_nil, RF.back_ow, RF.back_va, RF.varK_va, RF.varK_ow, RF.toD_lst, RF.toD_dct, RF.mvK_va, RF.mvK_ow, RF.rvK_va, RF.rvK_ow, RF.rdS_va, RF.rdS_ow, RF.fin_ev, RF.fin_lv, RF.ap2_some, RF.blK_bl, RF.negD, RF.cons2_some, RF.finL_nil, RF.finL_cons, RF.intK_int, RF.mkA_nil, RF.mkA_ev, RF.mkS_ow, RF.mkA_lv, RF.putA_nil, RF.putA_ev, RF.putS_ow, RF.putA_lv, RF.owS_ow, RF.vaS_va, RF.tgN_eq, RF.tgO_un, RF.tgO_va, RF.tgO_ow, RF.tgT_tup, RF.tgL_nil, RF.tgL_cons, RF.forK_nx, RF.forK_ct, RF.forK_bk, RF.forK_rt, RF.asV, Option.map_some, Option.map_none, Option.bind_some, Option.bind_none, Option.some.injEq, List.getElem?_cons_zero, List.getElem?_cons_succ, List.set_cons_zero, List.set_cons_succ, List.length_cons, List.length_nil, List.cons_append, List.nil_append, List.replicate_succ, List.replicate_zero, Nat.reduceAdd, Nat.reduceSub, Nat.add_zero, Nat.zero_add, Nat.sub_self, RF.seqI, RF.seqD, RF.wipeE, RF.restE, Option.getD_some, RF.ix_lst0, RF.ix_tup0, RF.ixN_0, RF.ix_lst1, RF.ix_tup1, RF.ixN_1, RF.ix_lst2, RF.ix_tup2, RF.ixN_2, RF.ix_lst3, RF.ix_tup3, RF.ixN_3, RF.ix_lst4, RF.ix_tup4, RF.ixN_4, RF.ix_lst5, RF.ix_tup5, RF.ixN_5, RF.ix_lst6, RF.ix_tup6, RF.ixN_6, RF.ix_lst7, RF.ix_tup7, RF.ixN_7, RF.ix_lst8, RF.ix_tup8, RF.ixN_8, RF.add_int, RF.dSub, RF.dMul, RF.dFdiv, RF.dMod, RF.dPow, RF.eq_int, RF.eq_str, RF.ne_int, RF.ne_str, RF.dLt, RF.le_int, RF.gt_int, RF.ge_int, RF.dIs, RF.dLen, RF.dAbs, RF.dInt, RF.dList, RF.dTup, RF.dAll, RF.dAny, RF.dSum, RF.dMax2, RF.dMin2, RF.truthD, RF.isNon]
    rw [good_not4 (show tn (.tup ds) 4 = false from h4)]
    exact ⟨by trivial, by trivial⟩
  obtain ⟨a, b, c, e, he0⟩ := tn4 (show tn (.tup ds) 4 = true from h4)
  cases he0
  have hm := sm_mem hd
  have ha := hm a (by simp)
  have hb := hm b (by simp)
  have hc := hm c (by simp)
  have he := hm e (by simp)
  simp -dsimp -implicitDefEqProofs only [RF.w_seq, RF.w_if, RF.w_asg, RF.w_ret, RF.w_drop, RF.w_nx, RF.w_run, RF.w_C, RF.w_var, RF.w_mv, RF.w_D, RF.w_V, RF.w_ev, RF.w_lv, RF.w_op, RF.w_T, RF.w_B, RF.w_notT, RF.w_andT, RF.w_orT, RF.w_andV, RF.w_orV, RF.w_not, RF.w_neg, RF.w_CB, RF.w_pre0, RF.w_pre, RF.w_isi, RF.w_evs0, RF.w_evs, RF.w_tup, RF.w_lst, RF.w_part0, RF.w_part, RF.w_sl, RF.w_call, RF.w_call0, RF.w_app, RF.w_ext, RF.w_ins, RF.w_pop, RF.w_setI, RF.w_aug, RF.w_asgT, RF.w_for, RF.w_for0, RF.w_for1, RF.w_it, RF.w_enum, RF.w_rng1, RF.w_rng2, RF.w_lc, RF.w_lc0, RF.w_lc1, RF.w_chain, RF.w_lam, RF.w_bnd, RF.oK_some, RF.oK_none, RF.oK_ite, RF.ifK_true, RF.ifK_false, RF.ifK_not, RF.seqK_nx, RF.seqK_bk, RF.seqK_ct, RF.seqK_rt, RF.stO_un, RF.stO_va, RF.stO_ow, RF.retK_rt, RF.retK_nx, RF.back_nil, RF.back_ow, RF.back_va, RF.varK_va, RF.varK_ow, RF.toD_lst, RF.toD_dct, RF.mvK_va, RF.mvK_ow, RF.rvK_va, RF.rvK_ow, RF.rdS_va, RF.rdS_ow, RF.fin_ev, RF.fin_lv, RF.ap2_some, RF.blK_bl, RF.negD, RF.cons2_some, RF.finL_nil, RF.finL_cons, RF.intK_int, RF.mkA_nil, RF.mkA_ev, RF.mkS_ow, RF.mkA_lv, RF.putA_nil, RF.putA_ev, RF.putS_ow, RF.putA_lv, RF.owS_ow, RF.vaS_va, RF.tgN_eq, RF.tgO_un, RF.tgO_va, RF.tgO_ow, RF.tgT_tup, RF.tgL_nil, RF.tgL_cons, RF.forK_nx, RF.forK_ct, RF.forK_bk, RF.forK_rt, RF.asV, Option.map_some, Option.map_none, Option.bind_some, Option.bind_none, Option.some.injEq, List.getElem?_cons_zero, List.getElem?_cons_succ, List.set_cons_zero, List.set_cons_succ, List.length_cons, List.length_nil, List.cons_append, List.nil_append, List.replicate_succ, List.replicate_zero, Nat.reduceAdd, Nat.reduceSub, Nat.add_zero, Nat.zero_add, Nat.sub_self, RF.seqI, RF.seqD, RF.wipeE, RF.restE, Option.getD_some, RF.ix_lst0, RF.ix_tup0, RF.ixN_0, RF.ix_lst1, RF.ix_tup1, RF.ixN_1, RF.ix_lst2, RF.ix_tup2, RF.ixN_2, RF.ix_lst3, RF.ix_tup3, RF.ixN_3, RF.ix_lst4, RF.ix_tup4, RF.ixN_4, RF.ix_lst5, RF.ix_tup5, RF.ixN_5, RF.ix_lst6, RF.ix_tup6, RF.ixN_6, RF.ix_lst7, RF.ix_tup7, RF.ixN_7, RF.ix_lst8, RF.ix_tup8, RF.ixN_8, RF.add_int, RF.dSub, RF.dMul, RF.dFdiv, RF.dMod, RF.dPow, RF.eq_int, RF.eq_str, RF.ne_int, RF.ne_str, RF.dLt, RF.le_int, RF.gt_int, RF.ge_int, RF.dIs, RF.dLen, RF.dAbs, RF.dInt, RF.dList, RF.dTup, RF.dAll, RF.dAny, RF.dSum, RF.dMax2, RF.dMin2, RF.truthD, RF.isNon, isi_s]
  cases hs : isS a
  · simp -dsimp -implicitDefEqProofs only [RF.w_seq, RF.w_if, RF.w_asg, RF.w_ret, RF.w_drop, RF.w_nx, RF.w_run, RF.w_C, RF.w_var, RF.w_mv, RF.w_D, RF.w_V, RF.w_ev, RF.w_lv, RF.w_op, RF.w_T, RF.w_B, RF.w_notT, RF.w_andT, RF.w_orT, RF.w_andV, RF.w_orV, RF.w_not, RF.w_neg, RF.w_CB, RF.w_pre0, RF.w_pre, RF.w_isi, RF.w_evs0, RF.w_evs, RF.w_tup, RF.w_lst, RF.w_part0, RF.w_part, RF.w_sl, RF.w_call, RF.w_call0, RF.w_app, RF.w_ext, RF.w_ins, RF.w_pop, RF.w_setI, RF.w_aug, RF.w_asgT, RF.w_for, RF.w_for0, RF.w_for1, RF.w_it, RF.w_enum, RF.w_rng1, RF.w_rng2, RF.w_lc, RF.w_lc0, RF.w_lc1, RF.w_chain, RF.w_lam, RF.w_bnd, RF.oK_some, RF.oK_none, RF.oK_ite, RF.ifK_true, RF.ifK_false, RF.ifK_not, RF.seqK_nx, RF.seqK_bk, RF.seqK_ct, RF.seqK_rt, RF.stO_un, RF.stO_va, RF.stO_ow, RF.retK_rt, RF.retK_nx, RF.back_nil, RF.back_ow, RF.back_va, RF.varK_va, RF.varK_ow, RF.toD_lst, RF.toD_dct, RF.mvK_va, RF.mvK_ow, RF.rvK_va, RF.rvK_ow, RF.rdS_va, RF.rdS_ow, RF.fin_ev, RF.fin_lv, RF.ap2_some, RF.blK_bl, RF.negD, RF.cons2_some, RF.finL_nil, RF.finL_cons, RF.intK_int, RF.mkA_nil, RF.mkA_ev, RF.mkS_ow, RF.mkA_lv, RF.putA_nil, RF.putA_ev, RF.putS_ow, RF.putA_lv, RF.owS_ow, RF.vaS_va, RF.tgN_eq, RF.tgO_un, RF.tgO_va, RF.tgO_ow, RF.tgT_tup, RF.tgL_nil, RF.tgL_cons, RF.forK_nx, RF.forK_ct, RF.forK_bk, RF.forK_rt, RF.asV, Option.map_some, Option.map_none, Option.bind_some, Option.bind_none, Option.some.injEq, List.getElem?_cons_zero, List.getElem?_cons_succ, List.set_cons_zero, List.set_cons_succ, List.length_cons, List.length_nil, List.cons_append, List.nil_append, List.replicate_succ, List.replicate_zero, Nat.reduceAdd, Nat.reduceSub, Nat.add_zero, Nat.zero_add, Nat.sub_self, RF.seqI, RF.seqD, RF.wipeE, RF.restE, Option.getD_some, RF.ix_lst0, RF.ix_tup0, RF.ixN_0, RF.ix_lst1, RF.ix_tup1, RF.ixN_1, RF.ix_lst2, RF.ix_tup2, RF.ixN_2, RF.ix_lst3, RF.ix_tup3, RF.ixN_3, RF.ix_lst4, RF.ix_tup4, RF.ixN_4, RF.ix_lst5, RF.ix_tup5, RF.ixN_5, RF.ix_lst6, RF.ix_tup6, RF.ixN_6, RF.ix_lst7, RF.ix_tup7, RF.ixN_7, RF.ix_lst8, RF.ix_tup8, RF.ixN_8, RF.add_int, RF.dSub, RF.dMul, RF.dFdiv, RF.dMod, RF.dPow, RF.eq_int, RF.eq_str, RF.ne_int, RF.ne_str, RF.dLt, RF.le_int, RF.gt_int, RF.ge_int, RF.dIs, RF.dLen, RF.dAbs, RF.dInt, RF.dList, RF.dTup, RF.dAll, RF.dAny, RF.dSum, RF.dMax2, RF.dMin2, RF.truthD, RF.isNon]
    rw [good_noname (show nameIn ps a = false by cases a <;> first | rfl | cases hs)]
    exact ⟨by trivial, by trivial⟩
  obtain ⟨s, rfl⟩ : ∃ s, a = .str s := by
    cases a with
    | str s => exact ⟨s, rfl⟩
    | _ => cases hs
  simp -dsimp -implicitDefEqProofs only [RF.w_seq, RF.w_if, RF.w_asg, RF.w_ret, RF.w_drop, RF.w_nx, RF.w_run, RF.w_C, RF.w_var, RF.w_mv, RF.w_D, RF.w_V, RF.w_ev, RF.w_lv, RF.w_op, RF.w_T, RF.w_B, RF.w_notT, RF.w_andT, RF.w_orT, RF.w_andV, RF.w_orV, RF.w_not, RF.w_neg, RF.w_CB, RF.w_pre0, RF.w_pre, RF.w_isi, RF.w_evs0, RF.w_evs, RF.w_tup, RF.w_lst, RF.w_part0, RF.w_part, RF.w_sl, RF.w_call, RF.w_call0, RF.w_app, RF.w_ext, RF.w_ins, RF.w_pop, RF.w_setI, RF.w_aug, RF.w_asgT, RF.w_for, RF.w_for0, RF.w_for1, RF.w_it, RF.w_enum, RF.w_rng1, RF.w_rng2, RF.w_lc, RF.w_lc0, RF.w_lc1, RF.w_chain, RF.w_lam, RF.w_bnd, RF.oK_some, RF.oK_none, RF.oK_ite, RF.ifK_true, RF.ifK_false, RF.ifK_not, RF.seqK_nx, RF.seqK_bk, RF.seqK_ct, RF.seqK_rt, RF.stO_un, RF.stO_va, RF.stO_ow, RF.retK_rt, RF.retK_nx, RF.back_nil, RF.back_ow, RF.back_va, RF.varK_va, RF.varK_ow, RF.toD_lst, RF.toD_dct, RF.mvK_va, RF.mvK_ow, RF.rvK_va, RF.rvK_ow, RF.rdS_va, RF.rdS_ow, RF.fin_ev, RF.fin_lv, RF.ap2_some, RF.blK_bl, RF.negD, RF.cons2_some, RF.finL_nil, RF.finL_cons, RF.intK_int, RF.mkA_nil, RF.mkA_ev, RF.mkS_ow, RF.mkA_lv, RF.putA_nil, RF.putA_ev, RF.putS_ow, RF.putA_lv, RF.owS_ow, RF.vaS_va, RF.tgN_eq, RF.tgO_un, RF.tgO_va, RF.tgO_ow, RF.tgT_tup, RF.tgL_nil, RF.tgL_cons, RF.forK_nx, RF.forK_ct, RF.forK_bk, RF.forK_rt, RF.asV, Option.map_some, Option.map_none, Option.bind_some, Option.bind_none, Option.some.injEq, List.getElem?_cons_zero, List.getElem?_cons_succ, List.set_cons_zero, List.set_cons_succ, List.length_cons, List.length_nil, List.cons_append, List.nil_append, List.replicate_succ, List.replicate_zero, Nat.reduceAdd, Nat.reduceSub, Nat.add_zero, Nat.zero_add, Nat.sub_self, RF.seqI, RF.seqD, RF.wipeE, RF.restE, Option.getD_some, RF.ix_lst0, RF.ix_tup0, RF.ixN_0, RF.ix_lst1, RF.ix_tup1, RF.ixN_1, RF.ix_lst2, RF.ix_tup2, RF.ixN_2, RF.ix_lst3, RF.ix_tup3, RF.ixN_3, RF.ix_lst4, RF.ix_tup4, RF.ixN_4, RF.ix_lst5, RF.ix_tup5, RF.ixN_5, RF.ix_lst6, RF.ix_tup6, RF.ixN_6, RF.ix_lst7, RF.ix_tup7, RF.ixN_7, RF.ix_lst8, RF.ix_tup8, RF.ixN_8, RF.add_int, RF.dSub, RF.dMul, RF.dFdiv, RF.dMod, RF.dPow, RF.eq_int, RF.eq_str, RF.ne_int, RF.ne_str, RF.dLt, RF.le_int, RF.gt_int, RF.ge_int, RF.dIs, RF.dLen, RF.dAbs, RF.dInt, RF.dList, RF.dTup, RF.dAll, RF.dAny, RF.dSum, RF.dMax2, RF.dMin2, RF.truthD, RF.isNon]
  refine ⟨by rfl, ?_⟩
  refine (wp_of (lc_filter (fun d => match d with | .tup (.str n :: _) => if n == s then some d else none | _ => none) (ps.map pD) (fun i d e => ?_))).mpr ?_
  · obtain ⟨p, rfl⟩ := get_pD e
    refine ⟨_, rfl, ?_⟩
    unfold pD
    simp -dsimp -implicitDefEqProofs only [RF.w_seq, RF.w_if, RF.w_asg, RF.w_ret, RF.w_drop, RF.w_nx, RF.w_run, RF.w_C, RF.w_var, RF.w_mv, RF.w_D, RF.w_V, RF.w_ev, RF.w_lv, RF.w_op, RF.w_T, RF.w_B, RF.w_notT, RF.w_andT, RF.w_orT, RF.w_andV, RF.w_orV, RF.w_not, RF.w_neg, RF.w_CB, RF.w_pre0, RF.w_pre, RF.w_isi, RF.w_evs0, RF.w_evs, RF.w_tup, RF.w_lst, RF.w_part0, RF.w_part, RF.w_sl, RF.w_call, RF.w_call0, RF.w_app, RF.w_ext, RF.w_ins, RF.w_pop, RF.w_setI, RF.w_aug, RF.w_asgT, RF.w_for, RF.w_for0, RF.w_for1, RF.w_it, RF.w_enum, RF.w_rng1, RF.w_rng2, RF.w_lc, RF.w_lc0, RF.w_lc1, RF.w_chain, RF.w_lam, RF.w_bnd, RF.oK_some, RF.oK_none, RF.oK_ite, RF.ifK_true, RF.ifK_false, RF.ifK_not, RF.seqK_nx, RF.seqK_bk, RF.seqK_ct, RF.seqK_rt, RF.stO_un, RF.stO_va, RF.stO_ow, RF.retK_rt, RF.retK_nx, RF.back_nil, RF.back_ow, RF.back_va, RF.varK_va, RF.varK_ow, RF.toD_lst, RF.toD_dct, RF.mvK_va, RF.mvK_ow, RF.rvK_va, RF.rvK_ow, RF.rdS_va, RF.rdS_ow, RF.fin_ev, RF.fin_lv, RF.ap2_some, RF.blK_bl, RF.negD, RF.cons2_some, RF.finL_nil, RF.finL_cons, RF.intK_int, RF.mkA_nil, RF.mkA_ev, RF.mkS_ow, RF.mkA_lv, RF.putA_nil, RF.putA_ev, RF.putS_ow, RF.putA_lv, RF.owS_ow, RF.vaS_va, RF.tgN_eq, RF.tgO_un, RF.tgO_va, RF.tgO_ow, RF.tgT_tup, RF.tgL_nil, RF.tgL_cons, RF.forK_nx, RF.forK_ct, RF.forK_bk, RF.forK_rt, RF.asV, Option.map_some, Option.map_none, Option.bind_some, Option.bind_none, Option.some.injEq, List.getElem?_cons_zero, List.getElem?_cons_succ, List.set_cons_zero, List.set_cons_succ, List.length_cons, List.length_nil, List.cons_append, List.nil_append, List.replicate_succ, List.replicate_zero, Nat.reduceAdd, Nat.reduceSub, Nat.add_zero, Nat.zero_add, Nat.sub_self, RF.seqI, RF.seqD, RF.wipeE, RF.restE, Option.getD_some, RF.ix_lst0, RF.ix_tup0, RF.ixN_0, RF.ix_lst1, RF.ix_tup1, RF.ixN_1, RF.ix_lst2, RF.ix_tup2, RF.ixN_2, RF.ix_lst3, RF.ix_tup3, RF.ixN_3, RF.ix_lst4, RF.ix_tup4, RF.ixN_4, RF.ix_lst5, RF.ix_tup5, RF.ixN_5, RF.ix_lst6, RF.ix_tup6, RF.ixN_6, RF.ix_lst7, RF.ix_tup7, RF.ixN_7, RF.ix_lst8, RF.ix_tup8, RF.ixN_8, RF.add_int, RF.dSub, RF.dMul, RF.dFdiv, RF.dMod, RF.dPow, RF.eq_int, RF.eq_str, RF.ne_int, RF.ne_str, RF.dLt, RF.le_int, RF.gt_int, RF.ge_int, RF.dIs, RF.dLen, RF.dAbs, RF.dInt, RF.dList, RF.dTup, RF.dAll, RF.dAny, RF.dSum, RF.dMax2, RF.dMin2, RF.truthD, RF.isNon]
    cases h : p.name == s
    · simp -dsimp -implicitDefEqProofs only [RF.w_seq, RF.w_if, RF.w_asg, RF.w_ret, RF.w_drop, RF.w_nx, RF.w_run, RF.w_C, RF.w_var, RF.w_mv, RF.w_D, RF.w_V, RF.w_ev, RF.w_lv, RF.w_op, RF.w_T, RF.w_B, RF.w_notT, RF.w_andT, RF.w_orT, RF.w_andV, RF.w_orV, RF.w_not, RF.w_neg, RF.w_CB, RF.w_pre0, RF.w_pre, RF.w_isi, RF.w_evs0, RF.w_evs, RF.w_tup, RF.w_lst, RF.w_part0, RF.w_part, RF.w_sl, RF.w_call, RF.w_call0, RF.w_app, RF.w_ext, RF.w_ins, RF.w_pop, RF.w_setI, RF.w_aug, RF.w_asgT, RF.w_for, RF.w_for0, RF.w_for1, RF.w_it, RF.w_enum, RF.w_rng1, RF.w_rng2, RF.w_lc, RF.w_lc0, RF.w_lc1, RF.w_chain, RF.w_lam, RF.w_bnd, RF.oK_some, RF.oK_none, RF.oK_ite, RF.ifK_true, RF.ifK_false, RF.ifK_not, RF.seqK_nx, RF.seqK_bk, RF.seqK_ct, RF.seqK_rt, RF.stO_un, RF.stO_va, RF.stO_ow, RF.retK_rt, RF.retK_nx, RF.back_nil, RF.back_ow, RF.back_va, RF.varK_va, RF.varK_ow, RF.toD_lst, RF.toD_dct, RF.mvK_va, RF.mvK_ow, RF.rvK_va, RF.rvK_ow, RF.rdS_va, RF.rdS_ow, RF.fin_ev, RF.fin_lv, RF.ap2_some, RF.blK_bl, RF.negD, RF.cons2_some, RF.finL_nil, RF.finL_cons, RF.intK_int, RF.mkA_nil, RF.mkA_ev, RF.mkS_ow, RF.mkA_lv, RF.putA_nil, RF.putA_ev, RF.putS_ow, RF.putA_lv, RF.owS_ow, RF.vaS_va, RF.tgN_eq, RF.tgO_un, RF.tgO_va, RF.tgO_ow, RF.tgT_tup, RF.tgL_nil, RF.tgL_cons, RF.forK_nx, RF.forK_ct, RF.forK_bk, RF.forK_rt, RF.asV, Option.map_some, Option.map_none, Option.bind_some, Option.bind_none, Option.some.injEq, List.getElem?_cons_zero, List.getElem?_cons_succ, List.set_cons_zero, List.set_cons_succ, List.length_cons, List.length_nil, List.cons_append, List.nil_append, List.replicate_succ, List.replicate_zero, Nat.reduceAdd, Nat.reduceSub, Nat.add_zero, Nat.zero_add, Nat.sub_self, RF.seqI, RF.seqD, RF.wipeE, RF.restE, Option.getD_some, RF.ix_lst0, RF.ix_tup0, RF.ixN_0, RF.ix_lst1, RF.ix_tup1, RF.ixN_1, RF.ix_lst2, RF.ix_tup2, RF.ixN_2, RF.ix_lst3, RF.ix_tup3, RF.ixN_3, RF.ix_lst4, RF.ix_tup4, RF.ixN_4, RF.ix_lst5, RF.ix_tup5, RF.ixN_5, RF.ix_lst6, RF.ix_tup6, RF.ixN_6, RF.ix_lst7, RF.ix_tup7, RF.ixN_7, RF.ix_lst8, RF.ix_tup8, RF.ixN_8, RF.add_int, RF.dSub, RF.dMul, RF.dFdiv, RF.dMod, RF.dPow, RF.eq_int, RF.eq_str, RF.ne_int, RF.ne_str, RF.dLt, RF.le_int, RF.gt_int, RF.ge_int, RF.dIs, RF.dLen, RF.dAbs, RF.dInt, RF.dList, RF.dTup, RF.dAll, RF.dAny, RF.dSum, RF.dMax2, RF.dMin2, RF.truthD, RF.isNon]
      exact ⟨by simpa using h, by trivial⟩
    · simp -dsimp -implicitDefEqProofs only [RF.w_seq, RF.w_if, RF.w_asg, RF.w_ret, RF.w_drop, RF.w_nx, RF.w_run, RF.w_C, RF.w_var, RF.w_mv, RF.w_D, RF.w_V, RF.w_ev, RF.w_lv, RF.w_op, RF.w_T, RF.w_B, RF.w_notT, RF.w_andT, RF.w_orT, RF.w_andV, RF.w_orV, RF.w_not, RF.w_neg, RF.w_CB, RF.w_pre0, RF.w_pre, RF.w_isi, RF.w_evs0, RF.w_evs, RF.w_tup, RF.w_lst, RF.w_part0, RF.w_part, RF.w_sl, RF.w_call, RF.w_call0, RF.w_app, RF.w_ext, RF.w_ins, RF.w_pop, RF.w_setI, RF.w_aug, RF.w_asgT, RF.w_for, RF.w_for0, RF.w_for1, RF.w_it, RF.w_enum, RF.w_rng1, RF.w_rng2, RF.w_lc, RF.w_lc0, RF.w_lc1, RF.w_chain, RF.w_lam, RF.w_bnd, RF.oK_some, RF.oK_none, RF.oK_ite, RF.ifK_true, RF.ifK_false, RF.ifK_not, RF.seqK_nx, RF.seqK_bk, RF.seqK_ct, RF.seqK_rt, RF.stO_un, RF.stO_va, RF.stO_ow, RF.retK_rt, RF.retK_nx, RF.back_nil, RF.back_ow, RF.back_va, RF.varK_va, RF.varK_ow, RF.toD_lst, RF.toD_dct, RF.mvK_va, RF.mvK_ow, RF.rvK_va, RF.rvK_ow, RF.rdS_va, RF.rdS_ow, RF.fin_ev, RF.fin_lv, RF.ap2_some, RF.blK_bl, RF.negD, RF.cons2_some, RF.finL_nil, RF.finL_cons, RF.intK_int, RF.mkA_nil, RF.mkA_ev, RF.mkS_ow, RF.mkA_lv, RF.putA_nil, RF.putA_ev, RF.putS_ow, RF.putA_lv, RF.owS_ow, RF.vaS_va, RF.tgN_eq, RF.tgO_un, RF.tgO_va, RF.tgO_ow, RF.tgT_tup, RF.tgL_nil, RF.tgL_cons, RF.forK_nx, RF.forK_ct, RF.forK_bk, RF.forK_rt, RF.asV, Option.map_some, Option.map_none, Option.bind_some, Option.bind_none, Option.some.injEq, List.getElem?_cons_zero, List.getElem?_cons_succ, List.set_cons_zero, List.set_cons_succ, List.length_cons, List.length_nil, List.cons_append, List.nil_append, List.replicate_succ, List.replicate_zero, Nat.reduceAdd, Nat.reduceSub, Nat.add_zero, Nat.zero_add, Nat.sub_self, RF.seqI, RF.seqD, RF.wipeE, RF.restE, Option.getD_some, RF.ix_lst0, RF.ix_tup0, RF.ixN_0, RF.ix_lst1, RF.ix_tup1, RF.ixN_1, RF.ix_lst2, RF.ix_tup2, RF.ixN_2, RF.ix_lst3, RF.ix_tup3, RF.ixN_3, RF.ix_lst4, RF.ix_tup4, RF.ixN_4, RF.ix_lst5, RF.ix_tup5, RF.ixN_5, RF.ix_lst6, RF.ix_tup6, RF.ixN_6, RF.ix_lst7, RF.ix_tup7, RF.ixN_7, RF.ix_lst8, RF.ix_tup8, RF.ixN_8, RF.add_int, RF.dSub, RF.dMul, RF.dFdiv, RF.dMod, RF.dPow, RF.eq_int, RF.eq_str, RF.ne_int, RF.ne_str, RF.dLt, RF.le_int, RF.gt_int, RF.ge_int, RF.dIs, RF.dLen, RF.dAbs, RF.dInt, RF.dList, RF.dTup, RF.dAll, RF.dAny, RF.dSum, RF.dMax2, RF.dMin2, RF.truthD, RF.isNon]
      exact ⟨by simpa using h, by trivial⟩
  rw [named_list]
  refine ⟨by rw [List.length_map]; exact Nat.le_trans (List.length_filter_le _ _) (Nat.le_trans hp.1 (by decide)), ?_⟩
  simp -dsimp -implicitDefEqProofs only [RF.w_seq, RF.w_if, RF.w_asg, RF.w_ret, RF.w_drop, RF.w_nx, RF.w_run, RF.w_C, RF.w_var, RF.w_mv, RF.w_D, RF.w_V, RF.w_ev, RF.w_lv, RF.w_op, RF.w_T, RF.w_B, RF.w_notT, RF.w_andT, RF.w_orT, RF.w_andV, RF.w_orV, RF.w_not, RF.w_neg, RF.w_CB, RF.w_pre0, RF.w_pre, RF.w_isi, RF.w_evs0, RF.w_evs, RF.w_tup, RF.w_lst, RF.w_part0, RF.w_part, RF.w_sl, RF.w_call, RF.w_call0, RF.w_app, RF.w_ext, RF.w_ins, RF.w_pop, RF.w_setI, RF.w_aug, RF.w_asgT, RF.w_for, RF.w_for0, RF.w_for1, RF.w_it, RF.w_enum, RF.w_rng1, RF.w_rng2, RF.w_lc, RF.w_lc0, RF.w_lc1, RF.w_chain, RF.w_lam, RF.w_bnd, RF.oK_some, RF.oK_none, RF.oK_ite, RF.ifK_true, RF.ifK_false, RF.ifK_not, RF.seqK_nx, RF.seqK_bk, RF.seqK_ct, RF.seqK_rt, RF.stO_un, RF.stO_va, RF.stO_ow, RF.retK_rt, RF.retK_nx, RF.back_nil, RF.back_ow, RF.back_va, RF.varK_va, RF.varK_ow, RF.toD_lst, RF.toD_dct, RF.mvK_va, RF.mvK_ow, RF.rvK_va, RF.rvK_ow, RF.rdS_va, RF.rdS_ow, RF.fin_ev, RF.fin_lv, RF.ap2_some, RF.blK_bl, RF.negD, RF.cons2_some, RF.finL_nil, RF.finL_cons, RF.intK_int, RF.mkA_nil, RF.mkA_ev, RF.mkS_ow, RF.mkA_lv, RF.putA_nil, RF.putA_ev, RF.putS_ow, RF.putA_lv, RF.owS_ow, RF.vaS_va, RF.tgN_eq, RF.tgO_un, RF.tgO_va, RF.tgO_ow, RF.tgT_tup, RF.tgL_nil, RF.tgL_cons, RF.forK_nx, RF.forK_ct, RF.forK_bk, RF.forK_rt, RF.asV, Option.map_some, Option.map_none, Option.bind_some, Option.bind_none, Option.some.injEq, List.getElem?_cons_zero, List.getElem?_cons_succ, List.set_cons_zero, List.set_cons_succ, List.length_cons, List.length_nil, List.cons_append, List.nil_append, List.replicate_succ, List.replicate_zero, Nat.reduceAdd, Nat.reduceSub, Nat.add_zero, Nat.zero_add, Nat.sub_self, RF.seqI, RF.seqD, RF.wipeE, RF.restE, Option.getD_some, RF.ix_lst0, RF.ix_tup0, RF.ixN_0, RF.ix_lst1, RF.ix_tup1, RF.ixN_1, RF.ix_lst2, RF.ix_tup2, RF.ixN_2, RF.ix_lst3, RF.ix_tup3, RF.ixN_3, RF.ix_lst4, RF.ix_tup4, RF.ixN_4, RF.ix_lst5, RF.ix_tup5, RF.ixN_5, RF.ix_lst6, RF.ix_tup6, RF.ixN_6, RF.ix_lst7, RF.ix_tup7, RF.ixN_7, RF.ix_lst8, RF.ix_tup8, RF.ixN_8, RF.add_int, RF.dSub, RF.dMul, RF.dFdiv, RF.dMod, RF.dPow, RF.eq_int, RF.eq_str, RF.ne_int, RF.ne_str, RF.dLt, RF.le_int, RF.gt_int, RF.ge_int, RF.dIs, RF.dLen, RF.dAbs, RF.dInt, RF.dList, RF.dTup, RF.dAll, RF.dAny, RF.dSum, RF.dMax2, RF.dMin2, RF.truthD, RF.isNon, eq_nil (pD_plain _)]
  cases hx : nameIn ps (.str s)
  · have e0 : ps.filter (fun p => p.name == s) = [] := by
      rw [List.filter_eq_nil_iff]
      intro p hp2 h2
      have hx' : ps.any (fun p => p.name == s) = false := hx
      rw [List.any_eq_false] at hx'
      exact hx' p hp2 h2
    rw [e0, good_noname hx]
    simp -dsimp -implicitDefEqProofs only [RF.w_seq, RF.w_if, RF.w_asg, RF.w_ret, RF.w_drop, RF.w_nx, RF.w_run, RF.w_C, RF.w_var, RF.w_mv, RF.w_D, RF.w_V, RF.w_ev, RF.w_lv, RF.w_op, RF.w_T, RF.w_B, RF.w_notT, RF.w_andT, RF.w_orT, RF.w_andV, RF.w_orV, RF.w_not, RF.w_neg, RF.w_CB, RF.w_pre0, RF.w_pre, RF.w_isi, RF.w_evs0, RF.w_evs, RF.w_tup, RF.w_lst, RF.w_part0, RF.w_part, RF.w_sl, RF.w_call, RF.w_call0, RF.w_app, RF.w_ext, RF.w_ins, RF.w_pop, RF.w_setI, RF.w_aug, RF.w_asgT, RF.w_for, RF.w_for0, RF.w_for1, RF.w_it, RF.w_enum, RF.w_rng1, RF.w_rng2, RF.w_lc, RF.w_lc0, RF.w_lc1, RF.w_chain, RF.w_lam, RF.w_bnd, RF.oK_some, RF.oK_none, RF.oK_ite, RF.ifK_true, RF.ifK_false, RF.ifK_not, RF.seqK_nx, RF.seqK_bk, RF.seqK_ct, RF.seqK_rt, RF.stO_un, RF.stO_va, RF.stO_ow, RF.retK_rt, RF.retK_nx, RF.back_nil, RF.back_ow, RF.back_va, RF.varK_va, RF.varK_ow, RF.toD_lst, RF.toD_dct, RF.mvK_va, RF.mvK_ow, RF.rvK_va, RF.rvK_ow, RF.rdS_va, RF.rdS_ow, RF.fin_ev, RF.fin_lv, RF.ap2_some, RF.blK_bl, RF.negD, RF.cons2_some, RF.finL_nil, RF.finL_cons, RF.intK_int, RF.mkA_nil, RF.mkA_ev, RF.mkS_ow, RF.mkA_lv, RF.putA_nil, RF.putA_ev, RF.putS_ow, RF.putA_lv, RF.owS_ow, RF.vaS_va, RF.tgN_eq, RF.tgO_un, RF.tgO_va, RF.tgO_ow, RF.tgT_tup, RF.tgL_nil, RF.tgL_cons, RF.forK_nx, RF.forK_ct, RF.forK_bk, RF.forK_rt, RF.asV, Option.map_some, Option.map_none, Option.bind_some, Option.bind_none, Option.some.injEq, List.getElem?_cons_zero, List.getElem?_cons_succ, List.set_cons_zero, List.set_cons_succ, List.length_cons, List.length_nil, List.cons_append, List.nil_append, List.replicate_succ, List.replicate_zero, Nat.reduceAdd, Nat.reduceSub, Nat.add_zero, Nat.zero_add, Nat.sub_self, RF.seqI, RF.seqD, RF.wipeE, RF.restE, Option.getD_some, RF.ix_lst0, RF.ix_tup0, RF.ixN_0, RF.ix_lst1, RF.ix_tup1, RF.ixN_1, RF.ix_lst2, RF.ix_tup2, RF.ixN_2, RF.ix_lst3, RF.ix_tup3, RF.ixN_3, RF.ix_lst4, RF.ix_tup4, RF.ixN_4, RF.ix_lst5, RF.ix_tup5, RF.ixN_5, RF.ix_lst6, RF.ix_tup6, RF.ixN_6, RF.ix_lst7, RF.ix_tup7, RF.ixN_7, RF.ix_lst8, RF.ix_tup8, RF.ixN_8, RF.add_int, RF.dSub, RF.dMul, RF.dFdiv, RF.dMod, RF.dPow, RF.eq_int, RF.eq_str, RF.ne_int, RF.ne_str, RF.dLt, RF.le_int, RF.gt_int, RF.ge_int, RF.dIs, RF.dLen, RF.dAbs, RF.dInt, RF.dList, RF.dTup, RF.dAll, RF.dAny, RF.dSum, RF.dMax2, RF.dMin2, RF.truthD, RF.isNon, List.map_nil, List.isEmpty_nil]
    exact ⟨by trivial, by trivial⟩
  obtain ⟨s', p, hss, hf⟩ := named hx
  cases hss
  have hpp := hp.2 p (List.mem_of_find?_eq_some hf)
  have hd0 : (ps.filter fun p => p.name == s).head? = some p := by rw [List.head?_filter]; exact hf
  rw [show good ps (.tup [.str s, b, c, e]) = good1 p b c e by simp [good, hf]]
  cases ef : ps.filter fun p => p.name == s with
  | nil => rw [ef] at hd0; cases hd0
  | cons p' rest =>
  rw [ef] at hd0
  cases hd0
  rw [List.map_cons]
  simp -dsimp -implicitDefEqProofs only [RF.w_seq, RF.w_if, RF.w_asg, RF.w_ret, RF.w_drop, RF.w_nx, RF.w_run, RF.w_C, RF.w_var, RF.w_mv, RF.w_D, RF.w_V, RF.w_ev, RF.w_lv, RF.w_op, RF.w_T, RF.w_B, RF.w_notT, RF.w_andT, RF.w_orT, RF.w_andV, RF.w_orV, RF.w_not, RF.w_neg, RF.w_CB, RF.w_pre0, RF.w_pre, RF.w_isi, RF.w_evs0, RF.w_evs, RF.w_tup, RF.w_lst, RF.w_part0, RF.w_part, RF.w_sl, RF.w_call, RF.w_call0, RF.w_app, RF.w_ext, RF.w_ins, RF.w_pop, RF.w_setI, RF.w_aug, RF.w_asgT, RF.w_for, RF.w_for0, RF.w_for1, RF.w_it, RF.w_enum, RF.w_rng1, RF.w_rng2, RF.w_lc, RF.w_lc0, RF.w_lc1, RF.w_chain, RF.w_lam, RF.w_bnd, RF.oK_some, RF.oK_none, RF.oK_ite, RF.ifK_true, RF.ifK_false, RF.ifK_not, RF.seqK_nx, RF.seqK_bk, RF.seqK_ct, RF.seqK_rt, RF.stO_un, RF.stO_va, RF.stO_ow, RF.retK_rt, RF.retK_nx, RF.back_nil, RF.back_ow, RF.back_va, RF.varK_va, RF.varK_ow, RF.toD_lst, RF.toD_dct, RF.mvK_va, RF.mvK_ow, RF.rvK_va, RF.rvK_ow, RF.rdS_va, RF.rdS_ow, RF.fin_ev, RF.fin_lv, RF.ap2_some, RF.blK_bl, RF.negD, RF.cons2_some, RF.finL_nil, RF.finL_cons, RF.intK_int, RF.mkA_nil, RF.mkA_ev, RF.mkS_ow, RF.mkA_lv, RF.putA_nil, RF.putA_ev, RF.putS_ow, RF.putA_lv, RF.owS_ow, RF.vaS_va, RF.tgN_eq, RF.tgO_un, RF.tgO_va, RF.tgO_ow, RF.tgT_tup, RF.tgL_nil, RF.tgL_cons, RF.forK_nx, RF.forK_ct, RF.forK_bk, RF.forK_rt, RF.asV, Option.map_some, Option.map_none, Option.bind_some, Option.bind_none, Option.some.injEq, List.getElem?_cons_zero, List.getElem?_cons_succ, List.set_cons_zero, List.set_cons_succ, List.length_cons, List.length_nil, List.cons_append, List.nil_append, List.replicate_succ, List.replicate_zero, Nat.reduceAdd, Nat.reduceSub, Nat.add_zero, Nat.zero_add, Nat.sub_self, RF.seqI, RF.seqD, RF.wipeE, RF.restE, Option.getD_some, RF.ix_lst0, RF.ix_tup0, RF.ixN_0, RF.ix_lst1, RF.ix_tup1, RF.ixN_1, RF.ix_lst2, RF.ix_tup2, RF.ixN_2, RF.ix_lst3, RF.ix_tup3, RF.ixN_3, RF.ix_lst4, RF.ix_tup4, RF.ixN_4, RF.ix_lst5, RF.ix_tup5, RF.ixN_5, RF.ix_lst6, RF.ix_tup6, RF.ixN_6, RF.ix_lst7, RF.ix_tup7, RF.ixN_7, RF.ix_lst8, RF.ix_tup8, RF.ixN_8, RF.add_int, RF.dSub, RF.dMul, RF.dFdiv, RF.dMod, RF.dPow, RF.eq_int, RF.eq_str, RF.ne_int, RF.ne_str, RF.dLt, RF.le_int, RF.gt_int, RF.ge_int, RF.dIs, RF.dLen, RF.dAbs, RF.dInt, RF.dList, RF.dTup, RF.dAll, RF.dAny, RF.dSum, RF.dMax2, RF.dMin2, RF.truthD, RF.isNon, List.isEmpty_cons, isi_t]
  cases hbT : isT b
  · simp -dsimp -implicitDefEqProofs only [RF.w_seq, RF.w_if, RF.w_asg, RF.w_ret, RF.w_drop, RF.w_nx, RF.w_run, RF.w_C, RF.w_var, RF.w_mv, RF.w_D, RF.w_V, RF.w_ev, RF.w_lv, RF.w_op, RF.w_T, RF.w_B, RF.w_notT, RF.w_andT, RF.w_orT, RF.w_andV, RF.w_orV, RF.w_not, RF.w_neg, RF.w_CB, RF.w_pre0, RF.w_pre, RF.w_isi, RF.w_evs0, RF.w_evs, RF.w_tup, RF.w_lst, RF.w_part0, RF.w_part, RF.w_sl, RF.w_call, RF.w_call0, RF.w_app, RF.w_ext, RF.w_ins, RF.w_pop, RF.w_setI, RF.w_aug, RF.w_asgT, RF.w_for, RF.w_for0, RF.w_for1, RF.w_it, RF.w_enum, RF.w_rng1, RF.w_rng2, RF.w_lc, RF.w_lc0, RF.w_lc1, RF.w_chain, RF.w_lam, RF.w_bnd, RF.oK_some, RF.oK_none, RF.oK_ite, RF.ifK_true, RF.ifK_false, RF.ifK_not, RF.seqK_nx, RF.seqK_bk, RF.seqK_ct, RF.seqK_rt, RF.stO_un, RF.stO_va, RF.stO_ow, RF.retK_rt, RF.retK_nx, RF.back_nil, RF.back_ow, RF.back_va, RF.varK_va, RF.varK_ow, RF.toD_lst, RF.toD_dct, RF.mvK_va, RF.mvK_ow, RF.rvK_va, RF.rvK_ow, RF.rdS_va, RF.rdS_ow, RF.fin_ev, RF.fin_lv, RF.ap2_some, RF.blK_bl, RF.negD, RF.cons2_some, RF.finL_nil, RF.finL_cons, RF.intK_int, RF.mkA_nil, RF.mkA_ev, RF.mkS_ow, RF.mkA_lv, RF.putA_nil, RF.putA_ev, RF.putS_ow, RF.putA_lv, RF.owS_ow, RF.vaS_va, RF.tgN_eq, RF.tgO_un, RF.tgO_va, RF.tgO_ow, RF.tgT_tup, RF.tgL_nil, RF.tgL_cons, RF.forK_nx, RF.forK_ct, RF.forK_bk, RF.forK_rt, RF.asV, Option.map_some, Option.map_none, Option.bind_some, Option.bind_none, Option.some.injEq, List.getElem?_cons_zero, List.getElem?_cons_succ, List.set_cons_zero, List.set_cons_succ, List.length_cons, List.length_nil, List.cons_append, List.nil_append, List.replicate_succ, List.replicate_zero, Nat.reduceAdd, Nat.reduceSub, Nat.add_zero, Nat.zero_add, Nat.sub_self, RF.seqI, RF.seqD, RF.wipeE, RF.restE, Option.getD_some, RF.ix_lst0, RF.ix_tup0, RF.ixN_0, RF.ix_lst1, RF.ix_tup1, RF.ixN_1, RF.ix_lst2, RF.ix_tup2, RF.ixN_2, RF.ix_lst3, RF.ix_tup3, RF.ixN_3, RF.ix_lst4, RF.ix_tup4, RF.ixN_4, RF.ix_lst5, RF.ix_tup5, RF.ixN_5, RF.ix_lst6, RF.ix_tup6, RF.ixN_6, RF.ix_lst7, RF.ix_tup7, RF.ixN_7, RF.ix_lst8, RF.ix_tup8, RF.ixN_8, RF.add_int, RF.dSub, RF.dMul, RF.dFdiv, RF.dMod, RF.dPow, RF.eq_int, RF.eq_str, RF.ne_int, RF.ne_str, RF.dLt, RF.le_int, RF.gt_int, RF.ge_int, RF.dIs, RF.dLen, RF.dAbs, RF.dInt, RF.dList, RF.dTup, RF.dAll, RF.dAny, RF.dSum, RF.dMax2, RF.dMin2, RF.truthD, RF.isNon]
    rw [show good1 p b c e = false by cases b <;> first | rfl | cases hbT]
    exact ⟨by trivial, by trivial⟩
  obtain ⟨bs, rfl⟩ : ∃ bs, b = .tup bs := by
    cases b with
    | tup bs => exact ⟨bs, rfl⟩
    | _ => cases hbT
  have hbm := sm_mem hb
  have hbl := sm_len hb bs rfl
  simp -dsimp -implicitDefEqProofs only [RF.w_seq, RF.w_if, RF.w_asg, RF.w_ret, RF.w_drop, RF.w_nx, RF.w_run, RF.w_C, RF.w_var, RF.w_mv, RF.w_D, RF.w_V, RF.w_ev, RF.w_lv, RF.w_op, RF.w_T, RF.w_B, RF.w_notT, RF.w_andT, RF.w_orT, RF.w_andV, RF.w_orV, RF.w_not, RF.w_neg, RF.w_CB, RF.w_pre0, RF.w_pre, RF.w_isi, RF.w_evs0, RF.w_evs, RF.w_tup, RF.w_lst, RF.w_part0, RF.w_part, RF.w_sl, RF.w_call, RF.w_call0, RF.w_app, RF.w_ext, RF.w_ins, RF.w_pop, RF.w_setI, RF.w_aug, RF.w_asgT, RF.w_for, RF.w_for0, RF.w_for1, RF.w_it, RF.w_enum, RF.w_rng1, RF.w_rng2, RF.w_lc, RF.w_lc0, RF.w_lc1, RF.w_chain, RF.w_lam, RF.w_bnd, RF.oK_some, RF.oK_none, RF.oK_ite, RF.ifK_true, RF.ifK_false, RF.ifK_not, RF.seqK_nx, RF.seqK_bk, RF.seqK_ct, RF.seqK_rt, RF.stO_un, RF.stO_va, RF.stO_ow, RF.retK_rt, RF.retK_nx, RF.back_nil, RF.back_ow, RF.back_va, RF.varK_va, RF.varK_ow, RF.toD_lst, RF.toD_dct, RF.mvK_va, RF.mvK_ow, RF.rvK_va, RF.rvK_ow, RF.rdS_va, RF.rdS_ow, RF.fin_ev, RF.fin_lv, RF.ap2_some, RF.blK_bl, RF.negD, RF.cons2_some, RF.finL_nil, RF.finL_cons, RF.intK_int, RF.mkA_nil, RF.mkA_ev, RF.mkS_ow, RF.mkA_lv, RF.putA_nil, RF.putA_ev, RF.putS_ow, RF.putA_lv, RF.owS_ow, RF.vaS_va, RF.tgN_eq, RF.tgO_un, RF.tgO_va, RF.tgO_ow, RF.tgT_tup, RF.tgL_nil, RF.tgL_cons, RF.forK_nx, RF.forK_ct, RF.forK_bk, RF.forK_rt, RF.asV, Option.map_some, Option.map_none, Option.bind_some, Option.bind_none, Option.some.injEq, List.getElem?_cons_zero, List.getElem?_cons_succ, List.set_cons_zero, List.set_cons_succ, List.length_cons, List.length_nil, List.cons_append, List.nil_append, List.replicate_succ, List.replicate_zero, Nat.reduceAdd, Nat.reduceSub, Nat.add_zero, Nat.zero_add, Nat.sub_self, RF.seqI, RF.seqD, RF.wipeE, RF.restE, Option.getD_some, RF.ix_lst0, RF.ix_tup0, RF.ixN_0, RF.ix_lst1, RF.ix_tup1, RF.ixN_1, RF.ix_lst2, RF.ix_tup2, RF.ixN_2, RF.ix_lst3, RF.ix_tup3, RF.ixN_3, RF.ix_lst4, RF.ix_tup4, RF.ixN_4, RF.ix_lst5, RF.ix_tup5, RF.ixN_5, RF.ix_lst6, RF.ix_tup6, RF.ixN_6, RF.ix_lst7, RF.ix_tup7, RF.ixN_7, RF.ix_lst8, RF.ix_tup8, RF.ixN_8, RF.add_int, RF.dSub, RF.dMul, RF.dFdiv, RF.dMod, RF.dPow, RF.eq_int, RF.eq_str, RF.ne_int, RF.ne_str, RF.dLt, RF.le_int, RF.gt_int, RF.ge_int, RF.dIs, RF.dLen, RF.dAbs, RF.dInt, RF.dList, RF.dTup, RF.dAll, RF.dAny, RF.dSum, RF.dMax2, RF.dMin2, RF.truthD, RF.isNon, pd1, List.length_map]
  cases h5 : ((bs.length : Int) == (p.items.length : Int))
  · simp -dsimp -implicitDefEqProofs only [RF.w_seq, RF.w_if, RF.w_asg, RF.w_ret, RF.w_drop, RF.w_nx, RF.w_run, RF.w_C, RF.w_var, RF.w_mv, RF.w_D, RF.w_V, RF.w_ev, RF.w_lv, RF.w_op, RF.w_T, RF.w_B, RF.w_notT, RF.w_andT, RF.w_orT, RF.w_andV, RF.w_orV, RF.w_not, RF.w_neg, RF.w_CB, RF.w_pre0, RF.w_pre, RF.w_isi, RF.w_evs0, RF.w_evs, RF.w_tup, RF.w_lst, RF.w_part0, RF.w_part, RF.w_sl, RF.w_call, RF.w_call0, RF.w_app, RF.w_ext, RF.w_ins, RF.w_pop, RF.w_setI, RF.w_aug, RF.w_asgT, RF.w_for, RF.w_for0, RF.w_for1, RF.w_it, RF.w_enum, RF.w_rng1, RF.w_rng2, RF.w_lc, RF.w_lc0, RF.w_lc1, RF.w_chain, RF.w_lam, RF.w_bnd, RF.oK_some, RF.oK_none, RF.oK_ite, RF.ifK_true, RF.ifK_false, RF.ifK_not, RF.seqK_nx, RF.seqK_bk, RF.seqK_ct, RF.seqK_rt, RF.stO_un, RF.stO_va, RF.stO_ow, RF.retK_rt, RF.retK_nx, RF.back_nil, RF.back_ow, RF.back_va, RF.varK_va, RF.varK_ow, RF.toD_lst, RF.toD_dct, RF.mvK_va, RF.mvK_ow, RF.rvK_va, RF.rvK_ow, RF.rdS_va, RF.rdS_ow, RF.fin_ev, RF.fin_lv, RF.ap2_some, RF.blK_bl, RF.negD, RF.cons2_some, RF.finL_nil, RF.finL_cons, RF.intK_int, RF.mkA_nil, RF.mkA_ev, RF.mkS_ow, RF.mkA_lv, RF.putA_nil, RF.putA_ev, RF.putS_ow, RF.putA_lv, RF.owS_ow, RF.vaS_va, RF.tgN_eq, RF.tgO_un, RF.tgO_va, RF.tgO_ow, RF.tgT_tup, RF.tgL_nil, RF.tgL_cons, RF.forK_nx, RF.forK_ct, RF.forK_bk, RF.forK_rt, RF.asV, Option.map_some, Option.map_none, Option.bind_some, Option.bind_none, Option.some.injEq, List.getElem?_cons_zero, List.getElem?_cons_succ, List.set_cons_zero, List.set_cons_succ, List.length_cons, List.length_nil, List.cons_append, List.nil_append, List.replicate_succ, List.replicate_zero, Nat.reduceAdd, Nat.reduceSub, Nat.add_zero, Nat.zero_add, Nat.sub_self, RF.seqI, RF.seqD, RF.wipeE, RF.restE, Option.getD_some, RF.ix_lst0, RF.ix_tup0, RF.ixN_0, RF.ix_lst1, RF.ix_tup1, RF.ixN_1, RF.ix_lst2, RF.ix_tup2, RF.ixN_2, RF.ix_lst3, RF.ix_tup3, RF.ixN_3, RF.ix_lst4, RF.ix_tup4, RF.ixN_4, RF.ix_lst5, RF.ix_tup5, RF.ixN_5, RF.ix_lst6, RF.ix_tup6, RF.ixN_6, RF.ix_lst7, RF.ix_tup7, RF.ixN_7, RF.ix_lst8, RF.ix_tup8, RF.ixN_8, RF.add_int, RF.dSub, RF.dMul, RF.dFdiv, RF.dMod, RF.dPow, RF.eq_int, RF.eq_str, RF.ne_int, RF.ne_str, RF.dLt, RF.le_int, RF.gt_int, RF.ge_int, RF.dIs, RF.dLen, RF.dAbs, RF.dInt, RF.dList, RF.dTup, RF.dAll, RF.dAny, RF.dSum, RF.dMax2, RF.dMin2, RF.truthD, RF.isNon]
    rw [good1_b (show tn (.tup bs) (p.items.length : Int) = false from h5)]
    exact ⟨by trivial, by trivial⟩
  have h5' : bs.length = p.items.length := by rw [beq_iff_eq] at h5; omega
  simp -dsimp -implicitDefEqProofs only [RF.w_seq, RF.w_if, RF.w_asg, RF.w_ret, RF.w_drop, RF.w_nx, RF.w_run, RF.w_C, RF.w_var, RF.w_mv, RF.w_D, RF.w_V, RF.w_ev, RF.w_lv, RF.w_op, RF.w_T, RF.w_B, RF.w_notT, RF.w_andT, RF.w_orT, RF.w_andV, RF.w_orV, RF.w_not, RF.w_neg, RF.w_CB, RF.w_pre0, RF.w_pre, RF.w_isi, RF.w_evs0, RF.w_evs, RF.w_tup, RF.w_lst, RF.w_part0, RF.w_part, RF.w_sl, RF.w_call, RF.w_call0, RF.w_app, RF.w_ext, RF.w_ins, RF.w_pop, RF.w_setI, RF.w_aug, RF.w_asgT, RF.w_for, RF.w_for0, RF.w_for1, RF.w_it, RF.w_enum, RF.w_rng1, RF.w_rng2, RF.w_lc, RF.w_lc0, RF.w_lc1, RF.w_chain, RF.w_lam, RF.w_bnd, RF.oK_some, RF.oK_none, RF.oK_ite, RF.ifK_true, RF.ifK_false, RF.ifK_not, RF.seqK_nx, RF.seqK_bk, RF.seqK_ct, RF.seqK_rt, RF.stO_un, RF.stO_va, RF.stO_ow, RF.retK_rt, RF.retK_nx, RF.back_nil, RF.back_ow, RF.back_va, RF.varK_va, RF.varK_ow, RF.toD_lst, RF.toD_dct, RF.mvK_va, RF.mvK_ow, RF.rvK_va, RF.rvK_ow, RF.rdS_va, RF.rdS_ow, RF.fin_ev, RF.fin_lv, RF.ap2_some, RF.blK_bl, RF.negD, RF.cons2_some, RF.finL_nil, RF.finL_cons, RF.intK_int, RF.mkA_nil, RF.mkA_ev, RF.mkS_ow, RF.mkA_lv, RF.putA_nil, RF.putA_ev, RF.putS_ow, RF.putA_lv, RF.owS_ow, RF.vaS_va, RF.tgN_eq, RF.tgO_un, RF.tgO_va, RF.tgO_ow, RF.tgT_tup, RF.tgL_nil, RF.tgL_cons, RF.forK_nx, RF.forK_ct, RF.forK_bk, RF.forK_rt, RF.asV, Option.map_some, Option.map_none, Option.bind_some, Option.bind_none, Option.some.injEq, List.getElem?_cons_zero, List.getElem?_cons_succ, List.set_cons_zero, List.set_cons_succ, List.length_cons, List.length_nil, List.cons_append, List.nil_append, List.replicate_succ, List.replicate_zero, Nat.reduceAdd, Nat.reduceSub, Nat.add_zero, Nat.zero_add, Nat.sub_self, RF.seqI, RF.seqD, RF.wipeE, RF.restE, Option.getD_some, RF.ix_lst0, RF.ix_tup0, RF.ixN_0, RF.ix_lst1, RF.ix_tup1, RF.ixN_1, RF.ix_lst2, RF.ix_tup2, RF.ixN_2, RF.ix_lst3, RF.ix_tup3, RF.ixN_3, RF.ix_lst4, RF.ix_tup4, RF.ixN_4, RF.ix_lst5, RF.ix_tup5, RF.ixN_5, RF.ix_lst6, RF.ix_tup6, RF.ixN_6, RF.ix_lst7, RF.ix_tup7, RF.ixN_7, RF.ix_lst8, RF.ix_tup8, RF.ixN_8, RF.add_int, RF.dSub, RF.dMul, RF.dFdiv, RF.dMod, RF.dPow, RF.eq_int, RF.eq_str, RF.ne_int, RF.ne_str, RF.dLt, RF.le_int, RF.gt_int, RF.ge_int, RF.dIs, RF.dLen, RF.dAbs, RF.dInt, RF.dList, RF.dTup, RF.dAll, RF.dAny, RF.dSum, RF.dMax2, RF.dMin2, RF.truthD, RF.isNon]
  refine ⟨inRng_nat (by omega), ?_⟩
  refine wp_forI (rngL 0 bs.length) (fun k r => vals (p.items.take k) (bs.take k) = true ∧ ∃ s5 s6, Pl s5 ∧ Pl s6 ∧ r = [.va (.tup (ps.map pD)), .va (.tup [.str s, .tup bs, c, e]), .ow false (.lst (pD p :: rest.map pD)), .un, .va (.int ((p.items.take k).filter (·.1)).length), s5, s6, .un]) ?_ ?_ _ ⟨rfl, _, _, .un, .un, rfl⟩
  · rintro k d r hk ⟨hv, s5, s6, p5, p6, rfl⟩
    obtain ⟨l3, rfl⟩ := rngL_get hk
    have l4 : k < p.items.length := by omega
    have hbk := hbm _ (List.getElem_mem l3)
    refine ⟨[.va (.tup (ps.map pD)), .va (.tup [.str s, .tup bs, c, e]), .ow false (.lst (pD p :: rest.map pD)), .un, .va (.int ((p.items.take k).filter (·.1)).length), .va (.int k), s6, .un], ?_, ?_⟩
    · simp -dsimp -implicitDefEqProofs only [RF.w_seq, RF.w_if, RF.w_asg, RF.w_ret, RF.w_drop, RF.w_nx, RF.w_run, RF.w_C, RF.w_var, RF.w_mv, RF.w_D, RF.w_V, RF.w_ev, RF.w_lv, RF.w_op, RF.w_T, RF.w_B, RF.w_notT, RF.w_andT, RF.w_orT, RF.w_andV, RF.w_orV, RF.w_not, RF.w_neg, RF.w_CB, RF.w_pre0, RF.w_pre, RF.w_isi, RF.w_evs0, RF.w_evs, RF.w_tup, RF.w_lst, RF.w_part0, RF.w_part, RF.w_sl, RF.w_call, RF.w_call0, RF.w_app, RF.w_ext, RF.w_ins, RF.w_pop, RF.w_setI, RF.w_aug, RF.w_asgT, RF.w_for, RF.w_for0, RF.w_for1, RF.w_it, RF.w_enum, RF.w_rng1, RF.w_rng2, RF.w_lc, RF.w_lc0, RF.w_lc1, RF.w_chain, RF.w_lam, RF.w_bnd, RF.oK_some, RF.oK_none, RF.oK_ite, RF.ifK_true, RF.ifK_false, RF.ifK_not, RF.seqK_nx, RF.seqK_bk, RF.seqK_ct, RF.seqK_rt, RF.stO_un, RF.stO_va, RF.stO_ow, RF.retK_rt, RF.retK_nx, RF.back_nil, RF.back_ow, RF.back_va, RF.varK_va, RF.varK_ow, RF.toD_lst, RF.toD_dct, RF.mvK_va, RF.mvK_ow, RF.rvK_va, RF.rvK_ow, RF.rdS_va, RF.rdS_ow, RF.fin_ev, RF.fin_lv, RF.ap2_some, RF.blK_bl, RF.negD, RF.cons2_some, RF.finL_nil, RF.finL_cons, RF.intK_int, RF.mkA_nil, RF.mkA_ev, RF.mkS_ow, RF.mkA_lv, RF.putA_nil, RF.putA_ev, RF.putS_ow, RF.putA_lv, RF.owS_ow, RF.vaS_va, RF.tgN_eq, RF.tgO_un, RF.tgO_va, RF.tgO_ow, RF.tgT_tup, RF.tgL_nil, RF.tgL_cons, RF.forK_nx, RF.forK_ct, RF.forK_bk, RF.forK_rt, RF.asV, Option.map_some, Option.map_none, Option.bind_some, Option.bind_none, Option.some.injEq, List.getElem?_cons_zero, List.getElem?_cons_succ, List.set_cons_zero, List.set_cons_succ, List.length_cons, List.length_nil, List.cons_append, List.nil_append, List.replicate_succ, List.replicate_zero, Nat.reduceAdd, Nat.reduceSub, Nat.add_zero, Nat.zero_add, Nat.sub_self, RF.seqI, RF.seqD, RF.wipeE, RF.restE, Option.getD_some, RF.ix_lst0, RF.ix_tup0, RF.ixN_0, RF.ix_lst1, RF.ix_tup1, RF.ixN_1, RF.ix_lst2, RF.ix_tup2, RF.ixN_2, RF.ix_lst3, RF.ix_tup3, RF.ixN_3, RF.ix_lst4, RF.ix_tup4, RF.ixN_4, RF.ix_lst5, RF.ix_tup5, RF.ixN_5, RF.ix_lst6, RF.ix_tup6, RF.ixN_6, RF.ix_lst7, RF.ix_tup7, RF.ixN_7, RF.ix_lst8, RF.ix_tup8, RF.ixN_8, RF.add_int, RF.dSub, RF.dMul, RF.dFdiv, RF.dMod, RF.dPow, RF.eq_int, RF.eq_str, RF.ne_int, RF.ne_str, RF.dLt, RF.le_int, RF.gt_int, RF.ge_int, RF.dIs, RF.dLen, RF.dAbs, RF.dInt, RF.dList, RF.dTup, RF.dAll, RF.dAny, RF.dSum, RF.dMax2, RF.dMin2, RF.truthD, RF.isNon, p5.tg]
    simp -dsimp -implicitDefEqProofs only [RF.w_seq, RF.w_if, RF.w_asg, RF.w_ret, RF.w_drop, RF.w_nx, RF.w_run, RF.w_C, RF.w_var, RF.w_mv, RF.w_D, RF.w_V, RF.w_ev, RF.w_lv, RF.w_op, RF.w_T, RF.w_B, RF.w_notT, RF.w_andT, RF.w_orT, RF.w_andV, RF.w_orV, RF.w_not, RF.w_neg, RF.w_CB, RF.w_pre0, RF.w_pre, RF.w_isi, RF.w_evs0, RF.w_evs, RF.w_tup, RF.w_lst, RF.w_part0, RF.w_part, RF.w_sl, RF.w_call, RF.w_call0, RF.w_app, RF.w_ext, RF.w_ins, RF.w_pop, RF.w_setI, RF.w_aug, RF.w_asgT, RF.w_for, RF.w_for0, RF.w_for1, RF.w_it, RF.w_enum, RF.w_rng1, RF.w_rng2, RF.w_lc, RF.w_lc0, RF.w_lc1, RF.w_chain, RF.w_lam, RF.w_bnd, RF.oK_some, RF.oK_none, RF.oK_ite, RF.ifK_true, RF.ifK_false, RF.ifK_not, RF.seqK_nx, RF.seqK_bk, RF.seqK_ct, RF.seqK_rt, RF.stO_un, RF.stO_va, RF.stO_ow, RF.retK_rt, RF.retK_nx, RF.back_nil, RF.back_ow, RF.back_va, RF.varK_va, RF.varK_ow, RF.toD_lst, RF.toD_dct, RF.mvK_va, RF.mvK_ow, RF.rvK_va, RF.rvK_ow, RF.rdS_va, RF.rdS_ow, RF.fin_ev, RF.fin_lv, RF.ap2_some, RF.blK_bl, RF.negD, RF.cons2_some, RF.finL_nil, RF.finL_cons, RF.intK_int, RF.mkA_nil, RF.mkA_ev, RF.mkS_ow, RF.mkA_lv, RF.putA_nil, RF.putA_ev, RF.putS_ow, RF.putA_lv, RF.owS_ow, RF.vaS_va, RF.tgN_eq, RF.tgO_un, RF.tgO_va, RF.tgO_ow, RF.tgT_tup, RF.tgL_nil, RF.tgL_cons, RF.forK_nx, RF.forK_ct, RF.forK_bk, RF.forK_rt, RF.asV, Option.map_some, Option.map_none, Option.bind_some, Option.bind_none, Option.some.injEq, List.getElem?_cons_zero, List.getElem?_cons_succ, List.set_cons_zero, List.set_cons_succ, List.length_cons, List.length_nil, List.cons_append, List.nil_append, List.replicate_succ, List.replicate_zero, Nat.reduceAdd, Nat.reduceSub, Nat.add_zero, Nat.zero_add, Nat.sub_self, RF.seqI, RF.seqD, RF.wipeE, RF.restE, Option.getD_some, RF.ix_lst0, RF.ix_tup0, RF.ixN_0, RF.ix_lst1, RF.ix_tup1, RF.ixN_1, RF.ix_lst2, RF.ix_tup2, RF.ixN_2, RF.ix_lst3, RF.ix_tup3, RF.ixN_3, RF.ix_lst4, RF.ix_tup4, RF.ixN_4, RF.ix_lst5, RF.ix_tup5, RF.ixN_5, RF.ix_lst6, RF.ix_tup6, RF.ixN_6, RF.ix_lst7, RF.ix_tup7, RF.ixN_7, RF.ix_lst8, RF.ix_tup8, RF.ixN_8, RF.add_int, RF.dSub, RF.dMul, RF.dFdiv, RF.dMod, RF.dPow, RF.eq_int, RF.eq_str, RF.ne_int, RF.ne_str, RF.dLt, RF.le_int, RF.gt_int, RF.ge_int, RF.dIs, RF.dLen, RF.dAbs, RF.dInt, RF.dList, RF.dTup, RF.dAll, RF.dAny, RF.dSum, RF.dMax2, RF.dMin2, RF.truthD, RF.isNon, ix_tN l3, p6.st, pd1, ix_items l4, id0, kD_int]
    have hvs := vals_step hv l4 l3
    have hfs := filter_step l4
    cases hkk : p.items[k].1
    · simp -dsimp -implicitDefEqProofs only [RF.w_seq, RF.w_if, RF.w_asg, RF.w_ret, RF.w_drop, RF.w_nx, RF.w_run, RF.w_C, RF.w_var, RF.w_mv, RF.w_D, RF.w_V, RF.w_ev, RF.w_lv, RF.w_op, RF.w_T, RF.w_B, RF.w_notT, RF.w_andT, RF.w_orT, RF.w_andV, RF.w_orV, RF.w_not, RF.w_neg, RF.w_CB, RF.w_pre0, RF.w_pre, RF.w_isi, RF.w_evs0, RF.w_evs, RF.w_tup, RF.w_lst, RF.w_part0, RF.w_part, RF.w_sl, RF.w_call, RF.w_call0, RF.w_app, RF.w_ext, RF.w_ins, RF.w_pop, RF.w_setI, RF.w_aug, RF.w_asgT, RF.w_for, RF.w_for0, RF.w_for1, RF.w_it, RF.w_enum, RF.w_rng1, RF.w_rng2, RF.w_lc, RF.w_lc0, RF.w_lc1, RF.w_chain, RF.w_lam, RF.w_bnd, RF.oK_some, RF.oK_none, RF.oK_ite, RF.ifK_true, RF.ifK_false, RF.ifK_not, RF.seqK_nx, RF.seqK_bk, RF.seqK_ct, RF.seqK_rt, RF.stO_un, RF.stO_va, RF.stO_ow, RF.retK_rt, RF.retK_nx, RF.back_nil, RF.back_ow, RF.back_va, RF.varK_va, RF.varK_ow, RF.toD_lst, RF.toD_dct, RF.mvK_va, RF.mvK_ow, RF.rvK_va, RF.rvK_ow, RF.rdS_va, RF.rdS_ow, RF.fin_ev, RF.fin_lv, RF.ap2_some, RF.blK_bl, RF.negD, RF.cons2_some, RF.finL_nil, RF.finL_cons, RF.intK_int, RF.mkA_nil, RF.mkA_ev, RF.mkS_ow, RF.mkA_lv, RF.putA_nil, RF.putA_ev, RF.putS_ow, RF.putA_lv, RF.owS_ow, RF.vaS_va, RF.tgN_eq, RF.tgO_un, RF.tgO_va, RF.tgO_ow, RF.tgT_tup, RF.tgL_nil, RF.tgL_cons, RF.forK_nx, RF.forK_ct, RF.forK_bk, RF.forK_rt, RF.asV, Option.map_some, Option.map_none, Option.bind_some, Option.bind_none, Option.some.injEq, List.getElem?_cons_zero, List.getElem?_cons_succ, List.set_cons_zero, List.set_cons_succ, List.length_cons, List.length_nil, List.cons_append, List.nil_append, List.replicate_succ, List.replicate_zero, Nat.reduceAdd, Nat.reduceSub, Nat.add_zero, Nat.zero_add, Nat.sub_self, RF.seqI, RF.seqD, RF.wipeE, RF.restE, Option.getD_some, RF.ix_lst0, RF.ix_tup0, RF.ixN_0, RF.ix_lst1, RF.ix_tup1, RF.ixN_1, RF.ix_lst2, RF.ix_tup2, RF.ixN_2, RF.ix_lst3, RF.ix_tup3, RF.ixN_3, RF.ix_lst4, RF.ix_tup4, RF.ixN_4, RF.ix_lst5, RF.ix_tup5, RF.ixN_5, RF.ix_lst6, RF.ix_tup6, RF.ixN_6, RF.ix_lst7, RF.ix_tup7, RF.ixN_7, RF.ix_lst8, RF.ix_tup8, RF.ixN_8, RF.add_int, RF.dSub, RF.dMul, RF.dFdiv, RF.dMod, RF.dPow, RF.eq_int, RF.eq_str, RF.ne_int, RF.ne_str, RF.dLt, RF.le_int, RF.gt_int, RF.ge_int, RF.dIs, RF.dLen, RF.dAbs, RF.dInt, RF.dList, RF.dTup, RF.dAll, RF.dAny, RF.dSum, RF.dMax2, RF.dMin2, RF.truthD, RF.isNon, wp_of (f_lint bs[k])]
      cases hN : isN bs[k]
      · simp -dsimp -implicitDefEqProofs only [RF.w_seq, RF.w_if, RF.w_asg, RF.w_ret, RF.w_drop, RF.w_nx, RF.w_run, RF.w_C, RF.w_var, RF.w_mv, RF.w_D, RF.w_V, RF.w_ev, RF.w_lv, RF.w_op, RF.w_T, RF.w_B, RF.w_notT, RF.w_andT, RF.w_orT, RF.w_andV, RF.w_orV, RF.w_not, RF.w_neg, RF.w_CB, RF.w_pre0, RF.w_pre, RF.w_isi, RF.w_evs0, RF.w_evs, RF.w_tup, RF.w_lst, RF.w_part0, RF.w_part, RF.w_sl, RF.w_call, RF.w_call0, RF.w_app, RF.w_ext, RF.w_ins, RF.w_pop, RF.w_setI, RF.w_aug, RF.w_asgT, RF.w_for, RF.w_for0, RF.w_for1, RF.w_it, RF.w_enum, RF.w_rng1, RF.w_rng2, RF.w_lc, RF.w_lc0, RF.w_lc1, RF.w_chain, RF.w_lam, RF.w_bnd, RF.oK_some, RF.oK_none, RF.oK_ite, RF.ifK_true, RF.ifK_false, RF.ifK_not, RF.seqK_nx, RF.seqK_bk, RF.seqK_ct, RF.seqK_rt, RF.stO_un, RF.stO_va, RF.stO_ow, RF.retK_rt, RF.retK_nx, RF.back_nil, RF.back_ow, RF.back_va, RF.varK_va, RF.varK_ow, RF.toD_lst, RF.toD_dct, RF.mvK_va, RF.mvK_ow, RF.rvK_va, RF.rvK_ow, RF.rdS_va, RF.rdS_ow, RF.fin_ev, RF.fin_lv, RF.ap2_some, RF.blK_bl, RF.negD, RF.cons2_some, RF.finL_nil, RF.finL_cons, RF.intK_int, RF.mkA_nil, RF.mkA_ev, RF.mkS_ow, RF.mkA_lv, RF.putA_nil, RF.putA_ev, RF.putS_ow, RF.putA_lv, RF.owS_ow, RF.vaS_va, RF.tgN_eq, RF.tgO_un, RF.tgO_va, RF.tgO_ow, RF.tgT_tup, RF.tgL_nil, RF.tgL_cons, RF.forK_nx, RF.forK_ct, RF.forK_bk, RF.forK_rt, RF.asV, Option.map_some, Option.map_none, Option.bind_some, Option.bind_none, Option.some.injEq, List.getElem?_cons_zero, List.getElem?_cons_succ, List.set_cons_zero, List.set_cons_succ, List.length_cons, List.length_nil, List.cons_append, List.nil_append, List.replicate_succ, List.replicate_zero, Nat.reduceAdd, Nat.reduceSub, Nat.add_zero, Nat.zero_add, Nat.sub_self, RF.seqI, RF.seqD, RF.wipeE, RF.restE, Option.getD_some, RF.ix_lst0, RF.ix_tup0, RF.ixN_0, RF.ix_lst1, RF.ix_tup1, RF.ixN_1, RF.ix_lst2, RF.ix_tup2, RF.ixN_2, RF.ix_lst3, RF.ix_tup3, RF.ixN_3, RF.ix_lst4, RF.ix_tup4, RF.ixN_4, RF.ix_lst5, RF.ix_tup5, RF.ixN_5, RF.ix_lst6, RF.ix_tup6, RF.ixN_6, RF.ix_lst7, RF.ix_tup7, RF.ixN_7, RF.ix_lst8, RF.ix_tup8, RF.ixN_8, RF.add_int, RF.dSub, RF.dMul, RF.dFdiv, RF.dMod, RF.dPow, RF.eq_int, RF.eq_str, RF.ne_int, RF.ne_str, RF.dLt, RF.le_int, RF.gt_int, RF.ge_int, RF.dIs, RF.dLen, RF.dAbs, RF.dInt, RF.dList, RF.dTup, RF.dAll, RF.dAny, RF.dSum, RF.dMax2, RF.dMin2, RF.truthD, RF.isNon]
        rw [show good1 p (.tup bs) c e = false from good1_v (vals_bad l4 l3 (by rw [hkk]; exact hN))]
        exact ⟨by trivial, by trivial⟩
      · simp -dsimp -implicitDefEqProofs only [RF.w_seq, RF.w_if, RF.w_asg, RF.w_ret, RF.w_drop, RF.w_nx, RF.w_run, RF.w_C, RF.w_var, RF.w_mv, RF.w_D, RF.w_V, RF.w_ev, RF.w_lv, RF.w_op, RF.w_T, RF.w_B, RF.w_notT, RF.w_andT, RF.w_orT, RF.w_andV, RF.w_orV, RF.w_not, RF.w_neg, RF.w_CB, RF.w_pre0, RF.w_pre, RF.w_isi, RF.w_evs0, RF.w_evs, RF.w_tup, RF.w_lst, RF.w_part0, RF.w_part, RF.w_sl, RF.w_call, RF.w_call0, RF.w_app, RF.w_ext, RF.w_ins, RF.w_pop, RF.w_setI, RF.w_aug, RF.w_asgT, RF.w_for, RF.w_for0, RF.w_for1, RF.w_it, RF.w_enum, RF.w_rng1, RF.w_rng2, RF.w_lc, RF.w_lc0, RF.w_lc1, RF.w_chain, RF.w_lam, RF.w_bnd, RF.oK_some, RF.oK_none, RF.oK_ite, RF.ifK_true, RF.ifK_false, RF.ifK_not, RF.seqK_nx, RF.seqK_bk, RF.seqK_ct, RF.seqK_rt, RF.stO_un, RF.stO_va, RF.stO_ow, RF.retK_rt, RF.retK_nx, RF.back_nil, RF.back_ow, RF.back_va, RF.varK_va, RF.varK_ow, RF.toD_lst, RF.toD_dct, RF.mvK_va, RF.mvK_ow, RF.rvK_va, RF.rvK_ow, RF.rdS_va, RF.rdS_ow, RF.fin_ev, RF.fin_lv, RF.ap2_some, RF.blK_bl, RF.negD, RF.cons2_some, RF.finL_nil, RF.finL_cons, RF.intK_int, RF.mkA_nil, RF.mkA_ev, RF.mkS_ow, RF.mkA_lv, RF.putA_nil, RF.putA_ev, RF.putS_ow, RF.putA_lv, RF.owS_ow, RF.vaS_va, RF.tgN_eq, RF.tgO_un, RF.tgO_va, RF.tgO_ow, RF.tgT_tup, RF.tgL_nil, RF.tgL_cons, RF.forK_nx, RF.forK_ct, RF.forK_bk, RF.forK_rt, RF.asV, Option.map_some, Option.map_none, Option.bind_some, Option.bind_none, Option.some.injEq, List.getElem?_cons_zero, List.getElem?_cons_succ, List.set_cons_zero, List.set_cons_succ, List.length_cons, List.length_nil, List.cons_append, List.nil_append, List.replicate_succ, List.replicate_zero, Nat.reduceAdd, Nat.reduceSub, Nat.add_zero, Nat.zero_add, Nat.sub_self, RF.seqI, RF.seqD, RF.wipeE, RF.restE, Option.getD_some, RF.ix_lst0, RF.ix_tup0, RF.ixN_0, RF.ix_lst1, RF.ix_tup1, RF.ixN_1, RF.ix_lst2, RF.ix_tup2, RF.ixN_2, RF.ix_lst3, RF.ix_tup3, RF.ixN_3, RF.ix_lst4, RF.ix_tup4, RF.ixN_4, RF.ix_lst5, RF.ix_tup5, RF.ixN_5, RF.ix_lst6, RF.ix_tup6, RF.ixN_6, RF.ix_lst7, RF.ix_tup7, RF.ixN_7, RF.ix_lst8, RF.ix_tup8, RF.ixN_8, RF.add_int, RF.dSub, RF.dMul, RF.dFdiv, RF.dMod, RF.dPow, RF.eq_int, RF.eq_str, RF.ne_int, RF.ne_str, RF.dLt, RF.le_int, RF.gt_int, RF.ge_int, RF.dIs, RF.dLen, RF.dAbs, RF.dInt, RF.dList, RF.dTup, RF.dAll, RF.dAny, RF.dSum, RF.dMax2, RF.dMin2, RF.truthD, RF.isNon]
        refine ⟨by rw [hvs, hkk]; exact hN, .va (.int k), .va bs[k], .va, .va, ?_⟩
        simp [hfs, hkk]
    · simp -dsimp -implicitDefEqProofs only [RF.w_seq, RF.w_if, RF.w_asg, RF.w_ret, RF.w_drop, RF.w_nx, RF.w_run, RF.w_C, RF.w_var, RF.w_mv, RF.w_D, RF.w_V, RF.w_ev, RF.w_lv, RF.w_op, RF.w_T, RF.w_B, RF.w_notT, RF.w_andT, RF.w_orT, RF.w_andV, RF.w_orV, RF.w_not, RF.w_neg, RF.w_CB, RF.w_pre0, RF.w_pre, RF.w_isi, RF.w_evs0, RF.w_evs, RF.w_tup, RF.w_lst, RF.w_part0, RF.w_part, RF.w_sl, RF.w_call, RF.w_call0, RF.w_app, RF.w_ext, RF.w_ins, RF.w_pop, RF.w_setI, RF.w_aug, RF.w_asgT, RF.w_for, RF.w_for0, RF.w_for1, RF.w_it, RF.w_enum, RF.w_rng1, RF.w_rng2, RF.w_lc, RF.w_lc0, RF.w_lc1, RF.w_chain, RF.w_lam, RF.w_bnd, RF.oK_some, RF.oK_none, RF.oK_ite, RF.ifK_true, RF.ifK_false, RF.ifK_not, RF.seqK_nx, RF.seqK_bk, RF.seqK_ct, RF.seqK_rt, RF.stO_un, RF.stO_va, RF.stO_ow, RF.retK_rt, RF.retK_nx, RF.back_nil, RF.back_ow, RF.back_va, RF.varK_va, RF.varK_ow, RF.toD_lst, RF.toD_dct, RF.mvK_va, RF.mvK_ow, RF.rvK_va, RF.rvK_ow, RF.rdS_va, RF.rdS_ow, RF.fin_ev, RF.fin_lv, RF.ap2_some, RF.blK_bl, RF.negD, RF.cons2_some, RF.finL_nil, RF.finL_cons, RF.intK_int, RF.mkA_nil, RF.mkA_ev, RF.mkS_ow, RF.mkA_lv, RF.putA_nil, RF.putA_ev, RF.putS_ow, RF.putA_lv, RF.owS_ow, RF.vaS_va, RF.tgN_eq, RF.tgO_un, RF.tgO_va, RF.tgO_ow, RF.tgT_tup, RF.tgL_nil, RF.tgL_cons, RF.forK_nx, RF.forK_ct, RF.forK_bk, RF.forK_rt, RF.asV, Option.map_some, Option.map_none, Option.bind_some, Option.bind_none, Option.some.injEq, List.getElem?_cons_zero, List.getElem?_cons_succ, List.set_cons_zero, List.set_cons_succ, List.length_cons, List.length_nil, List.cons_append, List.nil_append, List.replicate_succ, List.replicate_zero, Nat.reduceAdd, Nat.reduceSub, Nat.add_zero, Nat.zero_add, Nat.sub_self, RF.seqI, RF.seqD, RF.wipeE, RF.restE, Option.getD_some, RF.ix_lst0, RF.ix_tup0, RF.ixN_0, RF.ix_lst1, RF.ix_tup1, RF.ixN_1, RF.ix_lst2, RF.ix_tup2, RF.ixN_2, RF.ix_lst3, RF.ix_tup3, RF.ixN_3, RF.ix_lst4, RF.ix_tup4, RF.ixN_4, RF.ix_lst5, RF.ix_tup5, RF.ixN_5, RF.ix_lst6, RF.ix_tup6, RF.ixN_6, RF.ix_lst7, RF.ix_tup7, RF.ixN_7, RF.ix_lst8, RF.ix_tup8, RF.ixN_8, RF.add_int, RF.dSub, RF.dMul, RF.dFdiv, RF.dMod, RF.dPow, RF.eq_int, RF.eq_str, RF.ne_int, RF.ne_str, RF.dLt, RF.le_int, RF.gt_int, RF.ge_int, RF.dIs, RF.dLen, RF.dAbs, RF.dInt, RF.dList, RF.dTup, RF.dAll, RF.dAny, RF.dSum, RF.dMax2, RF.dMin2, RF.truthD, RF.isNon, isi_t]
      cases hT : isT bs[k]
      · simp -dsimp -implicitDefEqProofs only [RF.w_seq, RF.w_if, RF.w_asg, RF.w_ret, RF.w_drop, RF.w_nx, RF.w_run, RF.w_C, RF.w_var, RF.w_mv, RF.w_D, RF.w_V, RF.w_ev, RF.w_lv, RF.w_op, RF.w_T, RF.w_B, RF.w_notT, RF.w_andT, RF.w_orT, RF.w_andV, RF.w_orV, RF.w_not, RF.w_neg, RF.w_CB, RF.w_pre0, RF.w_pre, RF.w_isi, RF.w_evs0, RF.w_evs, RF.w_tup, RF.w_lst, RF.w_part0, RF.w_part, RF.w_sl, RF.w_call, RF.w_call0, RF.w_app, RF.w_ext, RF.w_ins, RF.w_pop, RF.w_setI, RF.w_aug, RF.w_asgT, RF.w_for, RF.w_for0, RF.w_for1, RF.w_it, RF.w_enum, RF.w_rng1, RF.w_rng2, RF.w_lc, RF.w_lc0, RF.w_lc1, RF.w_chain, RF.w_lam, RF.w_bnd, RF.oK_some, RF.oK_none, RF.oK_ite, RF.ifK_true, RF.ifK_false, RF.ifK_not, RF.seqK_nx, RF.seqK_bk, RF.seqK_ct, RF.seqK_rt, RF.stO_un, RF.stO_va, RF.stO_ow, RF.retK_rt, RF.retK_nx, RF.back_nil, RF.back_ow, RF.back_va, RF.varK_va, RF.varK_ow, RF.toD_lst, RF.toD_dct, RF.mvK_va, RF.mvK_ow, RF.rvK_va, RF.rvK_ow, RF.rdS_va, RF.rdS_ow, RF.fin_ev, RF.fin_lv, RF.ap2_some, RF.blK_bl, RF.negD, RF.cons2_some, RF.finL_nil, RF.finL_cons, RF.intK_int, RF.mkA_nil, RF.mkA_ev, RF.mkS_ow, RF.mkA_lv, RF.putA_nil, RF.putA_ev, RF.putS_ow, RF.putA_lv, RF.owS_ow, RF.vaS_va, RF.tgN_eq, RF.tgO_un, RF.tgO_va, RF.tgO_ow, RF.tgT_tup, RF.tgL_nil, RF.tgL_cons, RF.forK_nx, RF.forK_ct, RF.forK_bk, RF.forK_rt, RF.asV, Option.map_some, Option.map_none, Option.bind_some, Option.bind_none, Option.some.injEq, List.getElem?_cons_zero, List.getElem?_cons_succ, List.set_cons_zero, List.set_cons_succ, List.length_cons, List.length_nil, List.cons_append, List.nil_append, List.replicate_succ, List.replicate_zero, Nat.reduceAdd, Nat.reduceSub, Nat.add_zero, Nat.zero_add, Nat.sub_self, RF.seqI, RF.seqD, RF.wipeE, RF.restE, Option.getD_some, RF.ix_lst0, RF.ix_tup0, RF.ixN_0, RF.ix_lst1, RF.ix_tup1, RF.ixN_1, RF.ix_lst2, RF.ix_tup2, RF.ixN_2, RF.ix_lst3, RF.ix_tup3, RF.ixN_3, RF.ix_lst4, RF.ix_tup4, RF.ixN_4, RF.ix_lst5, RF.ix_tup5, RF.ixN_5, RF.ix_lst6, RF.ix_tup6, RF.ixN_6, RF.ix_lst7, RF.ix_tup7, RF.ixN_7, RF.ix_lst8, RF.ix_tup8, RF.ixN_8, RF.add_int, RF.dSub, RF.dMul, RF.dFdiv, RF.dMod, RF.dPow, RF.eq_int, RF.eq_str, RF.ne_int, RF.ne_str, RF.dLt, RF.le_int, RF.gt_int, RF.ge_int, RF.dIs, RF.dLen, RF.dAbs, RF.dInt, RF.dList, RF.dTup, RF.dAll, RF.dAny, RF.dSum, RF.dMax2, RF.dMin2, RF.truthD, RF.isNon]
        rw [show good1 p (.tup bs) c e = false from good1_v (vals_bad l4 l3 (by rw [hkk]; exact tin_not hT))]
        exact ⟨by trivial, by trivial⟩
      obtain ⟨es, he2⟩ : ∃ es, bs[k] = .tup es := by
        cases h : bs[k] with
        | tup es => exact ⟨es, rfl⟩
        | _ => rw [h] at hT; cases hT
      rw [he2] at hbk ⊢
      simp -dsimp -implicitDefEqProofs only [RF.w_seq, RF.w_if, RF.w_asg, RF.w_ret, RF.w_drop, RF.w_nx, RF.w_run, RF.w_C, RF.w_var, RF.w_mv, RF.w_D, RF.w_V, RF.w_ev, RF.w_lv, RF.w_op, RF.w_T, RF.w_B, RF.w_notT, RF.w_andT, RF.w_orT, RF.w_andV, RF.w_orV, RF.w_not, RF.w_neg, RF.w_CB, RF.w_pre0, RF.w_pre, RF.w_isi, RF.w_evs0, RF.w_evs, RF.w_tup, RF.w_lst, RF.w_part0, RF.w_part, RF.w_sl, RF.w_call, RF.w_call0, RF.w_app, RF.w_ext, RF.w_ins, RF.w_pop, RF.w_setI, RF.w_aug, RF.w_asgT, RF.w_for, RF.w_for0, RF.w_for1, RF.w_it, RF.w_enum, RF.w_rng1, RF.w_rng2, RF.w_lc, RF.w_lc0, RF.w_lc1, RF.w_chain, RF.w_lam, RF.w_bnd, RF.oK_some, RF.oK_none, RF.oK_ite, RF.ifK_true, RF.ifK_false, RF.ifK_not, RF.seqK_nx, RF.seqK_bk, RF.seqK_ct, RF.seqK_rt, RF.stO_un, RF.stO_va, RF.stO_ow, RF.retK_rt, RF.retK_nx, RF.back_nil, RF.back_ow, RF.back_va, RF.varK_va, RF.varK_ow, RF.toD_lst, RF.toD_dct, RF.mvK_va, RF.mvK_ow, RF.rvK_va, RF.rvK_ow, RF.rdS_va, RF.rdS_ow, RF.fin_ev, RF.fin_lv, RF.ap2_some, RF.blK_bl, RF.negD, RF.cons2_some, RF.finL_nil, RF.finL_cons, RF.intK_int, RF.mkA_nil, RF.mkA_ev, RF.mkS_ow, RF.mkA_lv, RF.putA_nil, RF.putA_ev, RF.putS_ow, RF.putA_lv, RF.owS_ow, RF.vaS_va, RF.tgN_eq, RF.tgO_un, RF.tgO_va, RF.tgO_ow, RF.tgT_tup, RF.tgL_nil, RF.tgL_cons, RF.forK_nx, RF.forK_ct, RF.forK_bk, RF.forK_rt, RF.asV, Option.map_some, Option.map_none, Option.bind_some, Option.bind_none, Option.some.injEq, List.getElem?_cons_zero, List.getElem?_cons_succ, List.set_cons_zero, List.set_cons_succ, List.length_cons, List.length_nil, List.cons_append, List.nil_append, List.replicate_succ, List.replicate_zero, Nat.reduceAdd, Nat.reduceSub, Nat.add_zero, Nat.zero_add, Nat.sub_self, RF.seqI, RF.seqD, RF.wipeE, RF.restE, Option.getD_some, RF.ix_lst0, RF.ix_tup0, RF.ixN_0, RF.ix_lst1, RF.ix_tup1, RF.ixN_1, RF.ix_lst2, RF.ix_tup2, RF.ixN_2, RF.ix_lst3, RF.ix_tup3, RF.ixN_3, RF.ix_lst4, RF.ix_tup4, RF.ixN_4, RF.ix_lst5, RF.ix_tup5, RF.ixN_5, RF.ix_lst6, RF.ix_tup6, RF.ixN_6, RF.ix_lst7, RF.ix_tup7, RF.ixN_7, RF.ix_lst8, RF.ix_tup8, RF.ixN_8, RF.add_int, RF.dSub, RF.dMul, RF.dFdiv, RF.dMod, RF.dPow, RF.eq_int, RF.eq_str, RF.ne_int, RF.ne_str, RF.dLt, RF.le_int, RF.gt_int, RF.ge_int, RF.dIs, RF.dLen, RF.dAbs, RF.dInt, RF.dList, RF.dTup, RF.dAll, RF.dAny, RF.dSum, RF.dMax2, RF.dMin2, RF.truthD, RF.isNon, wp_of (f_lints (.tup es) (es.length : Int) (sm_len hbk)), tn, beq_self_eq_true, Bool.true_and]
      cases hI : tin (.tup es)
      · simp -dsimp -implicitDefEqProofs only [RF.w_seq, RF.w_if, RF.w_asg, RF.w_ret, RF.w_drop, RF.w_nx, RF.w_run, RF.w_C, RF.w_var, RF.w_mv, RF.w_D, RF.w_V, RF.w_ev, RF.w_lv, RF.w_op, RF.w_T, RF.w_B, RF.w_notT, RF.w_andT, RF.w_orT, RF.w_andV, RF.w_orV, RF.w_not, RF.w_neg, RF.w_CB, RF.w_pre0, RF.w_pre, RF.w_isi, RF.w_evs0, RF.w_evs, RF.w_tup, RF.w_lst, RF.w_part0, RF.w_part, RF.w_sl, RF.w_call, RF.w_call0, RF.w_app, RF.w_ext, RF.w_ins, RF.w_pop, RF.w_setI, RF.w_aug, RF.w_asgT, RF.w_for, RF.w_for0, RF.w_for1, RF.w_it, RF.w_enum, RF.w_rng1, RF.w_rng2, RF.w_lc, RF.w_lc0, RF.w_lc1, RF.w_chain, RF.w_lam, RF.w_bnd, RF.oK_some, RF.oK_none, RF.oK_ite, RF.ifK_true, RF.ifK_false, RF.ifK_not, RF.seqK_nx, RF.seqK_bk, RF.seqK_ct, RF.seqK_rt, RF.stO_un, RF.stO_va, RF.stO_ow, RF.retK_rt, RF.retK_nx, RF.back_nil, RF.back_ow, RF.back_va, RF.varK_va, RF.varK_ow, RF.toD_lst, RF.toD_dct, RF.mvK_va, RF.mvK_ow, RF.rvK_va, RF.rvK_ow, RF.rdS_va, RF.rdS_ow, RF.fin_ev, RF.fin_lv, RF.ap2_some, RF.blK_bl, RF.negD, RF.cons2_some, RF.finL_nil, RF.finL_cons, RF.intK_int, RF.mkA_nil, RF.mkA_ev, RF.mkS_ow, RF.mkA_lv, RF.putA_nil, RF.putA_ev, RF.putS_ow, RF.putA_lv, RF.owS_ow, RF.vaS_va, RF.tgN_eq, RF.tgO_un, RF.tgO_va, RF.tgO_ow, RF.tgT_tup, RF.tgL_nil, RF.tgL_cons, RF.forK_nx, RF.forK_ct, RF.forK_bk, RF.forK_rt, RF.asV, Option.map_some, Option.map_none, Option.bind_some, Option.bind_none, Option.some.injEq, List.getElem?_cons_zero, List.getElem?_cons_succ, List.set_cons_zero, List.set_cons_succ, List.length_cons, List.length_nil, List.cons_append, List.nil_append, List.replicate_succ, List.replicate_zero, Nat.reduceAdd, Nat.reduceSub, Nat.add_zero, Nat.zero_add, Nat.sub_self, RF.seqI, RF.seqD, RF.wipeE, RF.restE, Option.getD_some, RF.ix_lst0, RF.ix_tup0, RF.ixN_0, RF.ix_lst1, RF.ix_tup1, RF.ixN_1, RF.ix_lst2, RF.ix_tup2, RF.ixN_2, RF.ix_lst3, RF.ix_tup3, RF.ixN_3, RF.ix_lst4, RF.ix_tup4, RF.ixN_4, RF.ix_lst5, RF.ix_tup5, RF.ixN_5, RF.ix_lst6, RF.ix_tup6, RF.ixN_6, RF.ix_lst7, RF.ix_tup7, RF.ixN_7, RF.ix_lst8, RF.ix_tup8, RF.ixN_8, RF.add_int, RF.dSub, RF.dMul, RF.dFdiv, RF.dMod, RF.dPow, RF.eq_int, RF.eq_str, RF.ne_int, RF.ne_str, RF.dLt, RF.le_int, RF.gt_int, RF.ge_int, RF.dIs, RF.dLen, RF.dAbs, RF.dInt, RF.dList, RF.dTup, RF.dAll, RF.dAny, RF.dSum, RF.dMax2, RF.dMin2, RF.truthD, RF.isNon]
        rw [show good1 p (.tup bs) c e = false from good1_v (vals_bad l4 l3 (by rw [hkk, he2]; exact hI))]
        exact ⟨by trivial, by trivial⟩
      · simp -dsimp -implicitDefEqProofs only [RF.w_seq, RF.w_if, RF.w_asg, RF.w_ret, RF.w_drop, RF.w_nx, RF.w_run, RF.w_C, RF.w_var, RF.w_mv, RF.w_D, RF.w_V, RF.w_ev, RF.w_lv, RF.w_op, RF.w_T, RF.w_B, RF.w_notT, RF.w_andT, RF.w_orT, RF.w_andV, RF.w_orV, RF.w_not, RF.w_neg, RF.w_CB, RF.w_pre0, RF.w_pre, RF.w_isi, RF.w_evs0, RF.w_evs, RF.w_tup, RF.w_lst, RF.w_part0, RF.w_part, RF.w_sl, RF.w_call, RF.w_call0, RF.w_app, RF.w_ext, RF.w_ins, RF.w_pop, RF.w_setI, RF.w_aug, RF.w_asgT, RF.w_for, RF.w_for0, RF.w_for1, RF.w_it, RF.w_enum, RF.w_rng1, RF.w_rng2, RF.w_lc, RF.w_lc0, RF.w_lc1, RF.w_chain, RF.w_lam, RF.w_bnd, RF.oK_some, RF.oK_none, RF.oK_ite, RF.ifK_true, RF.ifK_false, RF.ifK_not, RF.seqK_nx, RF.seqK_bk, RF.seqK_ct, RF.seqK_rt, RF.stO_un, RF.stO_va, RF.stO_ow, RF.retK_rt, RF.retK_nx, RF.back_nil, RF.back_ow, RF.back_va, RF.varK_va, RF.varK_ow, RF.toD_lst, RF.toD_dct, RF.mvK_va, RF.mvK_ow, RF.rvK_va, RF.rvK_ow, RF.rdS_va, RF.rdS_ow, RF.fin_ev, RF.fin_lv, RF.ap2_some, RF.blK_bl, RF.negD, RF.cons2_some, RF.finL_nil, RF.finL_cons, RF.intK_int, RF.mkA_nil, RF.mkA_ev, RF.mkS_ow, RF.mkA_lv, RF.putA_nil, RF.putA_ev, RF.putS_ow, RF.putA_lv, RF.owS_ow, RF.vaS_va, RF.tgN_eq, RF.tgO_un, RF.tgO_va, RF.tgO_ow, RF.tgT_tup, RF.tgL_nil, RF.tgL_cons, RF.forK_nx, RF.forK_ct, RF.forK_bk, RF.forK_rt, RF.asV, Option.map_some, Option.map_none, Option.bind_some, Option.bind_none, Option.some.injEq, List.getElem?_cons_zero, List.getElem?_cons_succ, List.set_cons_zero, List.set_cons_succ, List.length_cons, List.length_nil, List.cons_append, List.nil_append, List.replicate_succ, List.replicate_zero, Nat.reduceAdd, Nat.reduceSub, Nat.add_zero, Nat.zero_add, Nat.sub_self, RF.seqI, RF.seqD, RF.wipeE, RF.restE, Option.getD_some, RF.ix_lst0, RF.ix_tup0, RF.ixN_0, RF.ix_lst1, RF.ix_tup1, RF.ixN_1, RF.ix_lst2, RF.ix_tup2, RF.ixN_2, RF.ix_lst3, RF.ix_tup3, RF.ixN_3, RF.ix_lst4, RF.ix_tup4, RF.ixN_4, RF.ix_lst5, RF.ix_tup5, RF.ixN_5, RF.ix_lst6, RF.ix_tup6, RF.ixN_6, RF.ix_lst7, RF.ix_tup7, RF.ixN_7, RF.ix_lst8, RF.ix_tup8, RF.ixN_8, RF.add_int, RF.dSub, RF.dMul, RF.dFdiv, RF.dMod, RF.dPow, RF.eq_int, RF.eq_str, RF.ne_int, RF.ne_str, RF.dLt, RF.le_int, RF.gt_int, RF.ge_int, RF.dIs, RF.dLen, RF.dAbs, RF.dInt, RF.dList, RF.dTup, RF.dAll, RF.dAny, RF.dSum, RF.dMax2, RF.dMin2, RF.truthD, RF.isNon]
        refine ⟨by rw [hvs, hkk, he2]; exact hI, .va (.int k), .va (.tup es), .va, .va, ?_⟩
        simp [hfs, hkk]
  · rintro r ⟨hv, s5, s6, p5, p6, rfl⟩
    rw [rngL_len, List.take_of_length_le (Nat.le_refl _)] at hv
    rw [rngL_len]
    rw [List.take_of_length_le (by omega)] at hv ⊢
    simp -dsimp -implicitDefEqProofs only [RF.w_seq, RF.w_if, RF.w_asg, RF.w_ret, RF.w_drop, RF.w_nx, RF.w_run, RF.w_C, RF.w_var, RF.w_mv, RF.w_D, RF.w_V, RF.w_ev, RF.w_lv, RF.w_op, RF.w_T, RF.w_B, RF.w_notT, RF.w_andT, RF.w_orT, RF.w_andV, RF.w_orV, RF.w_not, RF.w_neg, RF.w_CB, RF.w_pre0, RF.w_pre, RF.w_isi, RF.w_evs0, RF.w_evs, RF.w_tup, RF.w_lst, RF.w_part0, RF.w_part, RF.w_sl, RF.w_call, RF.w_call0, RF.w_app, RF.w_ext, RF.w_ins, RF.w_pop, RF.w_setI, RF.w_aug, RF.w_asgT, RF.w_for, RF.w_for0, RF.w_for1, RF.w_it, RF.w_enum, RF.w_rng1, RF.w_rng2, RF.w_lc, RF.w_lc0, RF.w_lc1, RF.w_chain, RF.w_lam, RF.w_bnd, RF.oK_some, RF.oK_none, RF.oK_ite, RF.ifK_true, RF.ifK_false, RF.ifK_not, RF.seqK_nx, RF.seqK_bk, RF.seqK_ct, RF.seqK_rt, RF.stO_un, RF.stO_va, RF.stO_ow, RF.retK_rt, RF.retK_nx, RF.back_nil, RF.back_ow, RF.back_va, RF.varK_va, RF.varK_ow, RF.toD_lst, RF.toD_dct, RF.mvK_va, RF.mvK_ow, RF.rvK_va, RF.rvK_ow, RF.rdS_va, RF.rdS_ow, RF.fin_ev, RF.fin_lv, RF.ap2_some, RF.blK_bl, RF.negD, RF.cons2_some, RF.finL_nil, RF.finL_cons, RF.intK_int, RF.mkA_nil, RF.mkA_ev, RF.mkS_ow, RF.mkA_lv, RF.putA_nil, RF.putA_ev, RF.putS_ow, RF.putA_lv, RF.owS_ow, RF.vaS_va, RF.tgN_eq, RF.tgO_un, RF.tgO_va, RF.tgO_ow, RF.tgT_tup, RF.tgL_nil, RF.tgL_cons, RF.forK_nx, RF.forK_ct, RF.forK_bk, RF.forK_rt, RF.asV, Option.map_some, Option.map_none, Option.bind_some, Option.bind_none, Option.some.injEq, List.getElem?_cons_zero, List.getElem?_cons_succ, List.set_cons_zero, List.set_cons_succ, List.length_cons, List.length_nil, List.cons_append, List.nil_append, List.replicate_succ, List.replicate_zero, Nat.reduceAdd, Nat.reduceSub, Nat.add_zero, Nat.zero_add, Nat.sub_self, RF.seqI, RF.seqD, RF.wipeE, RF.restE, Option.getD_some, RF.ix_lst0, RF.ix_tup0, RF.ixN_0, RF.ix_lst1, RF.ix_tup1, RF.ixN_1, RF.ix_lst2, RF.ix_tup2, RF.ixN_2, RF.ix_lst3, RF.ix_tup3, RF.ixN_3, RF.ix_lst4, RF.ix_tup4, RF.ixN_4, RF.ix_lst5, RF.ix_tup5, RF.ixN_5, RF.ix_lst6, RF.ix_tup6, RF.ixN_6, RF.ix_lst7, RF.ix_tup7, RF.ixN_7, RF.ix_lst8, RF.ix_tup8, RF.ixN_8, RF.add_int, RF.dSub, RF.dMul, RF.dFdiv, RF.dMod, RF.dPow, RF.eq_int, RF.eq_str, RF.ne_int, RF.ne_str, RF.dLt, RF.le_int, RF.gt_int, RF.ge_int, RF.dIs, RF.dLen, RF.dAbs, RF.dInt, RF.dList, RF.dTup, RF.dAll, RF.dAny, RF.dSum, RF.dMax2, RF.dMin2, RF.truthD, RF.isNon, pd2, List.length_map, wp_of (f_lints c _ (sm_len hc))]
    cases h7 : tn c (p.res.length : Int) && tin c
    · simp -dsimp -implicitDefEqProofs only [RF.w_seq, RF.w_if, RF.w_asg, RF.w_ret, RF.w_drop, RF.w_nx, RF.w_run, RF.w_C, RF.w_var, RF.w_mv, RF.w_D, RF.w_V, RF.w_ev, RF.w_lv, RF.w_op, RF.w_T, RF.w_B, RF.w_notT, RF.w_andT, RF.w_orT, RF.w_andV, RF.w_orV, RF.w_not, RF.w_neg, RF.w_CB, RF.w_pre0, RF.w_pre, RF.w_isi, RF.w_evs0, RF.w_evs, RF.w_tup, RF.w_lst, RF.w_part0, RF.w_part, RF.w_sl, RF.w_call, RF.w_call0, RF.w_app, RF.w_ext, RF.w_ins, RF.w_pop, RF.w_setI, RF.w_aug, RF.w_asgT, RF.w_for, RF.w_for0, RF.w_for1, RF.w_it, RF.w_enum, RF.w_rng1, RF.w_rng2, RF.w_lc, RF.w_lc0, RF.w_lc1, RF.w_chain, RF.w_lam, RF.w_bnd, RF.oK_some, RF.oK_none, RF.oK_ite, RF.ifK_true, RF.ifK_false, RF.ifK_not, RF.seqK_nx, RF.seqK_bk, RF.seqK_ct, RF.seqK_rt, RF.stO_un, RF.stO_va, RF.stO_ow, RF.retK_rt, RF.retK_nx, RF.back_nil, RF.back_ow, RF.back_va, RF.varK_va, RF.varK_ow, RF.toD_lst, RF.toD_dct, RF.mvK_va, RF.mvK_ow, RF.rvK_va, RF.rvK_ow, RF.rdS_va, RF.rdS_ow, RF.fin_ev, RF.fin_lv, RF.ap2_some, RF.blK_bl, RF.negD, RF.cons2_some, RF.finL_nil, RF.finL_cons, RF.intK_int, RF.mkA_nil, RF.mkA_ev, RF.mkS_ow, RF.mkA_lv, RF.putA_nil, RF.putA_ev, RF.putS_ow, RF.putA_lv, RF.owS_ow, RF.vaS_va, RF.tgN_eq, RF.tgO_un, RF.tgO_va, RF.tgO_ow, RF.tgT_tup, RF.tgL_nil, RF.tgL_cons, RF.forK_nx, RF.forK_ct, RF.forK_bk, RF.forK_rt, RF.asV, Option.map_some, Option.map_none, Option.bind_some, Option.bind_none, Option.some.injEq, List.getElem?_cons_zero, List.getElem?_cons_succ, List.set_cons_zero, List.set_cons_succ, List.length_cons, List.length_nil, List.cons_append, List.nil_append, List.replicate_succ, List.replicate_zero, Nat.reduceAdd, Nat.reduceSub, Nat.add_zero, Nat.zero_add, Nat.sub_self, RF.seqI, RF.seqD, RF.wipeE, RF.restE, Option.getD_some, RF.ix_lst0, RF.ix_tup0, RF.ixN_0, RF.ix_lst1, RF.ix_tup1, RF.ixN_1, RF.ix_lst2, RF.ix_tup2, RF.ixN_2, RF.ix_lst3, RF.ix_tup3, RF.ixN_3, RF.ix_lst4, RF.ix_tup4, RF.ixN_4, RF.ix_lst5, RF.ix_tup5, RF.ixN_5, RF.ix_lst6, RF.ix_tup6, RF.ixN_6, RF.ix_lst7, RF.ix_tup7, RF.ixN_7, RF.ix_lst8, RF.ix_tup8, RF.ixN_8, RF.add_int, RF.dSub, RF.dMul, RF.dFdiv, RF.dMod, RF.dPow, RF.eq_int, RF.eq_str, RF.ne_int, RF.ne_str, RF.dLt, RF.le_int, RF.gt_int, RF.ge_int, RF.dIs, RF.dLen, RF.dAbs, RF.dInt, RF.dList, RF.dTup, RF.dAll, RF.dAny, RF.dSum, RF.dMax2, RF.dMin2, RF.truthD, RF.isNon]
      rw [show good1 p (.tup bs) c e = false by unfold good1; rw [Bool.and_comm (tin c), h7]; simp]
      exact ⟨by trivial, by trivial⟩
    simp -dsimp -implicitDefEqProofs only [RF.w_seq, RF.w_if, RF.w_asg, RF.w_ret, RF.w_drop, RF.w_nx, RF.w_run, RF.w_C, RF.w_var, RF.w_mv, RF.w_D, RF.w_V, RF.w_ev, RF.w_lv, RF.w_op, RF.w_T, RF.w_B, RF.w_notT, RF.w_andT, RF.w_orT, RF.w_andV, RF.w_orV, RF.w_not, RF.w_neg, RF.w_CB, RF.w_pre0, RF.w_pre, RF.w_isi, RF.w_evs0, RF.w_evs, RF.w_tup, RF.w_lst, RF.w_part0, RF.w_part, RF.w_sl, RF.w_call, RF.w_call0, RF.w_app, RF.w_ext, RF.w_ins, RF.w_pop, RF.w_setI, RF.w_aug, RF.w_asgT, RF.w_for, RF.w_for0, RF.w_for1, RF.w_it, RF.w_enum, RF.w_rng1, RF.w_rng2, RF.w_lc, RF.w_lc0, RF.w_lc1, RF.w_chain, RF.w_lam, RF.w_bnd, RF.oK_some, RF.oK_none, RF.oK_ite, RF.ifK_true, RF.ifK_false, RF.ifK_not, RF.seqK_nx, RF.seqK_bk, RF.seqK_ct, RF.seqK_rt, RF.stO_un, RF.stO_va, RF.stO_ow, RF.retK_rt, RF.retK_nx, RF.back_nil, RF.back_ow, RF.back_va, RF.varK_va, RF.varK_ow, RF.toD_lst, RF.toD_dct, RF.mvK_va, RF.mvK_ow, RF.rvK_va, RF.rvK_ow, RF.rdS_va, RF.rdS_ow, RF.fin_ev, RF.fin_lv, RF.ap2_some, RF.blK_bl, RF.negD, RF.cons2_some, RF.finL_nil, RF.finL_cons, RF.intK_int, RF.mkA_nil, RF.mkA_ev, RF.mkS_ow, RF.mkA_lv, RF.putA_nil, RF.putA_ev, RF.putS_ow, RF.putA_lv, RF.owS_ow, RF.vaS_va, RF.tgN_eq, RF.tgO_un, RF.tgO_va, RF.tgO_ow, RF.tgT_tup, RF.tgL_nil, RF.tgL_cons, RF.forK_nx, RF.forK_ct, RF.forK_bk, RF.forK_rt, RF.asV, Option.map_some, Option.map_none, Option.bind_some, Option.bind_none, Option.some.injEq, List.getElem?_cons_zero, List.getElem?_cons_succ, List.set_cons_zero, List.set_cons_succ, List.length_cons, List.length_nil, List.cons_append, List.nil_append, List.replicate_succ, List.replicate_zero, Nat.reduceAdd, Nat.reduceSub, Nat.add_zero, Nat.zero_add, Nat.sub_self, RF.seqI, RF.seqD, RF.wipeE, RF.restE, Option.getD_some, RF.ix_lst0, RF.ix_tup0, RF.ixN_0, RF.ix_lst1, RF.ix_tup1, RF.ixN_1, RF.ix_lst2, RF.ix_tup2, RF.ixN_2, RF.ix_lst3, RF.ix_tup3, RF.ixN_3, RF.ix_lst4, RF.ix_tup4, RF.ixN_4, RF.ix_lst5, RF.ix_tup5, RF.ixN_5, RF.ix_lst6, RF.ix_tup6, RF.ixN_6, RF.ix_lst7, RF.ix_tup7, RF.ixN_7, RF.ix_lst8, RF.ix_tup8, RF.ixN_8, RF.add_int, RF.dSub, RF.dMul, RF.dFdiv, RF.dMod, RF.dPow, RF.eq_int, RF.eq_str, RF.ne_int, RF.ne_str, RF.dLt, RF.le_int, RF.gt_int, RF.ge_int, RF.dIs, RF.dLen, RF.dAbs, RF.dInt, RF.dList, RF.dTup, RF.dAll, RF.dAny, RF.dSum, RF.dMax2, RF.dMin2, RF.truthD, RF.isNon, isi_t]
    cases hT : isT e
    · simp -dsimp -implicitDefEqProofs only [RF.w_seq, RF.w_if, RF.w_asg, RF.w_ret, RF.w_drop, RF.w_nx, RF.w_run, RF.w_C, RF.w_var, RF.w_mv, RF.w_D, RF.w_V, RF.w_ev, RF.w_lv, RF.w_op, RF.w_T, RF.w_B, RF.w_notT, RF.w_andT, RF.w_orT, RF.w_andV, RF.w_orV, RF.w_not, RF.w_neg, RF.w_CB, RF.w_pre0, RF.w_pre, RF.w_isi, RF.w_evs0, RF.w_evs, RF.w_tup, RF.w_lst, RF.w_part0, RF.w_part, RF.w_sl, RF.w_call, RF.w_call0, RF.w_app, RF.w_ext, RF.w_ins, RF.w_pop, RF.w_setI, RF.w_aug, RF.w_asgT, RF.w_for, RF.w_for0, RF.w_for1, RF.w_it, RF.w_enum, RF.w_rng1, RF.w_rng2, RF.w_lc, RF.w_lc0, RF.w_lc1, RF.w_chain, RF.w_lam, RF.w_bnd, RF.oK_some, RF.oK_none, RF.oK_ite, RF.ifK_true, RF.ifK_false, RF.ifK_not, RF.seqK_nx, RF.seqK_bk, RF.seqK_ct, RF.seqK_rt, RF.stO_un, RF.stO_va, RF.stO_ow, RF.retK_rt, RF.retK_nx, RF.back_nil, RF.back_ow, RF.back_va, RF.varK_va, RF.varK_ow, RF.toD_lst, RF.toD_dct, RF.mvK_va, RF.mvK_ow, RF.rvK_va, RF.rvK_ow, RF.rdS_va, RF.rdS_ow, RF.fin_ev, RF.fin_lv, RF.ap2_some, RF.blK_bl, RF.negD, RF.cons2_some, RF.finL_nil, RF.finL_cons, RF.intK_int, RF.mkA_nil, RF.mkA_ev, RF.mkS_ow, RF.mkA_lv, RF.putA_nil, RF.putA_ev, RF.putS_ow, RF.putA_lv, RF.owS_ow, RF.vaS_va, RF.tgN_eq, RF.tgO_un, RF.tgO_va, RF.tgO_ow, RF.tgT_tup, RF.tgL_nil, RF.tgL_cons, RF.forK_nx, RF.forK_ct, RF.forK_bk, RF.forK_rt, RF.asV, Option.map_some, Option.map_none, Option.bind_some, Option.bind_none, Option.some.injEq, List.getElem?_cons_zero, List.getElem?_cons_succ, List.set_cons_zero, List.set_cons_succ, List.length_cons, List.length_nil, List.cons_append, List.nil_append, List.replicate_succ, List.replicate_zero, Nat.reduceAdd, Nat.reduceSub, Nat.add_zero, Nat.zero_add, Nat.sub_self, RF.seqI, RF.seqD, RF.wipeE, RF.restE, Option.getD_some, RF.ix_lst0, RF.ix_tup0, RF.ixN_0, RF.ix_lst1, RF.ix_tup1, RF.ixN_1, RF.ix_lst2, RF.ix_tup2, RF.ixN_2, RF.ix_lst3, RF.ix_tup3, RF.ixN_3, RF.ix_lst4, RF.ix_tup4, RF.ixN_4, RF.ix_lst5, RF.ix_tup5, RF.ixN_5, RF.ix_lst6, RF.ix_tup6, RF.ixN_6, RF.ix_lst7, RF.ix_tup7, RF.ixN_7, RF.ix_lst8, RF.ix_tup8, RF.ixN_8, RF.add_int, RF.dSub, RF.dMul, RF.dFdiv, RF.dMod, RF.dPow, RF.eq_int, RF.eq_str, RF.ne_int, RF.ne_str, RF.dLt, RF.le_int, RF.gt_int, RF.ge_int, RF.dIs, RF.dLen, RF.dAbs, RF.dInt, RF.dList, RF.dTup, RF.dAll, RF.dAny, RF.dSum, RF.dMax2, RF.dMin2, RF.truthD, RF.isNon]
      rw [show good1 p (.tup bs) c e = false by cases e <;> first | (simp [good1, rowsOk]; done) | cases hT]
      exact ⟨by trivial, by trivial⟩
    obtain ⟨es, rfl⟩ : ∃ es, e = .tup es := by
      cases e with
      | tup es => exact ⟨es, rfl⟩
      | _ => cases hT
    have hem := sm_mem he
    simp -dsimp -implicitDefEqProofs only [RF.w_seq, RF.w_if, RF.w_asg, RF.w_ret, RF.w_drop, RF.w_nx, RF.w_run, RF.w_C, RF.w_var, RF.w_mv, RF.w_D, RF.w_V, RF.w_ev, RF.w_lv, RF.w_op, RF.w_T, RF.w_B, RF.w_notT, RF.w_andT, RF.w_orT, RF.w_andV, RF.w_orV, RF.w_not, RF.w_neg, RF.w_CB, RF.w_pre0, RF.w_pre, RF.w_isi, RF.w_evs0, RF.w_evs, RF.w_tup, RF.w_lst, RF.w_part0, RF.w_part, RF.w_sl, RF.w_call, RF.w_call0, RF.w_app, RF.w_ext, RF.w_ins, RF.w_pop, RF.w_setI, RF.w_aug, RF.w_asgT, RF.w_for, RF.w_for0, RF.w_for1, RF.w_it, RF.w_enum, RF.w_rng1, RF.w_rng2, RF.w_lc, RF.w_lc0, RF.w_lc1, RF.w_chain, RF.w_lam, RF.w_bnd, RF.oK_some, RF.oK_none, RF.oK_ite, RF.ifK_true, RF.ifK_false, RF.ifK_not, RF.seqK_nx, RF.seqK_bk, RF.seqK_ct, RF.seqK_rt, RF.stO_un, RF.stO_va, RF.stO_ow, RF.retK_rt, RF.retK_nx, RF.back_nil, RF.back_ow, RF.back_va, RF.varK_va, RF.varK_ow, RF.toD_lst, RF.toD_dct, RF.mvK_va, RF.mvK_ow, RF.rvK_va, RF.rvK_ow, RF.rdS_va, RF.rdS_ow, RF.fin_ev, RF.fin_lv, RF.ap2_some, RF.blK_bl, RF.negD, RF.cons2_some, RF.finL_nil, RF.finL_cons, RF.intK_int, RF.mkA_nil, RF.mkA_ev, RF.mkS_ow, RF.mkA_lv, RF.putA_nil, RF.putA_ev, RF.putS_ow, RF.putA_lv, RF.owS_ow, RF.vaS_va, RF.tgN_eq, RF.tgO_un, RF.tgO_va, RF.tgO_ow, RF.tgT_tup, RF.tgL_nil, RF.tgL_cons, RF.forK_nx, RF.forK_ct, RF.forK_bk, RF.forK_rt, RF.asV, Option.map_some, Option.map_none, Option.bind_some, Option.bind_none, Option.some.injEq, List.getElem?_cons_zero, List.getElem?_cons_succ, List.set_cons_zero, List.set_cons_succ, List.length_cons, List.length_nil, List.cons_append, List.nil_append, List.replicate_succ, List.replicate_zero, Nat.reduceAdd, Nat.reduceSub, Nat.add_zero, Nat.zero_add, Nat.sub_self, RF.seqI, RF.seqD, RF.wipeE, RF.restE, Option.getD_some, RF.ix_lst0, RF.ix_tup0, RF.ixN_0, RF.ix_lst1, RF.ix_tup1, RF.ixN_1, RF.ix_lst2, RF.ix_tup2, RF.ixN_2, RF.ix_lst3, RF.ix_tup3, RF.ixN_3, RF.ix_lst4, RF.ix_tup4, RF.ixN_4, RF.ix_lst5, RF.ix_tup5, RF.ixN_5, RF.ix_lst6, RF.ix_tup6, RF.ixN_6, RF.ix_lst7, RF.ix_tup7, RF.ixN_7, RF.ix_lst8, RF.ix_tup8, RF.ixN_8, RF.add_int, RF.dSub, RF.dMul, RF.dFdiv, RF.dMod, RF.dPow, RF.eq_int, RF.eq_str, RF.ne_int, RF.ne_str, RF.dLt, RF.le_int, RF.gt_int, RF.ge_int, RF.dIs, RF.dLen, RF.dAbs, RF.dInt, RF.dList, RF.dTup, RF.dAll, RF.dAny, RF.dSum, RF.dMax2, RF.dMin2, RF.truthD, RF.isNon]
    cases h9 : ((es.length : Int) == ((p.items.filter (·.1)).length : Int))
    · simp -dsimp -implicitDefEqProofs only [RF.w_seq, RF.w_if, RF.w_asg, RF.w_ret, RF.w_drop, RF.w_nx, RF.w_run, RF.w_C, RF.w_var, RF.w_mv, RF.w_D, RF.w_V, RF.w_ev, RF.w_lv, RF.w_op, RF.w_T, RF.w_B, RF.w_notT, RF.w_andT, RF.w_orT, RF.w_andV, RF.w_orV, RF.w_not, RF.w_neg, RF.w_CB, RF.w_pre0, RF.w_pre, RF.w_isi, RF.w_evs0, RF.w_evs, RF.w_tup, RF.w_lst, RF.w_part0, RF.w_part, RF.w_sl, RF.w_call, RF.w_call0, RF.w_app, RF.w_ext, RF.w_ins, RF.w_pop, RF.w_setI, RF.w_aug, RF.w_asgT, RF.w_for, RF.w_for0, RF.w_for1, RF.w_it, RF.w_enum, RF.w_rng1, RF.w_rng2, RF.w_lc, RF.w_lc0, RF.w_lc1, RF.w_chain, RF.w_lam, RF.w_bnd, RF.oK_some, RF.oK_none, RF.oK_ite, RF.ifK_true, RF.ifK_false, RF.ifK_not, RF.seqK_nx, RF.seqK_bk, RF.seqK_ct, RF.seqK_rt, RF.stO_un, RF.stO_va, RF.stO_ow, RF.retK_rt, RF.retK_nx, RF.back_nil, RF.back_ow, RF.back_va, RF.varK_va, RF.varK_ow, RF.toD_lst, RF.toD_dct, RF.mvK_va, RF.mvK_ow, RF.rvK_va, RF.rvK_ow, RF.rdS_va, RF.rdS_ow, RF.fin_ev, RF.fin_lv, RF.ap2_some, RF.blK_bl, RF.negD, RF.cons2_some, RF.finL_nil, RF.finL_cons, RF.intK_int, RF.mkA_nil, RF.mkA_ev, RF.mkS_ow, RF.mkA_lv, RF.putA_nil, RF.putA_ev, RF.putS_ow, RF.putA_lv, RF.owS_ow, RF.vaS_va, RF.tgN_eq, RF.tgO_un, RF.tgO_va, RF.tgO_ow, RF.tgT_tup, RF.tgL_nil, RF.tgL_cons, RF.forK_nx, RF.forK_ct, RF.forK_bk, RF.forK_rt, RF.asV, Option.map_some, Option.map_none, Option.bind_some, Option.bind_none, Option.some.injEq, List.getElem?_cons_zero, List.getElem?_cons_succ, List.set_cons_zero, List.set_cons_succ, List.length_cons, List.length_nil, List.cons_append, List.nil_append, List.replicate_succ, List.replicate_zero, Nat.reduceAdd, Nat.reduceSub, Nat.add_zero, Nat.zero_add, Nat.sub_self, RF.seqI, RF.seqD, RF.wipeE, RF.restE, Option.getD_some, RF.ix_lst0, RF.ix_tup0, RF.ixN_0, RF.ix_lst1, RF.ix_tup1, RF.ixN_1, RF.ix_lst2, RF.ix_tup2, RF.ixN_2, RF.ix_lst3, RF.ix_tup3, RF.ixN_3, RF.ix_lst4, RF.ix_tup4, RF.ixN_4, RF.ix_lst5, RF.ix_tup5, RF.ixN_5, RF.ix_lst6, RF.ix_tup6, RF.ixN_6, RF.ix_lst7, RF.ix_tup7, RF.ixN_7, RF.ix_lst8, RF.ix_tup8, RF.ixN_8, RF.add_int, RF.dSub, RF.dMul, RF.dFdiv, RF.dMod, RF.dPow, RF.eq_int, RF.eq_str, RF.ne_int, RF.ne_str, RF.dLt, RF.le_int, RF.gt_int, RF.ge_int, RF.dIs, RF.dLen, RF.dAbs, RF.dInt, RF.dList, RF.dTup, RF.dAll, RF.dAny, RF.dSum, RF.dMax2, RF.dMin2, RF.truthD, RF.isNon]
      rw [show good1 p (.tup bs) c (.tup es) = false from good1_e h9]
      exact ⟨by trivial, by trivial⟩
    have hel : es.length = (p.items.filter (·.1)).length := by rw [beq_iff_eq] at h9; omega
    have hal2 : (p.items.filter (·.1)).length ≤ p.items.length := List.length_filter_le _ _
    simp -dsimp -implicitDefEqProofs only [RF.w_seq, RF.w_if, RF.w_asg, RF.w_ret, RF.w_drop, RF.w_nx, RF.w_run, RF.w_C, RF.w_var, RF.w_mv, RF.w_D, RF.w_V, RF.w_ev, RF.w_lv, RF.w_op, RF.w_T, RF.w_B, RF.w_notT, RF.w_andT, RF.w_orT, RF.w_andV, RF.w_orV, RF.w_not, RF.w_neg, RF.w_CB, RF.w_pre0, RF.w_pre, RF.w_isi, RF.w_evs0, RF.w_evs, RF.w_tup, RF.w_lst, RF.w_part0, RF.w_part, RF.w_sl, RF.w_call, RF.w_call0, RF.w_app, RF.w_ext, RF.w_ins, RF.w_pop, RF.w_setI, RF.w_aug, RF.w_asgT, RF.w_for, RF.w_for0, RF.w_for1, RF.w_it, RF.w_enum, RF.w_rng1, RF.w_rng2, RF.w_lc, RF.w_lc0, RF.w_lc1, RF.w_chain, RF.w_lam, RF.w_bnd, RF.oK_some, RF.oK_none, RF.oK_ite, RF.ifK_true, RF.ifK_false, RF.ifK_not, RF.seqK_nx, RF.seqK_bk, RF.seqK_ct, RF.seqK_rt, RF.stO_un, RF.stO_va, RF.stO_ow, RF.retK_rt, RF.retK_nx, RF.back_nil, RF.back_ow, RF.back_va, RF.varK_va, RF.varK_ow, RF.toD_lst, RF.toD_dct, RF.mvK_va, RF.mvK_ow, RF.rvK_va, RF.rvK_ow, RF.rdS_va, RF.rdS_ow, RF.fin_ev, RF.fin_lv, RF.ap2_some, RF.blK_bl, RF.negD, RF.cons2_some, RF.finL_nil, RF.finL_cons, RF.intK_int, RF.mkA_nil, RF.mkA_ev, RF.mkS_ow, RF.mkA_lv, RF.putA_nil, RF.putA_ev, RF.putS_ow, RF.putA_lv, RF.owS_ow, RF.vaS_va, RF.tgN_eq, RF.tgO_un, RF.tgO_va, RF.tgO_ow, RF.tgT_tup, RF.tgL_nil, RF.tgL_cons, RF.forK_nx, RF.forK_ct, RF.forK_bk, RF.forK_rt, RF.asV, Option.map_some, Option.map_none, Option.bind_some, Option.bind_none, Option.some.injEq, List.getElem?_cons_zero, List.getElem?_cons_succ, List.set_cons_zero, List.set_cons_succ, List.length_cons, List.length_nil, List.cons_append, List.nil_append, List.replicate_succ, List.replicate_zero, Nat.reduceAdd, Nat.reduceSub, Nat.add_zero, Nat.zero_add, Nat.sub_self, RF.seqI, RF.seqD, RF.wipeE, RF.restE, Option.getD_some, RF.ix_lst0, RF.ix_tup0, RF.ixN_0, RF.ix_lst1, RF.ix_tup1, RF.ixN_1, RF.ix_lst2, RF.ix_tup2, RF.ixN_2, RF.ix_lst3, RF.ix_tup3, RF.ixN_3, RF.ix_lst4, RF.ix_tup4, RF.ixN_4, RF.ix_lst5, RF.ix_tup5, RF.ixN_5, RF.ix_lst6, RF.ix_tup6, RF.ixN_6, RF.ix_lst7, RF.ix_tup7, RF.ixN_7, RF.ix_lst8, RF.ix_tup8, RF.ixN_8, RF.add_int, RF.dSub, RF.dMul, RF.dFdiv, RF.dMod, RF.dPow, RF.eq_int, RF.eq_str, RF.ne_int, RF.ne_str, RF.dLt, RF.le_int, RF.gt_int, RF.ge_int, RF.dIs, RF.dLen, RF.dAbs, RF.dInt, RF.dList, RF.dTup, RF.dAll, RF.dAny, RF.dSum, RF.dMax2, RF.dMin2, RF.truthD, RF.isNon]
    refine ⟨by rfl, ?_⟩
    refine (wp_of (lc_map (fun d => .bl (tin d)) es (fun i d e => ?_))).mpr ?_
    · refine ⟨_, rfl, ?_⟩
      have hd' := hem d (List.mem_of_getElem? e)
      simp -dsimp -implicitDefEqProofs only [RF.w_seq, RF.w_if, RF.w_asg, RF.w_ret, RF.w_drop, RF.w_nx, RF.w_run, RF.w_C, RF.w_var, RF.w_mv, RF.w_D, RF.w_V, RF.w_ev, RF.w_lv, RF.w_op, RF.w_T, RF.w_B, RF.w_notT, RF.w_andT, RF.w_orT, RF.w_andV, RF.w_orV, RF.w_not, RF.w_neg, RF.w_CB, RF.w_pre0, RF.w_pre, RF.w_isi, RF.w_evs0, RF.w_evs, RF.w_tup, RF.w_lst, RF.w_part0, RF.w_part, RF.w_sl, RF.w_call, RF.w_call0, RF.w_app, RF.w_ext, RF.w_ins, RF.w_pop, RF.w_setI, RF.w_aug, RF.w_asgT, RF.w_for, RF.w_for0, RF.w_for1, RF.w_it, RF.w_enum, RF.w_rng1, RF.w_rng2, RF.w_lc, RF.w_lc0, RF.w_lc1, RF.w_chain, RF.w_lam, RF.w_bnd, RF.oK_some, RF.oK_none, RF.oK_ite, RF.ifK_true, RF.ifK_false, RF.ifK_not, RF.seqK_nx, RF.seqK_bk, RF.seqK_ct, RF.seqK_rt, RF.stO_un, RF.stO_va, RF.stO_ow, RF.retK_rt, RF.retK_nx, RF.back_nil, RF.back_ow, RF.back_va, RF.varK_va, RF.varK_ow, RF.toD_lst, RF.toD_dct, RF.mvK_va, RF.mvK_ow, RF.rvK_va, RF.rvK_ow, RF.rdS_va, RF.rdS_ow, RF.fin_ev, RF.fin_lv, RF.ap2_some, RF.blK_bl, RF.negD, RF.cons2_some, RF.finL_nil, RF.finL_cons, RF.intK_int, RF.mkA_nil, RF.mkA_ev, RF.mkS_ow, RF.mkA_lv, RF.putA_nil, RF.putA_ev, RF.putS_ow, RF.putA_lv, RF.owS_ow, RF.vaS_va, RF.tgN_eq, RF.tgO_un, RF.tgO_va, RF.tgO_ow, RF.tgT_tup, RF.tgL_nil, RF.tgL_cons, RF.forK_nx, RF.forK_ct, RF.forK_bk, RF.forK_rt, RF.asV, Option.map_some, Option.map_none, Option.bind_some, Option.bind_none, Option.some.injEq, List.getElem?_cons_zero, List.getElem?_cons_succ, List.set_cons_zero, List.set_cons_succ, List.length_cons, List.length_nil, List.cons_append, List.nil_append, List.replicate_succ, List.replicate_zero, Nat.reduceAdd, Nat.reduceSub, Nat.add_zero, Nat.zero_add, Nat.sub_self, RF.seqI, RF.seqD, RF.wipeE, RF.restE, Option.getD_some, RF.ix_lst0, RF.ix_tup0, RF.ixN_0, RF.ix_lst1, RF.ix_tup1, RF.ixN_1, RF.ix_lst2, RF.ix_tup2, RF.ixN_2, RF.ix_lst3, RF.ix_tup3, RF.ixN_3, RF.ix_lst4, RF.ix_tup4, RF.ixN_4, RF.ix_lst5, RF.ix_tup5, RF.ixN_5, RF.ix_lst6, RF.ix_tup6, RF.ixN_6, RF.ix_lst7, RF.ix_tup7, RF.ixN_7, RF.ix_lst8, RF.ix_tup8, RF.ixN_8, RF.add_int, RF.dSub, RF.dMul, RF.dFdiv, RF.dMod, RF.dPow, RF.eq_int, RF.eq_str, RF.ne_int, RF.ne_str, RF.dLt, RF.le_int, RF.gt_int, RF.ge_int, RF.dIs, RF.dLen, RF.dAbs, RF.dInt, RF.dList, RF.dTup, RF.dAll, RF.dAny, RF.dSum, RF.dMax2, RF.dMin2, RF.truthD, RF.isNon, isi_t]
      cases hT : isT d
      · simp -dsimp -implicitDefEqProofs only [RF.w_seq, RF.w_if, RF.w_asg, RF.w_ret, RF.w_drop, RF.w_nx, RF.w_run, RF.w_C, RF.w_var, RF.w_mv, RF.w_D, RF.w_V, RF.w_ev, RF.w_lv, RF.w_op, RF.w_T, RF.w_B, RF.w_notT, RF.w_andT, RF.w_orT, RF.w_andV, RF.w_orV, RF.w_not, RF.w_neg, RF.w_CB, RF.w_pre0, RF.w_pre, RF.w_isi, RF.w_evs0, RF.w_evs, RF.w_tup, RF.w_lst, RF.w_part0, RF.w_part, RF.w_sl, RF.w_call, RF.w_call0, RF.w_app, RF.w_ext, RF.w_ins, RF.w_pop, RF.w_setI, RF.w_aug, RF.w_asgT, RF.w_for, RF.w_for0, RF.w_for1, RF.w_it, RF.w_enum, RF.w_rng1, RF.w_rng2, RF.w_lc, RF.w_lc0, RF.w_lc1, RF.w_chain, RF.w_lam, RF.w_bnd, RF.oK_some, RF.oK_none, RF.oK_ite, RF.ifK_true, RF.ifK_false, RF.ifK_not, RF.seqK_nx, RF.seqK_bk, RF.seqK_ct, RF.seqK_rt, RF.stO_un, RF.stO_va, RF.stO_ow, RF.retK_rt, RF.retK_nx, RF.back_nil, RF.back_ow, RF.back_va, RF.varK_va, RF.varK_ow, RF.toD_lst, RF.toD_dct, RF.mvK_va, RF.mvK_ow, RF.rvK_va, RF.rvK_ow, RF.rdS_va, RF.rdS_ow, RF.fin_ev, RF.fin_lv, RF.ap2_some, RF.blK_bl, RF.negD, RF.cons2_some, RF.finL_nil, RF.finL_cons, RF.intK_int, RF.mkA_nil, RF.mkA_ev, RF.mkS_ow, RF.mkA_lv, RF.putA_nil, RF.putA_ev, RF.putS_ow, RF.putA_lv, RF.owS_ow, RF.vaS_va, RF.tgN_eq, RF.tgO_un, RF.tgO_va, RF.tgO_ow, RF.tgT_tup, RF.tgL_nil, RF.tgL_cons, RF.forK_nx, RF.forK_ct, RF.forK_bk, RF.forK_rt, RF.asV, Option.map_some, Option.map_none, Option.bind_some, Option.bind_none, Option.some.injEq, List.getElem?_cons_zero, List.getElem?_cons_succ, List.set_cons_zero, List.set_cons_succ, List.length_cons, List.length_nil, List.cons_append, List.nil_append, List.replicate_succ, List.replicate_zero, Nat.reduceAdd, Nat.reduceSub, Nat.add_zero, Nat.zero_add, Nat.sub_self, RF.seqI, RF.seqD, RF.wipeE, RF.restE, Option.getD_some, RF.ix_lst0, RF.ix_tup0, RF.ixN_0, RF.ix_lst1, RF.ix_tup1, RF.ixN_1, RF.ix_lst2, RF.ix_tup2, RF.ixN_2, RF.ix_lst3, RF.ix_tup3, RF.ixN_3, RF.ix_lst4, RF.ix_tup4, RF.ixN_4, RF.ix_lst5, RF.ix_tup5, RF.ixN_5, RF.ix_lst6, RF.ix_tup6, RF.ixN_6, RF.ix_lst7, RF.ix_tup7, RF.ixN_7, RF.ix_lst8, RF.ix_tup8, RF.ixN_8, RF.add_int, RF.dSub, RF.dMul, RF.dFdiv, RF.dMod, RF.dPow, RF.eq_int, RF.eq_str, RF.ne_int, RF.ne_str, RF.dLt, RF.le_int, RF.gt_int, RF.ge_int, RF.dIs, RF.dLen, RF.dAbs, RF.dInt, RF.dList, RF.dTup, RF.dAll, RF.dAny, RF.dSum, RF.dMax2, RF.dMin2, RF.truthD, RF.isNon, tin_not hT]
        exact ⟨by trivial, by trivial⟩
      obtain ⟨gs, rfl⟩ : ∃ gs, d = .tup gs := by
        cases d with
        | tup es => exact ⟨es, rfl⟩
        | _ => cases hT
      simp -dsimp -implicitDefEqProofs only [RF.w_seq, RF.w_if, RF.w_asg, RF.w_ret, RF.w_drop, RF.w_nx, RF.w_run, RF.w_C, RF.w_var, RF.w_mv, RF.w_D, RF.w_V, RF.w_ev, RF.w_lv, RF.w_op, RF.w_T, RF.w_B, RF.w_notT, RF.w_andT, RF.w_orT, RF.w_andV, RF.w_orV, RF.w_not, RF.w_neg, RF.w_CB, RF.w_pre0, RF.w_pre, RF.w_isi, RF.w_evs0, RF.w_evs, RF.w_tup, RF.w_lst, RF.w_part0, RF.w_part, RF.w_sl, RF.w_call, RF.w_call0, RF.w_app, RF.w_ext, RF.w_ins, RF.w_pop, RF.w_setI, RF.w_aug, RF.w_asgT, RF.w_for, RF.w_for0, RF.w_for1, RF.w_it, RF.w_enum, RF.w_rng1, RF.w_rng2, RF.w_lc, RF.w_lc0, RF.w_lc1, RF.w_chain, RF.w_lam, RF.w_bnd, RF.oK_some, RF.oK_none, RF.oK_ite, RF.ifK_true, RF.ifK_false, RF.ifK_not, RF.seqK_nx, RF.seqK_bk, RF.seqK_ct, RF.seqK_rt, RF.stO_un, RF.stO_va, RF.stO_ow, RF.retK_rt, RF.retK_nx, RF.back_nil, RF.back_ow, RF.back_va, RF.varK_va, RF.varK_ow, RF.toD_lst, RF.toD_dct, RF.mvK_va, RF.mvK_ow, RF.rvK_va, RF.rvK_ow, RF.rdS_va, RF.rdS_ow, RF.fin_ev, RF.fin_lv, RF.ap2_some, RF.blK_bl, RF.negD, RF.cons2_some, RF.finL_nil, RF.finL_cons, RF.intK_int, RF.mkA_nil, RF.mkA_ev, RF.mkS_ow, RF.mkA_lv, RF.putA_nil, RF.putA_ev, RF.putS_ow, RF.putA_lv, RF.owS_ow, RF.vaS_va, RF.tgN_eq, RF.tgO_un, RF.tgO_va, RF.tgO_ow, RF.tgT_tup, RF.tgL_nil, RF.tgL_cons, RF.forK_nx, RF.forK_ct, RF.forK_bk, RF.forK_rt, RF.asV, Option.map_some, Option.map_none, Option.bind_some, Option.bind_none, Option.some.injEq, List.getElem?_cons_zero, List.getElem?_cons_succ, List.set_cons_zero, List.set_cons_succ, List.length_cons, List.length_nil, List.cons_append, List.nil_append, List.replicate_succ, List.replicate_zero, Nat.reduceAdd, Nat.reduceSub, Nat.add_zero, Nat.zero_add, Nat.sub_self, RF.seqI, RF.seqD, RF.wipeE, RF.restE, Option.getD_some, RF.ix_lst0, RF.ix_tup0, RF.ixN_0, RF.ix_lst1, RF.ix_tup1, RF.ixN_1, RF.ix_lst2, RF.ix_tup2, RF.ixN_2, RF.ix_lst3, RF.ix_tup3, RF.ixN_3, RF.ix_lst4, RF.ix_tup4, RF.ixN_4, RF.ix_lst5, RF.ix_tup5, RF.ixN_5, RF.ix_lst6, RF.ix_tup6, RF.ixN_6, RF.ix_lst7, RF.ix_tup7, RF.ixN_7, RF.ix_lst8, RF.ix_tup8, RF.ixN_8, RF.add_int, RF.dSub, RF.dMul, RF.dFdiv, RF.dMod, RF.dPow, RF.eq_int, RF.eq_str, RF.ne_int, RF.ne_str, RF.dLt, RF.le_int, RF.gt_int, RF.ge_int, RF.dIs, RF.dLen, RF.dAbs, RF.dInt, RF.dList, RF.dTup, RF.dAll, RF.dAny, RF.dSum, RF.dMax2, RF.dMin2, RF.truthD, RF.isNon, wp_of (f_lints (.tup gs) (gs.length : Int) (sm_len hd')), tn, beq_self_eq_true, Bool.true_and]
      exact ⟨by trivial, by trivial⟩
    refine ⟨by rw [List.length_map, show sizeLine = 16777216 from rfl]; omega, ?_⟩
    simp -dsimp -implicitDefEqProofs only [RF.w_seq, RF.w_if, RF.w_asg, RF.w_ret, RF.w_drop, RF.w_nx, RF.w_run, RF.w_C, RF.w_var, RF.w_mv, RF.w_D, RF.w_V, RF.w_ev, RF.w_lv, RF.w_op, RF.w_T, RF.w_B, RF.w_notT, RF.w_andT, RF.w_orT, RF.w_andV, RF.w_orV, RF.w_not, RF.w_neg, RF.w_CB, RF.w_pre0, RF.w_pre, RF.w_isi, RF.w_evs0, RF.w_evs, RF.w_tup, RF.w_lst, RF.w_part0, RF.w_part, RF.w_sl, RF.w_call, RF.w_call0, RF.w_app, RF.w_ext, RF.w_ins, RF.w_pop, RF.w_setI, RF.w_aug, RF.w_asgT, RF.w_for, RF.w_for0, RF.w_for1, RF.w_it, RF.w_enum, RF.w_rng1, RF.w_rng2, RF.w_lc, RF.w_lc0, RF.w_lc1, RF.w_chain, RF.w_lam, RF.w_bnd, RF.oK_some, RF.oK_none, RF.oK_ite, RF.ifK_true, RF.ifK_false, RF.ifK_not, RF.seqK_nx, RF.seqK_bk, RF.seqK_ct, RF.seqK_rt, RF.stO_un, RF.stO_va, RF.stO_ow, RF.retK_rt, RF.retK_nx, RF.back_nil, RF.back_ow, RF.back_va, RF.varK_va, RF.varK_ow, RF.toD_lst, RF.toD_dct, RF.mvK_va, RF.mvK_ow, RF.rvK_va, RF.rvK_ow, RF.rdS_va, RF.rdS_ow, RF.fin_ev, RF.fin_lv, RF.ap2_some, RF.blK_bl, RF.negD, RF.cons2_some, RF.finL_nil, RF.finL_cons, RF.intK_int, RF.mkA_nil, RF.mkA_ev, RF.mkS_ow, RF.mkA_lv, RF.putA_nil, RF.putA_ev, RF.putS_ow, RF.putA_lv, RF.owS_ow, RF.vaS_va, RF.tgN_eq, RF.tgO_un, RF.tgO_va, RF.tgO_ow, RF.tgT_tup, RF.tgL_nil, RF.tgL_cons, RF.forK_nx, RF.forK_ct, RF.forK_bk, RF.forK_rt, RF.asV, Option.map_some, Option.map_none, Option.bind_some, Option.bind_none, Option.some.injEq, List.getElem?_cons_zero, List.getElem?_cons_succ, List.set_cons_zero, List.set_cons_succ, List.length_cons, List.length_nil, List.cons_append, List.nil_append, List.replicate_succ, List.replicate_zero, Nat.reduceAdd, Nat.reduceSub, Nat.add_zero, Nat.zero_add, Nat.sub_self, RF.seqI, RF.seqD, RF.wipeE, RF.restE, Option.getD_some, RF.ix_lst0, RF.ix_tup0, RF.ixN_0, RF.ix_lst1, RF.ix_tup1, RF.ixN_1, RF.ix_lst2, RF.ix_tup2, RF.ixN_2, RF.ix_lst3, RF.ix_tup3, RF.ixN_3, RF.ix_lst4, RF.ix_tup4, RF.ixN_4, RF.ix_lst5, RF.ix_tup5, RF.ixN_5, RF.ix_lst6, RF.ix_tup6, RF.ixN_6, RF.ix_lst7, RF.ix_tup7, RF.ixN_7, RF.ix_lst8, RF.ix_tup8, RF.ixN_8, RF.add_int, RF.dSub, RF.dMul, RF.dFdiv, RF.dMod, RF.dPow, RF.eq_int, RF.eq_str, RF.ne_int, RF.ne_str, RF.dLt, RF.le_int, RF.gt_int, RF.ge_int, RF.dIs, RF.dLen, RF.dAbs, RF.dInt, RF.dList, RF.dTup, RF.dAll, RF.dAny, RF.dSum, RF.dMax2, RF.dMin2, RF.truthD, RF.isNon, bools_map]
    refine ⟨?_, by trivial⟩
    unfold good1
    rw [Bool.and_comm (tin c), h7]
    simp [hv, rowsOk, arrs, hel, Function.comp_def]
end K00

namespace K00
open PySem PySem.Spec PyProof.Rows L2 RF
def Strs (ys : List D) : Prop := ∀ y ∈ ys, ∃ s : Str, y = .str s ∧ s.length ≤ 10
theorem Strs.nil : Strs [] := by intro y hy; cases hy
theorem Strs.snoc {ys : List D} {s : Str} (h : Strs ys) (hs : s.length ≤ 10) : Strs (ys ++ [.str s]) := by
  intro y hy
  rcases List.mem_append.mp hy with hy | hy
  · exact h y hy
  · exact ⟨s, List.mem_singleton.mp hy, hs⟩
theorem app_len (a b : Str) : (a ++ b).length = a.length + b.length := by
  cases a
  cases b
  exact Array.size_append
theorem Strs.list : ∀ {ys : List D}, Strs ys → ∃ ss : List Str, ys = ss.map D.str ∧ ∀ s ∈ ss, s.length ≤ 10
  | [], _ => ⟨[], rfl, by simp⟩
  | y :: ys, h => by
    obtain ⟨s, rfl, hs⟩ := h y List.mem_cons_self
    obtain ⟨ss, rfl, h2⟩ := Strs.list (ys := ys) fun z hz => h z (List.mem_cons_of_mem _ hz)
    exact ⟨s :: ss, rfl, fun z hz => by
      rcases List.mem_cons.mp hz with rfl | hz
      · exact hs
      · exact h2 z hz⟩
theorem strs_of (ss : List Str) : strsD (ss.map D.str) = some ss := by
  induction ss with
  | nil => rfl
  | cons s ss ih => rw [List.map_cons, strsD, ih]; rfl
theorem sorted_strs {ss : List Str} (h0 : 0 < ss.length) (h1 : ss.length < 64) : dSorted [.lst (ss.map D.str)] = some (.ow (.lst ((sortSs ss).map D.str))) := by
  simp only [dSorted, seqL, List.length_map, if_pos h1, strs_of]
  cases ss with
  | nil => simp at h0
  | cons s ss => rfl
theorem letters_at : ∀ k, k < 26 → ("abcdefghijklmnopqrstuvwxyz" : Str).cps.toList[k]? = some (97 + k) := by decide +kernel
def lc (x : Int) : Nat := 97 + (x % 26).toNat
theorem letter {x : Int} : dIx (.str "abcdefghijklmnopqrstuvwxyz") (.int (x % 26)) = some (.va (chD (lc x))) := by
  have h0 := Int.emod_nonneg x (show (26 : Int) ≠ 0 by omega)
  have h1 := Int.emod_lt_of_pos x (show (0 : Int) < 26 by omega)
  obtain ⟨k, hk⟩ : ∃ k : Nat, x % 26 = (k : Int) := ⟨(x % 26).toNat, by omega⟩
  have hl : ("abcdefghijklmnopqrstuvwxyz" : Str).cps.toList.length = 26 := by decide +kernel
  have hz : ("abcdefghijklmnopqrstuvwxyz" : Str).length ≤ sizeLine := by decide +kernel
  have hk2 : k < ("abcdefghijklmnopqrstuvwxyz" : Str).cps.toList.length := by omega
  have ha := letters_at k (by omega)
  rw [List.getElem?_eq_getElem hk2] at ha
  unfold lc
  rw [hk]
  simp only [dIx, if_pos hz]
  rw [atI_nat hk2, Option.some.inj ha, Int.toNat_natCast]
  rfl
theorem lc_inj {start st i j : Nat} (hs : st < 6) (hi : i < 26) (hj : j < 26) (h : lc ((start : Int) + (i : Int) * (1 + 2 * st)) = lc ((start : Int) + (j : Int) * (1 + 2 * st))) : i = j := by
  unfold lc at h
  have : st = 0 ∨ st = 1 ∨ st = 2 ∨ st = 3 ∨ st = 4 ∨ st = 5 := by omega
  rcases this with rfl | rfl | rfl | rfl | rfl | rfl <;> omega
theorem str_app_l {a : Str} {x y : Nat} (h : a ++ (⟨#[x]⟩ : Str) = a ++ ⟨#[y]⟩) : x = y := by
  have := congrArg (fun s : Str => s.cps.toList) h
  simp only [PySem.Str.cps_append, Array.toList_append, List.append_cancel_left_eq, List.append_cancel_right_eq] at this
  simpa using this
theorem str_app_r {a : Str} {x y : Nat} (h : (⟨#[x]⟩ : Str) ++ a = (⟨#[y]⟩ : Str) ++ a) : x = y := by
  have := congrArg (fun s : Str => s.cps.toList) h
  simp only [PySem.Str.cps_append, Array.toList_append, List.append_cancel_left_eq, List.append_cancel_right_eq] at this
  simpa using this
theorem drawK {ns : List Int} {o : Ob} {m : Int} {Q : RV → RF.Env → Prop} {E : Exc → RF.Env → Prop} (h : DrS ns o) (h0 : 0 < m) (h1 : m ≤ 10 ^ 40) (q : ∀ (r : Nat) o' t, (r : Int) < m → DrS ns o' → o'.toD = some t → Q (.va (.int r)) [.ow true o', .va (.int m)]) : wp drawF [.ow true o, .va (.int m)] Q E := by
  refine drawW h h0 h1 fun r o' t a b c ht => ?_
  obtain ⟨k, rfl⟩ : ∃ k : Nat, r = (k : Int) := ⟨r.toNat, by omega⟩
  exact q k o' t b c ht
theorem words_spec {ns : List Int} {o : Ob} {n : Nat} (h : DrS ns o) (hn : n ≤ 1000) {Q : RV → RF.Env → Prop} {E : Exc → RF.Env → Prop} (q : ∀ (w : Nat → Str) o' t, (∀ k, (w k).length ≤ 10) → (∀ i j, i < 26 → j < 26 → w i = w j → i = j) → DrS ns o' → o'.toD = some t → Q (.ow (.lst ((List.range n).map fun k => D.str (w k)))) [.ow true o', .va (.int n)]) : wp F__law_words [.ow true o, .va (.int n)] Q E := by
  obtain ⟨t, ht⟩ := h.toD
  unfold F__law_words b__law_words
  simp -dsimp -implicitDefEqProofs only [RF.w_seq, RF.w_if, RF.w_asg, RF.w_ret, RF.w_drop, RF.w_nx, RF.w_run, RF.w_C, RF.w_var, RF.w_mv, RF.w_D, RF.w_V, RF.w_ev, RF.w_lv, RF.w_op, RF.w_T, RF.w_B, RF.w_notT, RF.w_andT, RF.w_orT, RF.w_andV, RF.w_orV, RF.w_not, RF.w_neg, RF.w_CB, RF.w_pre0, RF.w_pre, RF.w_isi, RF.w_evs0, RF.w_evs, RF.w_tup, RF.w_lst, RF.w_part0, RF.w_part, RF.w_sl, RF.w_call, RF.w_call0, RF.w_app, RF.w_ext, RF.w_ins, RF.w_pop, RF.w_setI, RF.w_aug, RF.w_asgT, RF.w_for, RF.w_for0, RF.w_for1, RF.w_it, RF.w_enum, RF.w_rng1, RF.w_rng2, RF.w_lc, RF.w_lc0, RF.w_lc1, RF.w_chain, RF.w_lam, RF.w_bnd, RF.oK_some, RF.oK_none, RF.oK_ite, RF.ifK_true, RF.ifK_false, RF.ifK_not, RF.seqK_nx, RF.seqK_bk, RF.seqK_ct, RF.seqK_rt, RF.stO_un, RF.stO_va, RF.stO_ow, RF.retK_rt, RF.retK_nx, RF.back_nil, RF.back_ow, RF.back_va, RF.varK_va, RF.varK_ow, RF.toD_lst, RF.toD_dct, RF.mvK_va, RF.mvK_ow, RF.rvK_va, RF.rvK_ow, RF.rdS_va, RF.rdS_ow, RF.fin_ev, RF.fin_lv, RF.ap2_some, RF.blK_bl, RF.negD, RF.cons2_some, RF.finL_nil, RF.finL_cons, RF.intK_int, RF.mkA_nil, RF.mkA_ev, RF.mkS_ow, RF.mkA_lv, RF.putA_nil, RF.putA_ev, RF.putS_ow, RF.putA_lv, RF.owS_ow, RF.vaS_va, RF.tgN_eq, RF.tgO_un, RF.tgO_va, RF.tgO_ow, RF.tgT_tup, RF.tgL_nil, RF.tgL_cons, RF.forK_nx, RF.forK_ct, RF.forK_bk, RF.forK_rt, RF.asV, Option.map_some, Option.map_none, Option.bind_some, Option.bind_none, Option.some.injEq, List.getElem?_cons_zero, List.getElem?_cons_succ, List.set_cons_zero, List.set_cons_succ, List.length_cons, List.length_nil, List.cons_append, List.nil_append, List.replicate_succ, List.replicate_zero, Nat.reduceAdd, Nat.reduceSub, Nat.add_zero, Nat.zero_add, Nat.sub_self, RF.seqI, RF.seqD, RF.wipeE, RF.restE, Option.getD_some, RF.ix_lst0, RF.ix_tup0, RF.ixN_0, RF.ix_lst1, RF.ix_tup1, RF.ixN_1, RF.ix_lst2, RF.ix_tup2, RF.ixN_2, RF.ix_lst3, RF.ix_tup3, RF.ixN_3, RF.ix_lst4, RF.ix_tup4, RF.ixN_4, RF.ix_lst5, RF.ix_tup5, RF.ixN_5, RF.ix_lst6, RF.ix_tup6, RF.ixN_6, RF.ix_lst7, RF.ix_tup7, RF.ixN_7, RF.ix_lst8, RF.ix_tup8, RF.ixN_8, RF.add_int, RF.dSub, RF.dMul, RF.dFdiv, RF.dMod, RF.dPow, RF.eq_int, RF.eq_str, RF.ne_int, RF.ne_str, RF.dLt, RF.le_int, RF.gt_int, RF.ge_int, RF.dIs, RF.dLen, RF.dAbs, RF.dInt, RF.dList, RF.dTup, RF.dAll, RF.dAny, RF.dSum, RF.dMax2, RF.dMin2, RF.truthD, RF.isNon, ht, q__law_draw]
  refine drawK h (by decide) (by decide) fun start o t _ h ht => ?_
  simp -dsimp -implicitDefEqProofs only [RF.w_seq, RF.w_if, RF.w_asg, RF.w_ret, RF.w_drop, RF.w_nx, RF.w_run, RF.w_C, RF.w_var, RF.w_mv, RF.w_D, RF.w_V, RF.w_ev, RF.w_lv, RF.w_op, RF.w_T, RF.w_B, RF.w_notT, RF.w_andT, RF.w_orT, RF.w_andV, RF.w_orV, RF.w_not, RF.w_neg, RF.w_CB, RF.w_pre0, RF.w_pre, RF.w_isi, RF.w_evs0, RF.w_evs, RF.w_tup, RF.w_lst, RF.w_part0, RF.w_part, RF.w_sl, RF.w_call, RF.w_call0, RF.w_app, RF.w_ext, RF.w_ins, RF.w_pop, RF.w_setI, RF.w_aug, RF.w_asgT, RF.w_for, RF.w_for0, RF.w_for1, RF.w_it, RF.w_enum, RF.w_rng1, RF.w_rng2, RF.w_lc, RF.w_lc0, RF.w_lc1, RF.w_chain, RF.w_lam, RF.w_bnd, RF.oK_some, RF.oK_none, RF.oK_ite, RF.ifK_true, RF.ifK_false, RF.ifK_not, RF.seqK_nx, RF.seqK_bk, RF.seqK_ct, RF.seqK_rt, RF.stO_un, RF.stO_va, RF.stO_ow, RF.retK_rt, RF.retK_nx, RF.back_nil, RF.back_ow, RF.back_va, RF.varK_va, RF.varK_ow, RF.toD_lst, RF.toD_dct, RF.mvK_va, RF.mvK_ow, RF.rvK_va, RF.rvK_ow, RF.rdS_va, RF.rdS_ow, RF.fin_ev, RF.fin_lv, RF.ap2_some, RF.blK_bl, RF.negD, RF.cons2_some, RF.finL_nil, RF.finL_cons, RF.intK_int, RF.mkA_nil, RF.mkA_ev, RF.mkS_ow, RF.mkA_lv, RF.putA_nil, RF.putA_ev, RF.putS_ow, RF.putA_lv, RF.owS_ow, RF.vaS_va, RF.tgN_eq, RF.tgO_un, RF.tgO_va, RF.tgO_ow, RF.tgT_tup, RF.tgL_nil, RF.tgL_cons, RF.forK_nx, RF.forK_ct, RF.forK_bk, RF.forK_rt, RF.asV, Option.map_some, Option.map_none, Option.bind_some, Option.bind_none, Option.some.injEq, List.getElem?_cons_zero, List.getElem?_cons_succ, List.set_cons_zero, List.set_cons_succ, List.length_cons, List.length_nil, List.cons_append, List.nil_append, List.replicate_succ, List.replicate_zero, Nat.reduceAdd, Nat.reduceSub, Nat.add_zero, Nat.zero_add, Nat.sub_self, RF.seqI, RF.seqD, RF.wipeE, RF.restE, Option.getD_some, RF.ix_lst0, RF.ix_tup0, RF.ixN_0, RF.ix_lst1, RF.ix_tup1, RF.ixN_1, RF.ix_lst2, RF.ix_tup2, RF.ixN_2, RF.ix_lst3, RF.ix_tup3, RF.ixN_3, RF.ix_lst4, RF.ix_tup4, RF.ixN_4, RF.ix_lst5, RF.ix_tup5, RF.ixN_5, RF.ix_lst6, RF.ix_tup6, RF.ixN_6, RF.ix_lst7, RF.ix_tup7, RF.ixN_7, RF.ix_lst8, RF.ix_tup8, RF.ixN_8, RF.add_int, RF.dSub, RF.dMul, RF.dFdiv, RF.dMod, RF.dPow, RF.eq_int, RF.eq_str, RF.ne_int, RF.ne_str, RF.dLt, RF.le_int, RF.gt_int, RF.ge_int, RF.dIs, RF.dLen, RF.dAbs, RF.dInt, RF.dList, RF.dTup, RF.dAll, RF.dAny, RF.dSum, RF.dMax2, RF.dMin2, RF.truthD, RF.isNon, ht, q__law_draw]
  refine drawK h (by decide) (by decide) fun st o t hst h ht => ?_
  simp -dsimp -implicitDefEqProofs only [RF.w_seq, RF.w_if, RF.w_asg, RF.w_ret, RF.w_drop, RF.w_nx, RF.w_run, RF.w_C, RF.w_var, RF.w_mv, RF.w_D, RF.w_V, RF.w_ev, RF.w_lv, RF.w_op, RF.w_T, RF.w_B, RF.w_notT, RF.w_andT, RF.w_orT, RF.w_andV, RF.w_orV, RF.w_not, RF.w_neg, RF.w_CB, RF.w_pre0, RF.w_pre, RF.w_isi, RF.w_evs0, RF.w_evs, RF.w_tup, RF.w_lst, RF.w_part0, RF.w_part, RF.w_sl, RF.w_call, RF.w_call0, RF.w_app, RF.w_ext, RF.w_ins, RF.w_pop, RF.w_setI, RF.w_aug, RF.w_asgT, RF.w_for, RF.w_for0, RF.w_for1, RF.w_it, RF.w_enum, RF.w_rng1, RF.w_rng2, RF.w_lc, RF.w_lc0, RF.w_lc1, RF.w_chain, RF.w_lam, RF.w_bnd, RF.oK_some, RF.oK_none, RF.oK_ite, RF.ifK_true, RF.ifK_false, RF.ifK_not, RF.seqK_nx, RF.seqK_bk, RF.seqK_ct, RF.seqK_rt, RF.stO_un, RF.stO_va, RF.stO_ow, RF.retK_rt, RF.retK_nx, RF.back_nil, RF.back_ow, RF.back_va, RF.varK_va, RF.varK_ow, RF.toD_lst, RF.toD_dct, RF.mvK_va, RF.mvK_ow, RF.rvK_va, RF.rvK_ow, RF.rdS_va, RF.rdS_ow, RF.fin_ev, RF.fin_lv, RF.ap2_some, RF.blK_bl, RF.negD, RF.cons2_some, RF.finL_nil, RF.finL_cons, RF.intK_int, RF.mkA_nil, RF.mkA_ev, RF.mkS_ow, RF.mkA_lv, RF.putA_nil, RF.putA_ev, RF.putS_ow, RF.putA_lv, RF.owS_ow, RF.vaS_va, RF.tgN_eq, RF.tgO_un, RF.tgO_va, RF.tgO_ow, RF.tgT_tup, RF.tgL_nil, RF.tgL_cons, RF.forK_nx, RF.forK_ct, RF.forK_bk, RF.forK_rt, RF.asV, Option.map_some, Option.map_none, Option.bind_some, Option.bind_none, Option.some.injEq, List.getElem?_cons_zero, List.getElem?_cons_succ, List.set_cons_zero, List.set_cons_succ, List.length_cons, List.length_nil, List.cons_append, List.nil_append, List.replicate_succ, List.replicate_zero, Nat.reduceAdd, Nat.reduceSub, Nat.add_zero, Nat.zero_add, Nat.sub_self, RF.seqI, RF.seqD, RF.wipeE, RF.restE, Option.getD_some, RF.ix_lst0, RF.ix_tup0, RF.ixN_0, RF.ix_lst1, RF.ix_tup1, RF.ixN_1, RF.ix_lst2, RF.ix_tup2, RF.ixN_2, RF.ix_lst3, RF.ix_tup3, RF.ixN_3, RF.ix_lst4, RF.ix_tup4, RF.ixN_4, RF.ix_lst5, RF.ix_tup5, RF.ixN_5, RF.ix_lst6, RF.ix_tup6, RF.ixN_6, RF.ix_lst7, RF.ix_tup7, RF.ixN_7, RF.ix_lst8, RF.ix_tup8, RF.ixN_8, RF.add_int, RF.dSub, RF.dMul, RF.dFdiv, RF.dMod, RF.dPow, RF.eq_int, RF.eq_str, RF.ne_int, RF.ne_str, RF.dLt, RF.le_int, RF.gt_int, RF.ge_int, RF.dIs, RF.dLen, RF.dAbs, RF.dInt, RF.dList, RF.dTup, RF.dAll, RF.dAny, RF.dSum, RF.dMax2, RF.dMin2, RF.truthD, RF.isNon, ht, q__law_draw]
  refine ⟨.inl (by decide), ?_⟩
  refine drawK h (by decide) (by decide) fun r o t hr h ht => ?_
  simp -dsimp -implicitDefEqProofs only [RF.w_seq, RF.w_if, RF.w_asg, RF.w_ret, RF.w_drop, RF.w_nx, RF.w_run, RF.w_C, RF.w_var, RF.w_mv, RF.w_D, RF.w_V, RF.w_ev, RF.w_lv, RF.w_op, RF.w_T, RF.w_B, RF.w_notT, RF.w_andT, RF.w_orT, RF.w_andV, RF.w_orV, RF.w_not, RF.w_neg, RF.w_CB, RF.w_pre0, RF.w_pre, RF.w_isi, RF.w_evs0, RF.w_evs, RF.w_tup, RF.w_lst, RF.w_part0, RF.w_part, RF.w_sl, RF.w_call, RF.w_call0, RF.w_app, RF.w_ext, RF.w_ins, RF.w_pop, RF.w_setI, RF.w_aug, RF.w_asgT, RF.w_for, RF.w_for0, RF.w_for1, RF.w_it, RF.w_enum, RF.w_rng1, RF.w_rng2, RF.w_lc, RF.w_lc0, RF.w_lc1, RF.w_chain, RF.w_lam, RF.w_bnd, RF.oK_some, RF.oK_none, RF.oK_ite, RF.ifK_true, RF.ifK_false, RF.ifK_not, RF.seqK_nx, RF.seqK_bk, RF.seqK_ct, RF.seqK_rt, RF.stO_un, RF.stO_va, RF.stO_ow, RF.retK_rt, RF.retK_nx, RF.back_nil, RF.back_ow, RF.back_va, RF.varK_va, RF.varK_ow, RF.toD_lst, RF.toD_dct, RF.mvK_va, RF.mvK_ow, RF.rvK_va, RF.rvK_ow, RF.rdS_va, RF.rdS_ow, RF.fin_ev, RF.fin_lv, RF.ap2_some, RF.blK_bl, RF.negD, RF.cons2_some, RF.finL_nil, RF.finL_cons, RF.intK_int, RF.mkA_nil, RF.mkA_ev, RF.mkS_ow, RF.mkA_lv, RF.putA_nil, RF.putA_ev, RF.putS_ow, RF.putA_lv, RF.owS_ow, RF.vaS_va, RF.tgN_eq, RF.tgO_un, RF.tgO_va, RF.tgO_ow, RF.tgT_tup, RF.tgL_nil, RF.tgL_cons, RF.forK_nx, RF.forK_ct, RF.forK_bk, RF.forK_rt, RF.asV, Option.map_some, Option.map_none, Option.bind_some, Option.bind_none, Option.some.injEq, List.getElem?_cons_zero, List.getElem?_cons_succ, List.set_cons_zero, List.set_cons_succ, List.length_cons, List.length_nil, List.cons_append, List.nil_append, List.replicate_succ, List.replicate_zero, Nat.reduceAdd, Nat.reduceSub, Nat.add_zero, Nat.zero_add, Nat.sub_self, RF.seqI, RF.seqD, RF.wipeE, RF.restE, Option.getD_some, RF.ix_lst0, RF.ix_tup0, RF.ixN_0, RF.ix_lst1, RF.ix_tup1, RF.ixN_1, RF.ix_lst2, RF.ix_tup2, RF.ixN_2, RF.ix_lst3, RF.ix_tup3, RF.ixN_3, RF.ix_lst4, RF.ix_tup4, RF.ixN_4, RF.ix_lst5, RF.ix_tup5, RF.ixN_5, RF.ix_lst6, RF.ix_tup6, RF.ixN_6, RF.ix_lst7, RF.ix_tup7, RF.ixN_7, RF.ix_lst8, RF.ix_tup8, RF.ixN_8, RF.add_int, RF.dSub, RF.dMul, RF.dFdiv, RF.dMod, RF.dPow, RF.eq_int, RF.eq_str, RF.ne_int, RF.ne_str, RF.dLt, RF.le_int, RF.gt_int, RF.ge_int, RF.dIs, RF.dLen, RF.dAbs, RF.dInt, RF.dList, RF.dTup, RF.dAll, RF.dAny, RF.dSum, RF.dMax2, RF.dMin2, RF.truthD, RF.isNon, RF.dSl, RF.cut_to, RF.cut_ofS, RF.cut_of, ht, q__law_draw]
  refine ⟨by decide +kernel, ?_⟩
  have hsl : (cutS (Str.ofString "qxz") none (some (r : Int))).length ≤ 3 := by
    have : r = 0 ∨ r = 1 ∨ r = 2 ∨ r = 3 := by omega
    rcases this with rfl | rfl | rfl | rfl <;> decide +kernel
  generalize cutS (Str.ofString "qxz") none (some (r : Int)) = shared at hsl ⊢
  refine drawK h (by decide) (by decide) fun bb o t _ h ht => ?_
  simp -dsimp -implicitDefEqProofs only [RF.w_seq, RF.w_if, RF.w_asg, RF.w_ret, RF.w_drop, RF.w_nx, RF.w_run, RF.w_C, RF.w_var, RF.w_mv, RF.w_D, RF.w_V, RF.w_ev, RF.w_lv, RF.w_op, RF.w_T, RF.w_B, RF.w_notT, RF.w_andT, RF.w_orT, RF.w_andV, RF.w_orV, RF.w_not, RF.w_neg, RF.w_CB, RF.w_pre0, RF.w_pre, RF.w_isi, RF.w_evs0, RF.w_evs, RF.w_tup, RF.w_lst, RF.w_part0, RF.w_part, RF.w_sl, RF.w_call, RF.w_call0, RF.w_app, RF.w_ext, RF.w_ins, RF.w_pop, RF.w_setI, RF.w_aug, RF.w_asgT, RF.w_for, RF.w_for0, RF.w_for1, RF.w_it, RF.w_enum, RF.w_rng1, RF.w_rng2, RF.w_lc, RF.w_lc0, RF.w_lc1, RF.w_chain, RF.w_lam, RF.w_bnd, RF.oK_some, RF.oK_none, RF.oK_ite, RF.ifK_true, RF.ifK_false, RF.ifK_not, RF.seqK_nx, RF.seqK_bk, RF.seqK_ct, RF.seqK_rt, RF.stO_un, RF.stO_va, RF.stO_ow, RF.retK_rt, RF.retK_nx, RF.back_nil, RF.back_ow, RF.back_va, RF.varK_va, RF.varK_ow, RF.toD_lst, RF.toD_dct, RF.mvK_va, RF.mvK_ow, RF.rvK_va, RF.rvK_ow, RF.rdS_va, RF.rdS_ow, RF.fin_ev, RF.fin_lv, RF.ap2_some, RF.blK_bl, RF.negD, RF.cons2_some, RF.finL_nil, RF.finL_cons, RF.intK_int, RF.mkA_nil, RF.mkA_ev, RF.mkS_ow, RF.mkA_lv, RF.putA_nil, RF.putA_ev, RF.putS_ow, RF.putA_lv, RF.owS_ow, RF.vaS_va, RF.tgN_eq, RF.tgO_un, RF.tgO_va, RF.tgO_ow, RF.tgT_tup, RF.tgL_nil, RF.tgL_cons, RF.forK_nx, RF.forK_ct, RF.forK_bk, RF.forK_rt, RF.asV, Option.map_some, Option.map_none, Option.bind_some, Option.bind_none, Option.some.injEq, List.getElem?_cons_zero, List.getElem?_cons_succ, List.set_cons_zero, List.set_cons_succ, List.length_cons, List.length_nil, List.cons_append, List.nil_append, List.replicate_succ, List.replicate_zero, Nat.reduceAdd, Nat.reduceSub, Nat.add_zero, Nat.zero_add, Nat.sub_self, RF.seqI, RF.seqD, RF.wipeE, RF.restE, Option.getD_some, RF.ix_lst0, RF.ix_tup0, RF.ixN_0, RF.ix_lst1, RF.ix_tup1, RF.ixN_1, RF.ix_lst2, RF.ix_tup2, RF.ixN_2, RF.ix_lst3, RF.ix_tup3, RF.ixN_3, RF.ix_lst4, RF.ix_tup4, RF.ixN_4, RF.ix_lst5, RF.ix_tup5, RF.ixN_5, RF.ix_lst6, RF.ix_tup6, RF.ixN_6, RF.ix_lst7, RF.ix_tup7, RF.ixN_7, RF.ix_lst8, RF.ix_tup8, RF.ixN_8, RF.add_int, RF.dSub, RF.dMul, RF.dFdiv, RF.dMod, RF.dPow, RF.eq_int, RF.eq_str, RF.ne_int, RF.ne_str, RF.dLt, RF.le_int, RF.gt_int, RF.ge_int, RF.dIs, RF.dLen, RF.dAbs, RF.dInt, RF.dList, RF.dTup, RF.dAll, RF.dAny, RF.dSum, RF.dMax2, RF.dMin2, RF.truthD, RF.isNon, RF.dSl, RF.cut_to, RF.cut_ofS, RF.cut_of, ht, q__law_draw]
  rw [ifK_beq]
  refine ⟨fun _ => ?_, fun _ => ?_⟩
  · simp -dsimp -implicitDefEqProofs only [RF.w_seq, RF.w_if, RF.w_asg, RF.w_ret, RF.w_drop, RF.w_nx, RF.w_run, RF.w_C, RF.w_var, RF.w_mv, RF.w_D, RF.w_V, RF.w_ev, RF.w_lv, RF.w_op, RF.w_T, RF.w_B, RF.w_notT, RF.w_andT, RF.w_orT, RF.w_andV, RF.w_orV, RF.w_not, RF.w_neg, RF.w_CB, RF.w_pre0, RF.w_pre, RF.w_isi, RF.w_evs0, RF.w_evs, RF.w_tup, RF.w_lst, RF.w_part0, RF.w_part, RF.w_sl, RF.w_call, RF.w_call0, RF.w_app, RF.w_ext, RF.w_ins, RF.w_pop, RF.w_setI, RF.w_aug, RF.w_asgT, RF.w_for, RF.w_for0, RF.w_for1, RF.w_it, RF.w_enum, RF.w_rng1, RF.w_rng2, RF.w_lc, RF.w_lc0, RF.w_lc1, RF.w_chain, RF.w_lam, RF.w_bnd, RF.oK_some, RF.oK_none, RF.oK_ite, RF.ifK_true, RF.ifK_false, RF.ifK_not, RF.seqK_nx, RF.seqK_bk, RF.seqK_ct, RF.seqK_rt, RF.stO_un, RF.stO_va, RF.stO_ow, RF.retK_rt, RF.retK_nx, RF.back_nil, RF.back_ow, RF.back_va, RF.varK_va, RF.varK_ow, RF.toD_lst, RF.toD_dct, RF.mvK_va, RF.mvK_ow, RF.rvK_va, RF.rvK_ow, RF.rdS_va, RF.rdS_ow, RF.fin_ev, RF.fin_lv, RF.ap2_some, RF.blK_bl, RF.negD, RF.cons2_some, RF.finL_nil, RF.finL_cons, RF.intK_int, RF.mkA_nil, RF.mkA_ev, RF.mkS_ow, RF.mkA_lv, RF.putA_nil, RF.putA_ev, RF.putS_ow, RF.putA_lv, RF.owS_ow, RF.vaS_va, RF.tgN_eq, RF.tgO_un, RF.tgO_va, RF.tgO_ow, RF.tgT_tup, RF.tgL_nil, RF.tgL_cons, RF.forK_nx, RF.forK_ct, RF.forK_bk, RF.forK_rt, RF.asV, Option.map_some, Option.map_none, Option.bind_some, Option.bind_none, Option.some.injEq, List.getElem?_cons_zero, List.getElem?_cons_succ, List.set_cons_zero, List.set_cons_succ, List.length_cons, List.length_nil, List.cons_append, List.nil_append, List.replicate_succ, List.replicate_zero, Nat.reduceAdd, Nat.reduceSub, Nat.add_zero, Nat.zero_add, Nat.sub_self, RF.seqI, RF.seqD, RF.wipeE, RF.restE, Option.getD_some, RF.ix_lst0, RF.ix_tup0, RF.ixN_0, RF.ix_lst1, RF.ix_tup1, RF.ixN_1, RF.ix_lst2, RF.ix_tup2, RF.ixN_2, RF.ix_lst3, RF.ix_tup3, RF.ixN_3, RF.ix_lst4, RF.ix_tup4, RF.ixN_4, RF.ix_lst5, RF.ix_tup5, RF.ixN_5, RF.ix_lst6, RF.ix_tup6, RF.ixN_6, RF.ix_lst7, RF.ix_tup7, RF.ixN_7, RF.ix_lst8, RF.ix_tup8, RF.ixN_8, RF.add_int, RF.dSub, RF.dMul, RF.dFdiv, RF.dMod, RF.dPow, RF.eq_int, RF.eq_str, RF.ne_int, RF.ne_str, RF.dLt, RF.le_int, RF.gt_int, RF.ge_int, RF.dIs, RF.dLen, RF.dAbs, RF.dInt, RF.dList, RF.dTup, RF.dAll, RF.dAny, RF.dSum, RF.dMax2, RF.dMin2, RF.truthD, RF.isNon]
    refine ⟨inRng_nat (by omega), by rfl, ?_⟩
    refine (wp_of (lc_map (fun d => match d with | .int i => .str (shared ++ (⟨#[lc ((start : Int) + i * (1 + 2 * st))]⟩ : Str)) | _ => .non) (rngL 0 n) (fun i d e => ?_))).mpr ?_
    · obtain ⟨hin, rfl⟩ := rngL_get e
      refine ⟨_, rfl, ?_⟩
      have hc := letter (x := (start : Int) + (i : Int) * (1 + 2 * st))
      simp -dsimp -implicitDefEqProofs only [RF.w_seq, RF.w_if, RF.w_asg, RF.w_ret, RF.w_drop, RF.w_nx, RF.w_run, RF.w_C, RF.w_var, RF.w_mv, RF.w_D, RF.w_V, RF.w_ev, RF.w_lv, RF.w_op, RF.w_T, RF.w_B, RF.w_notT, RF.w_andT, RF.w_orT, RF.w_andV, RF.w_orV, RF.w_not, RF.w_neg, RF.w_CB, RF.w_pre0, RF.w_pre, RF.w_isi, RF.w_evs0, RF.w_evs, RF.w_tup, RF.w_lst, RF.w_part0, RF.w_part, RF.w_sl, RF.w_call, RF.w_call0, RF.w_app, RF.w_ext, RF.w_ins, RF.w_pop, RF.w_setI, RF.w_aug, RF.w_asgT, RF.w_for, RF.w_for0, RF.w_for1, RF.w_it, RF.w_enum, RF.w_rng1, RF.w_rng2, RF.w_lc, RF.w_lc0, RF.w_lc1, RF.w_chain, RF.w_lam, RF.w_bnd, RF.oK_some, RF.oK_none, RF.oK_ite, RF.ifK_true, RF.ifK_false, RF.ifK_not, RF.seqK_nx, RF.seqK_bk, RF.seqK_ct, RF.seqK_rt, RF.stO_un, RF.stO_va, RF.stO_ow, RF.retK_rt, RF.retK_nx, RF.back_nil, RF.back_ow, RF.back_va, RF.varK_va, RF.varK_ow, RF.toD_lst, RF.toD_dct, RF.mvK_va, RF.mvK_ow, RF.rvK_va, RF.rvK_ow, RF.rdS_va, RF.rdS_ow, RF.fin_ev, RF.fin_lv, RF.ap2_some, RF.blK_bl, RF.negD, RF.cons2_some, RF.finL_nil, RF.finL_cons, RF.intK_int, RF.mkA_nil, RF.mkA_ev, RF.mkS_ow, RF.mkA_lv, RF.putA_nil, RF.putA_ev, RF.putS_ow, RF.putA_lv, RF.owS_ow, RF.vaS_va, RF.tgN_eq, RF.tgO_un, RF.tgO_va, RF.tgO_ow, RF.tgT_tup, RF.tgL_nil, RF.tgL_cons, RF.forK_nx, RF.forK_ct, RF.forK_bk, RF.forK_rt, RF.asV, Option.map_some, Option.map_none, Option.bind_some, Option.bind_none, Option.some.injEq, List.getElem?_cons_zero, List.getElem?_cons_succ, List.set_cons_zero, List.set_cons_succ, List.length_cons, List.length_nil, List.cons_append, List.nil_append, List.replicate_succ, List.replicate_zero, Nat.reduceAdd, Nat.reduceSub, Nat.add_zero, Nat.zero_add, Nat.sub_self, RF.seqI, RF.seqD, RF.wipeE, RF.restE, Option.getD_some, RF.ix_lst0, RF.ix_tup0, RF.ixN_0, RF.ix_lst1, RF.ix_tup1, RF.ixN_1, RF.ix_lst2, RF.ix_tup2, RF.ixN_2, RF.ix_lst3, RF.ix_tup3, RF.ixN_3, RF.ix_lst4, RF.ix_tup4, RF.ixN_4, RF.ix_lst5, RF.ix_tup5, RF.ixN_5, RF.ix_lst6, RF.ix_tup6, RF.ixN_6, RF.ix_lst7, RF.ix_tup7, RF.ixN_7, RF.ix_lst8, RF.ix_tup8, RF.ixN_8, RF.add_int, RF.dSub, RF.dMul, RF.dFdiv, RF.dMod, RF.dPow, RF.eq_int, RF.eq_str, RF.ne_int, RF.ne_str, RF.dLt, RF.le_int, RF.gt_int, RF.ge_int, RF.dIs, RF.dLen, RF.dAbs, RF.dInt, RF.dList, RF.dTup, RF.dAll, RF.dAny, RF.dSum, RF.dMax2, RF.dMin2, RF.truthD, RF.isNon, hc, chD, dAdd]
      refine ⟨.inl ⟨by omega, by omega⟩, by decide, ?_, by trivial, by trivial⟩
      rw [show sizeLine = 16777216 from rfl]
      have : (⟨#[lc ((start : Int) + (i : Int) * (1 + 2 * st))]⟩ : Str).length = 1 := rfl
      omega
    · rw [rngL_nat, List.map_map]
      refine ⟨by rw [List.length_map, List.length_range, show sizeLine = 16777216 from rfl]; omega, ?_⟩
      simp -dsimp -implicitDefEqProofs only [RF.w_seq, RF.w_if, RF.w_asg, RF.w_ret, RF.w_drop, RF.w_nx, RF.w_run, RF.w_C, RF.w_var, RF.w_mv, RF.w_D, RF.w_V, RF.w_ev, RF.w_lv, RF.w_op, RF.w_T, RF.w_B, RF.w_notT, RF.w_andT, RF.w_orT, RF.w_andV, RF.w_orV, RF.w_not, RF.w_neg, RF.w_CB, RF.w_pre0, RF.w_pre, RF.w_isi, RF.w_evs0, RF.w_evs, RF.w_tup, RF.w_lst, RF.w_part0, RF.w_part, RF.w_sl, RF.w_call, RF.w_call0, RF.w_app, RF.w_ext, RF.w_ins, RF.w_pop, RF.w_setI, RF.w_aug, RF.w_asgT, RF.w_for, RF.w_for0, RF.w_for1, RF.w_it, RF.w_enum, RF.w_rng1, RF.w_rng2, RF.w_lc, RF.w_lc0, RF.w_lc1, RF.w_chain, RF.w_lam, RF.w_bnd, RF.oK_some, RF.oK_none, RF.oK_ite, RF.ifK_true, RF.ifK_false, RF.ifK_not, RF.seqK_nx, RF.seqK_bk, RF.seqK_ct, RF.seqK_rt, RF.stO_un, RF.stO_va, RF.stO_ow, RF.retK_rt, RF.retK_nx, RF.back_nil, RF.back_ow, RF.back_va, RF.varK_va, RF.varK_ow, RF.toD_lst, RF.toD_dct, RF.mvK_va, RF.mvK_ow, RF.rvK_va, RF.rvK_ow, RF.rdS_va, RF.rdS_ow, RF.fin_ev, RF.fin_lv, RF.ap2_some, RF.blK_bl, RF.negD, RF.cons2_some, RF.finL_nil, RF.finL_cons, RF.intK_int, RF.mkA_nil, RF.mkA_ev, RF.mkS_ow, RF.mkA_lv, RF.putA_nil, RF.putA_ev, RF.putS_ow, RF.putA_lv, RF.owS_ow, RF.vaS_va, RF.tgN_eq, RF.tgO_un, RF.tgO_va, RF.tgO_ow, RF.tgT_tup, RF.tgL_nil, RF.tgL_cons, RF.forK_nx, RF.forK_ct, RF.forK_bk, RF.forK_rt, RF.asV, Option.map_some, Option.map_none, Option.bind_some, Option.bind_none, Option.some.injEq, List.getElem?_cons_zero, List.getElem?_cons_succ, List.set_cons_zero, List.set_cons_succ, List.length_cons, List.length_nil, List.cons_append, List.nil_append, List.replicate_succ, List.replicate_zero, Nat.reduceAdd, Nat.reduceSub, Nat.add_zero, Nat.zero_add, Nat.sub_self, RF.seqI, RF.seqD, RF.wipeE, RF.restE, Option.getD_some, RF.ix_lst0, RF.ix_tup0, RF.ixN_0, RF.ix_lst1, RF.ix_tup1, RF.ixN_1, RF.ix_lst2, RF.ix_tup2, RF.ixN_2, RF.ix_lst3, RF.ix_tup3, RF.ixN_3, RF.ix_lst4, RF.ix_tup4, RF.ixN_4, RF.ix_lst5, RF.ix_tup5, RF.ixN_5, RF.ix_lst6, RF.ix_tup6, RF.ixN_6, RF.ix_lst7, RF.ix_tup7, RF.ixN_7, RF.ix_lst8, RF.ix_tup8, RF.ixN_8, RF.add_int, RF.dSub, RF.dMul, RF.dFdiv, RF.dMod, RF.dPow, RF.eq_int, RF.eq_str, RF.ne_int, RF.ne_str, RF.dLt, RF.le_int, RF.gt_int, RF.ge_int, RF.dIs, RF.dLen, RF.dAbs, RF.dInt, RF.dList, RF.dTup, RF.dAll, RF.dAny, RF.dSum, RF.dMax2, RF.dMin2, RF.truthD, RF.isNon]
      exact q (fun i => shared ++ (⟨#[lc ((start : Int) + (i : Int) * (1 + 2 * st))]⟩ : Str)) o t (fun k => by rw [app_len]; have : (⟨#[lc ((start : Int) + (k : Int) * (1 + 2 * st))]⟩ : Str).length = 1 := rfl; omega) (fun i j hi hj e => lc_inj (by omega) hi hj (str_app_l e)) h ht
  · simp -dsimp -implicitDefEqProofs only [RF.w_seq, RF.w_if, RF.w_asg, RF.w_ret, RF.w_drop, RF.w_nx, RF.w_run, RF.w_C, RF.w_var, RF.w_mv, RF.w_D, RF.w_V, RF.w_ev, RF.w_lv, RF.w_op, RF.w_T, RF.w_B, RF.w_notT, RF.w_andT, RF.w_orT, RF.w_andV, RF.w_orV, RF.w_not, RF.w_neg, RF.w_CB, RF.w_pre0, RF.w_pre, RF.w_isi, RF.w_evs0, RF.w_evs, RF.w_tup, RF.w_lst, RF.w_part0, RF.w_part, RF.w_sl, RF.w_call, RF.w_call0, RF.w_app, RF.w_ext, RF.w_ins, RF.w_pop, RF.w_setI, RF.w_aug, RF.w_asgT, RF.w_for, RF.w_for0, RF.w_for1, RF.w_it, RF.w_enum, RF.w_rng1, RF.w_rng2, RF.w_lc, RF.w_lc0, RF.w_lc1, RF.w_chain, RF.w_lam, RF.w_bnd, RF.oK_some, RF.oK_none, RF.oK_ite, RF.ifK_true, RF.ifK_false, RF.ifK_not, RF.seqK_nx, RF.seqK_bk, RF.seqK_ct, RF.seqK_rt, RF.stO_un, RF.stO_va, RF.stO_ow, RF.retK_rt, RF.retK_nx, RF.back_nil, RF.back_ow, RF.back_va, RF.varK_va, RF.varK_ow, RF.toD_lst, RF.toD_dct, RF.mvK_va, RF.mvK_ow, RF.rvK_va, RF.rvK_ow, RF.rdS_va, RF.rdS_ow, RF.fin_ev, RF.fin_lv, RF.ap2_some, RF.blK_bl, RF.negD, RF.cons2_some, RF.finL_nil, RF.finL_cons, RF.intK_int, RF.mkA_nil, RF.mkA_ev, RF.mkS_ow, RF.mkA_lv, RF.putA_nil, RF.putA_ev, RF.putS_ow, RF.putA_lv, RF.owS_ow, RF.vaS_va, RF.tgN_eq, RF.tgO_un, RF.tgO_va, RF.tgO_ow, RF.tgT_tup, RF.tgL_nil, RF.tgL_cons, RF.forK_nx, RF.forK_ct, RF.forK_bk, RF.forK_rt, RF.asV, Option.map_some, Option.map_none, Option.bind_some, Option.bind_none, Option.some.injEq, List.getElem?_cons_zero, List.getElem?_cons_succ, List.set_cons_zero, List.set_cons_succ, List.length_cons, List.length_nil, List.cons_append, List.nil_append, List.replicate_succ, List.replicate_zero, Nat.reduceAdd, Nat.reduceSub, Nat.add_zero, Nat.zero_add, Nat.sub_self, RF.seqI, RF.seqD, RF.wipeE, RF.restE, Option.getD_some, RF.ix_lst0, RF.ix_tup0, RF.ixN_0, RF.ix_lst1, RF.ix_tup1, RF.ixN_1, RF.ix_lst2, RF.ix_tup2, RF.ixN_2, RF.ix_lst3, RF.ix_tup3, RF.ixN_3, RF.ix_lst4, RF.ix_tup4, RF.ixN_4, RF.ix_lst5, RF.ix_tup5, RF.ixN_5, RF.ix_lst6, RF.ix_tup6, RF.ixN_6, RF.ix_lst7, RF.ix_tup7, RF.ixN_7, RF.ix_lst8, RF.ix_tup8, RF.ixN_8, RF.add_int, RF.dSub, RF.dMul, RF.dFdiv, RF.dMod, RF.dPow, RF.eq_int, RF.eq_str, RF.ne_int, RF.ne_str, RF.dLt, RF.le_int, RF.gt_int, RF.ge_int, RF.dIs, RF.dLen, RF.dAbs, RF.dInt, RF.dList, RF.dTup, RF.dAll, RF.dAny, RF.dSum, RF.dMax2, RF.dMin2, RF.truthD, RF.isNon]
    refine ⟨inRng_nat (by omega), by rfl, ?_⟩
    refine (wp_of (lc_map (fun d => match d with | .int i => .str ((⟨#[lc ((start : Int) + i * (1 + 2 * st))]⟩ : Str) ++ shared) | _ => .non) (rngL 0 n) (fun i d e => ?_))).mpr ?_
    · obtain ⟨hin, rfl⟩ := rngL_get e
      refine ⟨_, rfl, ?_⟩
      have hc := letter (x := (start : Int) + (i : Int) * (1 + 2 * st))
      simp -dsimp -implicitDefEqProofs only [RF.w_seq, RF.w_if, RF.w_asg, RF.w_ret, RF.w_drop, RF.w_nx, RF.w_run, RF.w_C, RF.w_var, RF.w_mv, RF.w_D, RF.w_V, RF.w_ev, RF.w_lv, RF.w_op, RF.w_T, RF.w_B, RF.w_notT, RF.w_andT, RF.w_orT, RF.w_andV, RF.w_orV, RF.w_not, RF.w_neg, RF.w_CB, RF.w_pre0, RF.w_pre, RF.w_isi, RF.w_evs0, RF.w_evs, RF.w_tup, RF.w_lst, RF.w_part0, RF.w_part, RF.w_sl, RF.w_call, RF.w_call0, RF.w_app, RF.w_ext, RF.w_ins, RF.w_pop, RF.w_setI, RF.w_aug, RF.w_asgT, RF.w_for, RF.w_for0, RF.w_for1, RF.w_it, RF.w_enum, RF.w_rng1, RF.w_rng2, RF.w_lc, RF.w_lc0, RF.w_lc1, RF.w_chain, RF.w_lam, RF.w_bnd, RF.oK_some, RF.oK_none, RF.oK_ite, RF.ifK_true, RF.ifK_false, RF.ifK_not, RF.seqK_nx, RF.seqK_bk, RF.seqK_ct, RF.seqK_rt, RF.stO_un, RF.stO_va, RF.stO_ow, RF.retK_rt, RF.retK_nx, RF.back_nil, RF.back_ow, RF.back_va, RF.varK_va, RF.varK_ow, RF.toD_lst, RF.toD_dct, RF.mvK_va, RF.mvK_ow, RF.rvK_va, RF.rvK_ow, RF.rdS_va, RF.rdS_ow, RF.fin_ev, RF.fin_lv, RF.ap2_some, RF.blK_bl, RF.negD, RF.cons2_some, RF.finL_nil, RF.finL_cons, RF.intK_int, RF.mkA_nil, RF.mkA_ev, RF.mkS_ow, RF.mkA_lv, RF.putA_nil, RF.putA_ev, RF.putS_ow, RF.putA_lv, RF.owS_ow, RF.vaS_va, RF.tgN_eq, RF.tgO_un, RF.tgO_va, RF.tgO_ow, RF.tgT_tup, RF.tgL_nil, RF.tgL_cons, RF.forK_nx, RF.forK_ct, RF.forK_bk, RF.forK_rt, RF.asV, Option.map_some, Option.map_none, Option.bind_some, Option.bind_none, Option.some.injEq, List.getElem?_cons_zero, List.getElem?_cons_succ, List.set_cons_zero, List.set_cons_succ, List.length_cons, List.length_nil, List.cons_append, List.nil_append, List.replicate_succ, List.replicate_zero, Nat.reduceAdd, Nat.reduceSub, Nat.add_zero, Nat.zero_add, Nat.sub_self, RF.seqI, RF.seqD, RF.wipeE, RF.restE, Option.getD_some, RF.ix_lst0, RF.ix_tup0, RF.ixN_0, RF.ix_lst1, RF.ix_tup1, RF.ixN_1, RF.ix_lst2, RF.ix_tup2, RF.ixN_2, RF.ix_lst3, RF.ix_tup3, RF.ixN_3, RF.ix_lst4, RF.ix_tup4, RF.ixN_4, RF.ix_lst5, RF.ix_tup5, RF.ixN_5, RF.ix_lst6, RF.ix_tup6, RF.ixN_6, RF.ix_lst7, RF.ix_tup7, RF.ixN_7, RF.ix_lst8, RF.ix_tup8, RF.ixN_8, RF.add_int, RF.dSub, RF.dMul, RF.dFdiv, RF.dMod, RF.dPow, RF.eq_int, RF.eq_str, RF.ne_int, RF.ne_str, RF.dLt, RF.le_int, RF.gt_int, RF.ge_int, RF.dIs, RF.dLen, RF.dAbs, RF.dInt, RF.dList, RF.dTup, RF.dAll, RF.dAny, RF.dSum, RF.dMax2, RF.dMin2, RF.truthD, RF.isNon, hc, chD, dAdd]
      refine ⟨.inl ⟨by omega, by omega⟩, by decide, ?_, by trivial, by trivial⟩
      rw [show sizeLine = 16777216 from rfl]
      have : (⟨#[lc ((start : Int) + (i : Int) * (1 + 2 * st))]⟩ : Str).length = 1 := rfl
      omega
    · rw [rngL_nat, List.map_map]
      refine ⟨by rw [List.length_map, List.length_range, show sizeLine = 16777216 from rfl]; omega, ?_⟩
      simp -dsimp -implicitDefEqProofs only [RF.w_seq, RF.w_if, RF.w_asg, RF.w_ret, RF.w_drop, RF.w_nx, RF.w_run, RF.w_C, RF.w_var, RF.w_mv, RF.w_D, RF.w_V, RF.w_ev, RF.w_lv, RF.w_op, RF.w_T, RF.w_B, RF.w_notT, RF.w_andT, RF.w_orT, RF.w_andV, RF.w_orV, RF.w_not, RF.w_neg, RF.w_CB, RF.w_pre0, RF.w_pre, RF.w_isi, RF.w_evs0, RF.w_evs, RF.w_tup, RF.w_lst, RF.w_part0, RF.w_part, RF.w_sl, RF.w_call, RF.w_call0, RF.w_app, RF.w_ext, RF.w_ins, RF.w_pop, RF.w_setI, RF.w_aug, RF.w_asgT, RF.w_for, RF.w_for0, RF.w_for1, RF.w_it, RF.w_enum, RF.w_rng1, RF.w_rng2, RF.w_lc, RF.w_lc0, RF.w_lc1, RF.w_chain, RF.w_lam, RF.w_bnd, RF.oK_some, RF.oK_none, RF.oK_ite, RF.ifK_true, RF.ifK_false, RF.ifK_not, RF.seqK_nx, RF.seqK_bk, RF.seqK_ct, RF.seqK_rt, RF.stO_un, RF.stO_va, RF.stO_ow, RF.retK_rt, RF.retK_nx, RF.back_nil, RF.back_ow, RF.back_va, RF.varK_va, RF.varK_ow, RF.toD_lst, RF.toD_dct, RF.mvK_va, RF.mvK_ow, RF.rvK_va, RF.rvK_ow, RF.rdS_va, RF.rdS_ow, RF.fin_ev, RF.fin_lv, RF.ap2_some, RF.blK_bl, RF.negD, RF.cons2_some, RF.finL_nil, RF.finL_cons, RF.intK_int, RF.mkA_nil, RF.mkA_ev, RF.mkS_ow, RF.mkA_lv, RF.putA_nil, RF.putA_ev, RF.putS_ow, RF.putA_lv, RF.owS_ow, RF.vaS_va, RF.tgN_eq, RF.tgO_un, RF.tgO_va, RF.tgO_ow, RF.tgT_tup, RF.tgL_nil, RF.tgL_cons, RF.forK_nx, RF.forK_ct, RF.forK_bk, RF.forK_rt, RF.asV, Option.map_some, Option.map_none, Option.bind_some, Option.bind_none, Option.some.injEq, List.getElem?_cons_zero, List.getElem?_cons_succ, List.set_cons_zero, List.set_cons_succ, List.length_cons, List.length_nil, List.cons_append, List.nil_append, List.replicate_succ, List.replicate_zero, Nat.reduceAdd, Nat.reduceSub, Nat.add_zero, Nat.zero_add, Nat.sub_self, RF.seqI, RF.seqD, RF.wipeE, RF.restE, Option.getD_some, RF.ix_lst0, RF.ix_tup0, RF.ixN_0, RF.ix_lst1, RF.ix_tup1, RF.ixN_1, RF.ix_lst2, RF.ix_tup2, RF.ixN_2, RF.ix_lst3, RF.ix_tup3, RF.ixN_3, RF.ix_lst4, RF.ix_tup4, RF.ixN_4, RF.ix_lst5, RF.ix_tup5, RF.ixN_5, RF.ix_lst6, RF.ix_tup6, RF.ixN_6, RF.ix_lst7, RF.ix_tup7, RF.ixN_7, RF.ix_lst8, RF.ix_tup8, RF.ixN_8, RF.add_int, RF.dSub, RF.dMul, RF.dFdiv, RF.dMod, RF.dPow, RF.eq_int, RF.eq_str, RF.ne_int, RF.ne_str, RF.dLt, RF.le_int, RF.gt_int, RF.ge_int, RF.dIs, RF.dLen, RF.dAbs, RF.dInt, RF.dList, RF.dTup, RF.dAll, RF.dAny, RF.dSum, RF.dMax2, RF.dMin2, RF.truthD, RF.isNon]
      exact q (fun i => (⟨#[lc ((start : Int) + (i : Int) * (1 + 2 * st))]⟩ : Str) ++ shared) o t (fun k => by rw [app_len]; have : (⟨#[lc ((start : Int) + (k : Int) * (1 + 2 * st))]⟩ : Str).length = 1 := rfl; omega) (fun i j hi hj e => lc_inj (by omega) hi hj (str_app_r e)) h ht
theorem kinds2 {r : Nat} (h : (r : Int) < 2) : ∃ b, dIx (.lst [.str (Str.ofString "int"), .str (Str.ofString "array")]) (.int (r : Int)) = some (.va (kD b)) := by
  have : r = 0 ∨ r = 1 := by omega
  rcases this with rfl | rfl
  · exact ⟨false, rfl⟩
  · exact ⟨true, rfl⟩
theorem ix_lN {ds : List D} {k : Nat} (h : k < ds.length) : dIx (.lst ds) (.int (k : Int)) = some (.va ds[k]) := by
  simp only [dIx, atI_nat h, Option.map_some]
def POk (p : P) : Prop := p.items.length ≤ 10 ∧ p.res.length ≤ 10
theorem res_add {s : Str} (h : s.length ≤ 10) : dAdd (.str (Str.ofString "result.")) (.str s) = some (.va (.str (Str.ofString "result." ++ s))) := by
  simp only [dAdd]
  have : (Str.ofString "result.").length = 7 := by decide +kernel
  rw [if_pos (by rw [show sizeLine = 16777216 from rfl]; omega)]
theorem res3 {c : Nat} (h : (c : Int) < 3) (x y : D) (hx : ∃ s, x = .str s) (hy : ∃ s, y = .str s) : ∃ rs : List Str, dIx (.lst [.tup [], .tup [.str (Str.ofString "result")], .tup [x, y]]) (.int (c : Int)) = some (.va (.tup (rs.map D.str))) ∧ rs.length ≤ 2 := by
  obtain ⟨sx, rfl⟩ := hx
  obtain ⟨sy, rfl⟩ := hy
  have : c = 0 ∨ c = 1 ∨ c = 2 := by omega
  rcases this with rfl | rfl | rfl
  · exact ⟨[], ix_lst0, by simp⟩
  · exact ⟨[Str.ofString "result"], ix_lst1, by simp⟩
  · exact ⟨[sx, sy], ix_lst2, by simp⟩
theorem core_spec {ns : List Int} {o : Ob} (h : DrS ns o) {Q : RV → RF.Env → Prop} {E : Exc → RF.Env → Prop} (q : ∀ ps o' t, 0 < ps.length → PsOk ps → (ps.map P.name).Nodup → (∀ p ∈ ps, p.name.length ≤ 10) → DrS ns o' → o'.toD = some t → Q (.va (.tup (ps.map pD))) [.ow true o']) : wp F__law_shape_core [.ow true o] Q E := by
  obtain ⟨t, ht⟩ := h.toD
  unfold F__law_shape_core b__law_shape_core
  simp -dsimp -implicitDefEqProofs only [RF.w_seq, RF.w_if, RF.w_asg, RF.w_ret, RF.w_drop, RF.w_nx, RF.w_run, RF.w_C, RF.w_var, RF.w_mv, RF.w_D, RF.w_V, RF.w_ev, RF.w_lv, RF.w_op, RF.w_T, RF.w_B, RF.w_notT, RF.w_andT, RF.w_orT, RF.w_andV, RF.w_orV, RF.w_not, RF.w_neg, RF.w_CB, RF.w_pre0, RF.w_pre, RF.w_isi, RF.w_evs0, RF.w_evs, RF.w_tup, RF.w_lst, RF.w_part0, RF.w_part, RF.w_sl, RF.w_call, RF.w_call0, RF.w_app, RF.w_ext, RF.w_ins, RF.w_pop, RF.w_setI, RF.w_aug, RF.w_asgT, RF.w_for, RF.w_for0, RF.w_for1, RF.w_it, RF.w_enum, RF.w_rng1, RF.w_rng2, RF.w_lc, RF.w_lc0, RF.w_lc1, RF.w_chain, RF.w_lam, RF.w_bnd, RF.oK_some, RF.oK_none, RF.oK_ite, RF.ifK_true, RF.ifK_false, RF.ifK_not, RF.seqK_nx, RF.seqK_bk, RF.seqK_ct, RF.seqK_rt, RF.stO_un, RF.stO_va, RF.stO_ow, RF.retK_rt, RF.retK_nx, RF.back_nil, RF.back_ow, RF.back_va, RF.varK_va, RF.varK_ow, RF.toD_lst, RF.toD_dct, RF.mvK_va, RF.mvK_ow, RF.rvK_va, RF.rvK_ow, RF.rdS_va, RF.rdS_ow, RF.fin_ev, RF.fin_lv, RF.ap2_some, RF.blK_bl, RF.negD, RF.cons2_some, RF.finL_nil, RF.finL_cons, RF.intK_int, RF.mkA_nil, RF.mkA_ev, RF.mkS_ow, RF.mkA_lv, RF.putA_nil, RF.putA_ev, RF.putS_ow, RF.putA_lv, RF.owS_ow, RF.vaS_va, RF.tgN_eq, RF.tgO_un, RF.tgO_va, RF.tgO_ow, RF.tgT_tup, RF.tgL_nil, RF.tgL_cons, RF.forK_nx, RF.forK_ct, RF.forK_bk, RF.forK_rt, RF.asV, Option.map_some, Option.map_none, Option.bind_some, Option.bind_none, Option.some.injEq, List.getElem?_cons_zero, List.getElem?_cons_succ, List.set_cons_zero, List.set_cons_succ, List.length_cons, List.length_nil, List.cons_append, List.nil_append, List.replicate_succ, List.replicate_zero, Nat.reduceAdd, Nat.reduceSub, Nat.add_zero, Nat.zero_add, Nat.sub_self, RF.seqI, RF.seqD, RF.wipeE, RF.restE, Option.getD_some, RF.ix_lst0, RF.ix_tup0, RF.ixN_0, RF.ix_lst1, RF.ix_tup1, RF.ixN_1, RF.ix_lst2, RF.ix_tup2, RF.ixN_2, RF.ix_lst3, RF.ix_tup3, RF.ixN_3, RF.ix_lst4, RF.ix_tup4, RF.ixN_4, RF.ix_lst5, RF.ix_tup5, RF.ixN_5, RF.ix_lst6, RF.ix_tup6, RF.ixN_6, RF.ix_lst7, RF.ix_tup7, RF.ixN_7, RF.ix_lst8, RF.ix_tup8, RF.ixN_8, RF.add_int, RF.dSub, RF.dMul, RF.dFdiv, RF.dMod, RF.dPow, RF.eq_int, RF.eq_str, RF.ne_int, RF.ne_str, RF.dLt, RF.le_int, RF.gt_int, RF.ge_int, RF.dIs, RF.dLen, RF.dAbs, RF.dInt, RF.dList, RF.dTup, RF.dAll, RF.dAny, RF.dSum, RF.dMax2, RF.dMin2, RF.truthD, RF.isNon, ht]
  refine words_spec (n := 9) h (by decide) fun w o t hwl hwi h ht => ?_
  obtain ⟨ss, hsd⟩ : ∃ ss, ss = (List.range 9).map w := ⟨_, rfl⟩
  have hss : ∀ s ∈ ss, s.length ≤ 10 := by
    rw [hsd]
    intro s hs
    obtain ⟨k, _, rfl⟩ := List.mem_map.mp hs
    exact hwl k
  have hw : ss.length = 9 := by rw [hsd]; rfl
  have hnd : ss.Nodup := by
    rw [hsd]
    unfold List.Nodup
    rw [List.pairwise_map]
    refine List.Pairwise.imp_of_mem ?_ List.nodup_range
    intro i j hi hj hne e
    rw [List.mem_range] at hi hj
    exact hne (hwi i j (by omega) (by omega) e)
  rw [show ((List.range 9).map fun k => D.str (w k)) = ss.map D.str by rw [hsd, List.map_map]; rfl]
  simp -dsimp -implicitDefEqProofs only [RF.w_seq, RF.w_if, RF.w_asg, RF.w_ret, RF.w_drop, RF.w_nx, RF.w_run, RF.w_C, RF.w_var, RF.w_mv, RF.w_D, RF.w_V, RF.w_ev, RF.w_lv, RF.w_op, RF.w_T, RF.w_B, RF.w_notT, RF.w_andT, RF.w_orT, RF.w_andV, RF.w_orV, RF.w_not, RF.w_neg, RF.w_CB, RF.w_pre0, RF.w_pre, RF.w_isi, RF.w_evs0, RF.w_evs, RF.w_tup, RF.w_lst, RF.w_part0, RF.w_part, RF.w_sl, RF.w_call, RF.w_call0, RF.w_app, RF.w_ext, RF.w_ins, RF.w_pop, RF.w_setI, RF.w_aug, RF.w_asgT, RF.w_for, RF.w_for0, RF.w_for1, RF.w_it, RF.w_enum, RF.w_rng1, RF.w_rng2, RF.w_lc, RF.w_lc0, RF.w_lc1, RF.w_chain, RF.w_lam, RF.w_bnd, RF.oK_some, RF.oK_none, RF.oK_ite, RF.ifK_true, RF.ifK_false, RF.ifK_not, RF.seqK_nx, RF.seqK_bk, RF.seqK_ct, RF.seqK_rt, RF.stO_un, RF.stO_va, RF.stO_ow, RF.retK_rt, RF.retK_nx, RF.back_nil, RF.back_ow, RF.back_va, RF.varK_va, RF.varK_ow, RF.toD_lst, RF.toD_dct, RF.mvK_va, RF.mvK_ow, RF.rvK_va, RF.rvK_ow, RF.rdS_va, RF.rdS_ow, RF.fin_ev, RF.fin_lv, RF.ap2_some, RF.blK_bl, RF.negD, RF.cons2_some, RF.finL_nil, RF.finL_cons, RF.intK_int, RF.mkA_nil, RF.mkA_ev, RF.mkS_ow, RF.mkA_lv, RF.putA_nil, RF.putA_ev, RF.putS_ow, RF.putA_lv, RF.owS_ow, RF.vaS_va, RF.tgN_eq, RF.tgO_un, RF.tgO_va, RF.tgO_ow, RF.tgT_tup, RF.tgL_nil, RF.tgL_cons, RF.forK_nx, RF.forK_ct, RF.forK_bk, RF.forK_rt, RF.asV, Option.map_some, Option.map_none, Option.bind_some, Option.bind_none, Option.some.injEq, List.getElem?_cons_zero, List.getElem?_cons_succ, List.set_cons_zero, List.set_cons_succ, List.length_cons, List.length_nil, List.cons_append, List.nil_append, List.replicate_succ, List.replicate_zero, Nat.reduceAdd, Nat.reduceSub, Nat.add_zero, Nat.zero_add, Nat.sub_self, RF.seqI, RF.seqD, RF.wipeE, RF.restE, Option.getD_some, RF.ix_lst0, RF.ix_tup0, RF.ixN_0, RF.ix_lst1, RF.ix_tup1, RF.ixN_1, RF.ix_lst2, RF.ix_tup2, RF.ixN_2, RF.ix_lst3, RF.ix_tup3, RF.ixN_3, RF.ix_lst4, RF.ix_tup4, RF.ixN_4, RF.ix_lst5, RF.ix_tup5, RF.ixN_5, RF.ix_lst6, RF.ix_tup6, RF.ixN_6, RF.ix_lst7, RF.ix_tup7, RF.ixN_7, RF.ix_lst8, RF.ix_tup8, RF.ixN_8, RF.add_int, RF.dSub, RF.dMul, RF.dFdiv, RF.dMod, RF.dPow, RF.eq_int, RF.eq_str, RF.ne_int, RF.ne_str, RF.dLt, RF.le_int, RF.gt_int, RF.ge_int, RF.dIs, RF.dLen, RF.dAbs, RF.dInt, RF.dList, RF.dTup, RF.dAll, RF.dAny, RF.dSum, RF.dMax2, RF.dMin2, RF.truthD, RF.isNon, ht, q__law_draw]
  refine drawK h (by decide) (by decide) fun r o t hr h ht => ?_
  have er : (1 : Int) + (r : Int) = ((1 + r : Nat) : Int) := by omega
  have hlt : (ss.take (1 + r)).length = 1 + r := by rw [List.length_take]; omega
  have hst := sorted_strs (ss := ss.take (1 + r)) (by omega) (by omega)
  rw [List.map_take] at hst
  simp -dsimp -implicitDefEqProofs only [RF.w_seq, RF.w_if, RF.w_asg, RF.w_ret, RF.w_drop, RF.w_nx, RF.w_run, RF.w_C, RF.w_var, RF.w_mv, RF.w_D, RF.w_V, RF.w_ev, RF.w_lv, RF.w_op, RF.w_T, RF.w_B, RF.w_notT, RF.w_andT, RF.w_orT, RF.w_andV, RF.w_orV, RF.w_not, RF.w_neg, RF.w_CB, RF.w_pre0, RF.w_pre, RF.w_isi, RF.w_evs0, RF.w_evs, RF.w_tup, RF.w_lst, RF.w_part0, RF.w_part, RF.w_sl, RF.w_call, RF.w_call0, RF.w_app, RF.w_ext, RF.w_ins, RF.w_pop, RF.w_setI, RF.w_aug, RF.w_asgT, RF.w_for, RF.w_for0, RF.w_for1, RF.w_it, RF.w_enum, RF.w_rng1, RF.w_rng2, RF.w_lc, RF.w_lc0, RF.w_lc1, RF.w_chain, RF.w_lam, RF.w_bnd, RF.oK_some, RF.oK_none, RF.oK_ite, RF.ifK_true, RF.ifK_false, RF.ifK_not, RF.seqK_nx, RF.seqK_bk, RF.seqK_ct, RF.seqK_rt, RF.stO_un, RF.stO_va, RF.stO_ow, RF.retK_rt, RF.retK_nx, RF.back_nil, RF.back_ow, RF.back_va, RF.varK_va, RF.varK_ow, RF.toD_lst, RF.toD_dct, RF.mvK_va, RF.mvK_ow, RF.rvK_va, RF.rvK_ow, RF.rdS_va, RF.rdS_ow, RF.fin_ev, RF.fin_lv, RF.ap2_some, RF.blK_bl, RF.negD, RF.cons2_some, RF.finL_nil, RF.finL_cons, RF.intK_int, RF.mkA_nil, RF.mkA_ev, RF.mkS_ow, RF.mkA_lv, RF.putA_nil, RF.putA_ev, RF.putS_ow, RF.putA_lv, RF.owS_ow, RF.vaS_va, RF.tgN_eq, RF.tgO_un, RF.tgO_va, RF.tgO_ow, RF.tgT_tup, RF.tgL_nil, RF.tgL_cons, RF.forK_nx, RF.forK_ct, RF.forK_bk, RF.forK_rt, RF.asV, Option.map_some, Option.map_none, Option.bind_some, Option.bind_none, Option.some.injEq, List.getElem?_cons_zero, List.getElem?_cons_succ, List.set_cons_zero, List.set_cons_succ, List.length_cons, List.length_nil, List.cons_append, List.nil_append, List.replicate_succ, List.replicate_zero, Nat.reduceAdd, Nat.reduceSub, Nat.add_zero, Nat.zero_add, Nat.sub_self, RF.seqI, RF.seqD, RF.wipeE, RF.restE, Option.getD_some, RF.ix_lst0, RF.ix_tup0, RF.ixN_0, RF.ix_lst1, RF.ix_tup1, RF.ixN_1, RF.ix_lst2, RF.ix_tup2, RF.ixN_2, RF.ix_lst3, RF.ix_tup3, RF.ixN_3, RF.ix_lst4, RF.ix_tup4, RF.ixN_4, RF.ix_lst5, RF.ix_tup5, RF.ixN_5, RF.ix_lst6, RF.ix_tup6, RF.ixN_6, RF.ix_lst7, RF.ix_tup7, RF.ixN_7, RF.ix_lst8, RF.ix_tup8, RF.ixN_8, RF.add_int, RF.dSub, RF.dMul, RF.dFdiv, RF.dMod, RF.dPow, RF.eq_int, RF.eq_str, RF.ne_int, RF.ne_str, RF.dLt, RF.le_int, RF.gt_int, RF.ge_int, RF.dIs, RF.dLen, RF.dAbs, RF.dInt, RF.dList, RF.dTup, RF.dAll, RF.dAny, RF.dSum, RF.dMax2, RF.dMin2, RF.truthD, RF.isNon, RF.dSl, RF.cut_to, RF.cut_ofS, RF.cut_of, ht, er, hst]
  have hnl : (sortSs (ss.take (1 + r))).length = 1 + r := (sortSs_perm _).length_eq.trans hlt
  have hnn : (sortSs (ss.take (1 + r))).Nodup := (sortSs_perm _).nodup_iff.mpr (hnd.sublist (List.take_sublist _ _))
  have hnm : ∀ s ∈ sortSs (ss.take (1 + r)), s.length ≤ 10 := fun s hs => hss s (List.mem_of_mem_take ((sortSs_perm _).mem_iff.mp hs))
  generalize sortSs (ss.take (1 + r)) = nm at hnl hnn hnm ⊢
  refine wp_forI (nm.map D.str) (fun k r => ∃ ps o s3 s4 s6 s7, ps.map P.name = nm.take k ∧ (∀ p ∈ ps, POk p) ∧ DrS ns o ∧ Sb s3 ∧ Sb s4 ∧ Sb s6 ∧ Sb s7 ∧ r = [.ow true o, .ow false (.lst (ss.map D.str)), .ow false (.lst (ps.map pD)), s3, s4, .un, s6, s7]) ?_ ?_ _ ⟨[], o, _, _, _, _, by rfl, by simp, h, .un, .un, .un, .un, rfl⟩
  · rintro k d rr hk ⟨ps, o, s3, s4, s6, s7, hpl, hps, h, p3, p4, p6, p7, rfl⟩
    obtain ⟨nme, rfl, hnk⟩ : ∃ s, d = .str s ∧ nm[k]? = some s := by
      rw [List.getElem?_map] at hk
      cases e2 : nm[k]? with
      | none => rw [e2] at hk; cases hk
      | some p => rw [e2] at hk; cases hk; exact ⟨_, rfl, rfl⟩
    obtain ⟨hnk1, hnk2⟩ := List.getElem?_eq_some_iff.mp hnk
    have hpl2 : ps.length ≤ 3 := by
      have := congrArg List.length hpl
      rw [List.length_map, List.length_take] at this
      omega
    obtain ⟨t, ht⟩ := h.toD
    have hkl : k < 1 + r := by
      have := (List.getElem?_eq_some_iff.mp hk).1
      rw [List.length_map] at this
      omega
    refine ⟨[.ow true o, .ow false (.lst (ss.map D.str)), .ow false (.lst (ps.map pD)), .va (.str nme), s4, .un, s6, s7], ?_, ?_⟩
    · simp -dsimp -implicitDefEqProofs only [RF.w_seq, RF.w_if, RF.w_asg, RF.w_ret, RF.w_drop, RF.w_nx, RF.w_run, RF.w_C, RF.w_var, RF.w_mv, RF.w_D, RF.w_V, RF.w_ev, RF.w_lv, RF.w_op, RF.w_T, RF.w_B, RF.w_notT, RF.w_andT, RF.w_orT, RF.w_andV, RF.w_orV, RF.w_not, RF.w_neg, RF.w_CB, RF.w_pre0, RF.w_pre, RF.w_isi, RF.w_evs0, RF.w_evs, RF.w_tup, RF.w_lst, RF.w_part0, RF.w_part, RF.w_sl, RF.w_call, RF.w_call0, RF.w_app, RF.w_ext, RF.w_ins, RF.w_pop, RF.w_setI, RF.w_aug, RF.w_asgT, RF.w_for, RF.w_for0, RF.w_for1, RF.w_it, RF.w_enum, RF.w_rng1, RF.w_rng2, RF.w_lc, RF.w_lc0, RF.w_lc1, RF.w_chain, RF.w_lam, RF.w_bnd, RF.oK_some, RF.oK_none, RF.oK_ite, RF.ifK_true, RF.ifK_false, RF.ifK_not, RF.seqK_nx, RF.seqK_bk, RF.seqK_ct, RF.seqK_rt, RF.stO_un, RF.stO_va, RF.stO_ow, RF.retK_rt, RF.retK_nx, RF.back_nil, RF.back_ow, RF.back_va, RF.varK_va, RF.varK_ow, RF.toD_lst, RF.toD_dct, RF.mvK_va, RF.mvK_ow, RF.rvK_va, RF.rvK_ow, RF.rdS_va, RF.rdS_ow, RF.fin_ev, RF.fin_lv, RF.ap2_some, RF.blK_bl, RF.negD, RF.cons2_some, RF.finL_nil, RF.finL_cons, RF.intK_int, RF.mkA_nil, RF.mkA_ev, RF.mkS_ow, RF.mkA_lv, RF.putA_nil, RF.putA_ev, RF.putS_ow, RF.putA_lv, RF.owS_ow, RF.vaS_va, RF.tgN_eq, RF.tgO_un, RF.tgO_va, RF.tgO_ow, RF.tgT_tup, RF.tgL_nil, RF.tgL_cons, RF.forK_nx, RF.forK_ct, RF.forK_bk, RF.forK_rt, RF.asV, Option.map_some, Option.map_none, Option.bind_some, Option.bind_none, Option.some.injEq, List.getElem?_cons_zero, List.getElem?_cons_succ, List.set_cons_zero, List.set_cons_succ, List.length_cons, List.length_nil, List.cons_append, List.nil_append, List.replicate_succ, List.replicate_zero, Nat.reduceAdd, Nat.reduceSub, Nat.add_zero, Nat.zero_add, Nat.sub_self, RF.seqI, RF.seqD, RF.wipeE, RF.restE, Option.getD_some, RF.ix_lst0, RF.ix_tup0, RF.ixN_0, RF.ix_lst1, RF.ix_tup1, RF.ixN_1, RF.ix_lst2, RF.ix_tup2, RF.ixN_2, RF.ix_lst3, RF.ix_tup3, RF.ixN_3, RF.ix_lst4, RF.ix_tup4, RF.ixN_4, RF.ix_lst5, RF.ix_tup5, RF.ixN_5, RF.ix_lst6, RF.ix_tup6, RF.ixN_6, RF.ix_lst7, RF.ix_tup7, RF.ixN_7, RF.ix_lst8, RF.ix_tup8, RF.ixN_8, RF.add_int, RF.dSub, RF.dMul, RF.dFdiv, RF.dMod, RF.dPow, RF.eq_int, RF.eq_str, RF.ne_int, RF.ne_str, RF.dLt, RF.le_int, RF.gt_int, RF.ge_int, RF.dIs, RF.dLen, RF.dAbs, RF.dInt, RF.dList, RF.dTup, RF.dAll, RF.dAny, RF.dSum, RF.dMax2, RF.dMin2, RF.truthD, RF.isNon, p3.tg]
    simp -dsimp -implicitDefEqProofs only [RF.w_seq, RF.w_if, RF.w_asg, RF.w_ret, RF.w_drop, RF.w_nx, RF.w_run, RF.w_C, RF.w_var, RF.w_mv, RF.w_D, RF.w_V, RF.w_ev, RF.w_lv, RF.w_op, RF.w_T, RF.w_B, RF.w_notT, RF.w_andT, RF.w_orT, RF.w_andV, RF.w_orV, RF.w_not, RF.w_neg, RF.w_CB, RF.w_pre0, RF.w_pre, RF.w_isi, RF.w_evs0, RF.w_evs, RF.w_tup, RF.w_lst, RF.w_part0, RF.w_part, RF.w_sl, RF.w_call, RF.w_call0, RF.w_app, RF.w_ext, RF.w_ins, RF.w_pop, RF.w_setI, RF.w_aug, RF.w_asgT, RF.w_for, RF.w_for0, RF.w_for1, RF.w_it, RF.w_enum, RF.w_rng1, RF.w_rng2, RF.w_lc, RF.w_lc0, RF.w_lc1, RF.w_chain, RF.w_lam, RF.w_bnd, RF.oK_some, RF.oK_none, RF.oK_ite, RF.ifK_true, RF.ifK_false, RF.ifK_not, RF.seqK_nx, RF.seqK_bk, RF.seqK_ct, RF.seqK_rt, RF.stO_un, RF.stO_va, RF.stO_ow, RF.retK_rt, RF.retK_nx, RF.back_nil, RF.back_ow, RF.back_va, RF.varK_va, RF.varK_ow, RF.toD_lst, RF.toD_dct, RF.mvK_va, RF.mvK_ow, RF.rvK_va, RF.rvK_ow, RF.rdS_va, RF.rdS_ow, RF.fin_ev, RF.fin_lv, RF.ap2_some, RF.blK_bl, RF.negD, RF.cons2_some, RF.finL_nil, RF.finL_cons, RF.intK_int, RF.mkA_nil, RF.mkA_ev, RF.mkS_ow, RF.mkA_lv, RF.putA_nil, RF.putA_ev, RF.putS_ow, RF.putA_lv, RF.owS_ow, RF.vaS_va, RF.tgN_eq, RF.tgO_un, RF.tgO_va, RF.tgO_ow, RF.tgT_tup, RF.tgL_nil, RF.tgL_cons, RF.forK_nx, RF.forK_ct, RF.forK_bk, RF.forK_rt, RF.asV, Option.map_some, Option.map_none, Option.bind_some, Option.bind_none, Option.some.injEq, List.getElem?_cons_zero, List.getElem?_cons_succ, List.set_cons_zero, List.set_cons_succ, List.length_cons, List.length_nil, List.cons_append, List.nil_append, List.replicate_succ, List.replicate_zero, Nat.reduceAdd, Nat.reduceSub, Nat.add_zero, Nat.zero_add, Nat.sub_self, RF.seqI, RF.seqD, RF.wipeE, RF.restE, Option.getD_some, RF.ix_lst0, RF.ix_tup0, RF.ixN_0, RF.ix_lst1, RF.ix_tup1, RF.ixN_1, RF.ix_lst2, RF.ix_tup2, RF.ixN_2, RF.ix_lst3, RF.ix_tup3, RF.ixN_3, RF.ix_lst4, RF.ix_tup4, RF.ixN_4, RF.ix_lst5, RF.ix_tup5, RF.ixN_5, RF.ix_lst6, RF.ix_tup6, RF.ixN_6, RF.ix_lst7, RF.ix_tup7, RF.ixN_7, RF.ix_lst8, RF.ix_tup8, RF.ixN_8, RF.add_int, RF.dSub, RF.dMul, RF.dFdiv, RF.dMod, RF.dPow, RF.eq_int, RF.eq_str, RF.ne_int, RF.ne_str, RF.dLt, RF.le_int, RF.gt_int, RF.ge_int, RF.dIs, RF.dLen, RF.dAbs, RF.dInt, RF.dList, RF.dTup, RF.dAll, RF.dAny, RF.dSum, RF.dMax2, RF.dMin2, RF.truthD, RF.isNon, ht, q__law_draw]
    refine drawK h (by decide) (by decide) fun m o t hm h ht => ?_
    simp -dsimp -implicitDefEqProofs only [RF.w_seq, RF.w_if, RF.w_asg, RF.w_ret, RF.w_drop, RF.w_nx, RF.w_run, RF.w_C, RF.w_var, RF.w_mv, RF.w_D, RF.w_V, RF.w_ev, RF.w_lv, RF.w_op, RF.w_T, RF.w_B, RF.w_notT, RF.w_andT, RF.w_orT, RF.w_andV, RF.w_orV, RF.w_not, RF.w_neg, RF.w_CB, RF.w_pre0, RF.w_pre, RF.w_isi, RF.w_evs0, RF.w_evs, RF.w_tup, RF.w_lst, RF.w_part0, RF.w_part, RF.w_sl, RF.w_call, RF.w_call0, RF.w_app, RF.w_ext, RF.w_ins, RF.w_pop, RF.w_setI, RF.w_aug, RF.w_asgT, RF.w_for, RF.w_for0, RF.w_for1, RF.w_it, RF.w_enum, RF.w_rng1, RF.w_rng2, RF.w_lc, RF.w_lc0, RF.w_lc1, RF.w_chain, RF.w_lam, RF.w_bnd, RF.oK_some, RF.oK_none, RF.oK_ite, RF.ifK_true, RF.ifK_false, RF.ifK_not, RF.seqK_nx, RF.seqK_bk, RF.seqK_ct, RF.seqK_rt, RF.stO_un, RF.stO_va, RF.stO_ow, RF.retK_rt, RF.retK_nx, RF.back_nil, RF.back_ow, RF.back_va, RF.varK_va, RF.varK_ow, RF.toD_lst, RF.toD_dct, RF.mvK_va, RF.mvK_ow, RF.rvK_va, RF.rvK_ow, RF.rdS_va, RF.rdS_ow, RF.fin_ev, RF.fin_lv, RF.ap2_some, RF.blK_bl, RF.negD, RF.cons2_some, RF.finL_nil, RF.finL_cons, RF.intK_int, RF.mkA_nil, RF.mkA_ev, RF.mkS_ow, RF.mkA_lv, RF.putA_nil, RF.putA_ev, RF.putS_ow, RF.putA_lv, RF.owS_ow, RF.vaS_va, RF.tgN_eq, RF.tgO_un, RF.tgO_va, RF.tgO_ow, RF.tgT_tup, RF.tgL_nil, RF.tgL_cons, RF.forK_nx, RF.forK_ct, RF.forK_bk, RF.forK_rt, RF.asV, Option.map_some, Option.map_none, Option.bind_some, Option.bind_none, Option.some.injEq, List.getElem?_cons_zero, List.getElem?_cons_succ, List.set_cons_zero, List.set_cons_succ, List.length_cons, List.length_nil, List.cons_append, List.nil_append, List.replicate_succ, List.replicate_zero, Nat.reduceAdd, Nat.reduceSub, Nat.add_zero, Nat.zero_add, Nat.sub_self, RF.seqI, RF.seqD, RF.wipeE, RF.restE, Option.getD_some, RF.ix_lst0, RF.ix_tup0, RF.ixN_0, RF.ix_lst1, RF.ix_tup1, RF.ixN_1, RF.ix_lst2, RF.ix_tup2, RF.ixN_2, RF.ix_lst3, RF.ix_tup3, RF.ixN_3, RF.ix_lst4, RF.ix_tup4, RF.ixN_4, RF.ix_lst5, RF.ix_tup5, RF.ixN_5, RF.ix_lst6, RF.ix_tup6, RF.ixN_6, RF.ix_lst7, RF.ix_tup7, RF.ixN_7, RF.ix_lst8, RF.ix_tup8, RF.ixN_8, RF.add_int, RF.dSub, RF.dMul, RF.dFdiv, RF.dMod, RF.dPow, RF.eq_int, RF.eq_str, RF.ne_int, RF.ne_str, RF.dLt, RF.le_int, RF.gt_int, RF.ge_int, RF.dIs, RF.dLen, RF.dAbs, RF.dInt, RF.dList, RF.dTup, RF.dAll, RF.dAny, RF.dSum, RF.dMax2, RF.dMin2, RF.truthD, RF.isNon]
    refine ⟨inRng_nat (by omega), ?_⟩
    refine ⟨by rcases p4 with rfl | ⟨d, rfl⟩ | ⟨o, rfl⟩ <;> rfl, ?_⟩
    refine wp_lcI (rngL 0 m) (fun i ys r => ∃ (bs : List Bool) (o : Ob), bs.length = i ∧ ys = bs.map kD ∧ DrS ns o ∧ r = [.ow true o, .ow false (.lst (ss.map D.str)), .ow false (.lst (ps.map pD)), .va (.str nme), s4, .un, s6, s7]) ?_ ?_ _ ⟨[], o, rfl, rfl, h, rfl⟩
    · rintro i d ys r hi ⟨bs, o, hbl, rfl, h, rfl⟩
      obtain ⟨t, ht⟩ := h.toD
      refine ⟨_, rfl, ?_⟩
      simp -dsimp -implicitDefEqProofs only [RF.w_seq, RF.w_if, RF.w_asg, RF.w_ret, RF.w_drop, RF.w_nx, RF.w_run, RF.w_C, RF.w_var, RF.w_mv, RF.w_D, RF.w_V, RF.w_ev, RF.w_lv, RF.w_op, RF.w_T, RF.w_B, RF.w_notT, RF.w_andT, RF.w_orT, RF.w_andV, RF.w_orV, RF.w_not, RF.w_neg, RF.w_CB, RF.w_pre0, RF.w_pre, RF.w_isi, RF.w_evs0, RF.w_evs, RF.w_tup, RF.w_lst, RF.w_part0, RF.w_part, RF.w_sl, RF.w_call, RF.w_call0, RF.w_app, RF.w_ext, RF.w_ins, RF.w_pop, RF.w_setI, RF.w_aug, RF.w_asgT, RF.w_for, RF.w_for0, RF.w_for1, RF.w_it, RF.w_enum, RF.w_rng1, RF.w_rng2, RF.w_lc, RF.w_lc0, RF.w_lc1, RF.w_chain, RF.w_lam, RF.w_bnd, RF.oK_some, RF.oK_none, RF.oK_ite, RF.ifK_true, RF.ifK_false, RF.ifK_not, RF.seqK_nx, RF.seqK_bk, RF.seqK_ct, RF.seqK_rt, RF.stO_un, RF.stO_va, RF.stO_ow, RF.retK_rt, RF.retK_nx, RF.back_nil, RF.back_ow, RF.back_va, RF.varK_va, RF.varK_ow, RF.toD_lst, RF.toD_dct, RF.mvK_va, RF.mvK_ow, RF.rvK_va, RF.rvK_ow, RF.rdS_va, RF.rdS_ow, RF.fin_ev, RF.fin_lv, RF.ap2_some, RF.blK_bl, RF.negD, RF.cons2_some, RF.finL_nil, RF.finL_cons, RF.intK_int, RF.mkA_nil, RF.mkA_ev, RF.mkS_ow, RF.mkA_lv, RF.putA_nil, RF.putA_ev, RF.putS_ow, RF.putA_lv, RF.owS_ow, RF.vaS_va, RF.tgN_eq, RF.tgO_un, RF.tgO_va, RF.tgO_ow, RF.tgT_tup, RF.tgL_nil, RF.tgL_cons, RF.forK_nx, RF.forK_ct, RF.forK_bk, RF.forK_rt, RF.asV, Option.map_some, Option.map_none, Option.bind_some, Option.bind_none, Option.some.injEq, List.getElem?_cons_zero, List.getElem?_cons_succ, List.set_cons_zero, List.set_cons_succ, List.length_cons, List.length_nil, List.cons_append, List.nil_append, List.replicate_succ, List.replicate_zero, Nat.reduceAdd, Nat.reduceSub, Nat.add_zero, Nat.zero_add, Nat.sub_self, RF.seqI, RF.seqD, RF.wipeE, RF.restE, Option.getD_some, RF.ix_lst0, RF.ix_tup0, RF.ixN_0, RF.ix_lst1, RF.ix_tup1, RF.ixN_1, RF.ix_lst2, RF.ix_tup2, RF.ixN_2, RF.ix_lst3, RF.ix_tup3, RF.ixN_3, RF.ix_lst4, RF.ix_tup4, RF.ixN_4, RF.ix_lst5, RF.ix_tup5, RF.ixN_5, RF.ix_lst6, RF.ix_tup6, RF.ixN_6, RF.ix_lst7, RF.ix_tup7, RF.ixN_7, RF.ix_lst8, RF.ix_tup8, RF.ixN_8, RF.add_int, RF.dSub, RF.dMul, RF.dFdiv, RF.dMod, RF.dPow, RF.eq_int, RF.eq_str, RF.ne_int, RF.ne_str, RF.dLt, RF.le_int, RF.gt_int, RF.ge_int, RF.dIs, RF.dLen, RF.dAbs, RF.dInt, RF.dList, RF.dTup, RF.dAll, RF.dAny, RF.dSum, RF.dMax2, RF.dMin2, RF.truthD, RF.isNon, ht, q__law_draw]
      refine drawK h (by decide) (by decide) fun b o t hb h ht => ?_
      obtain ⟨kb, hkb⟩ := kinds2 hb
      simp -dsimp -implicitDefEqProofs only [RF.w_seq, RF.w_if, RF.w_asg, RF.w_ret, RF.w_drop, RF.w_nx, RF.w_run, RF.w_C, RF.w_var, RF.w_mv, RF.w_D, RF.w_V, RF.w_ev, RF.w_lv, RF.w_op, RF.w_T, RF.w_B, RF.w_notT, RF.w_andT, RF.w_orT, RF.w_andV, RF.w_orV, RF.w_not, RF.w_neg, RF.w_CB, RF.w_pre0, RF.w_pre, RF.w_isi, RF.w_evs0, RF.w_evs, RF.w_tup, RF.w_lst, RF.w_part0, RF.w_part, RF.w_sl, RF.w_call, RF.w_call0, RF.w_app, RF.w_ext, RF.w_ins, RF.w_pop, RF.w_setI, RF.w_aug, RF.w_asgT, RF.w_for, RF.w_for0, RF.w_for1, RF.w_it, RF.w_enum, RF.w_rng1, RF.w_rng2, RF.w_lc, RF.w_lc0, RF.w_lc1, RF.w_chain, RF.w_lam, RF.w_bnd, RF.oK_some, RF.oK_none, RF.oK_ite, RF.ifK_true, RF.ifK_false, RF.ifK_not, RF.seqK_nx, RF.seqK_bk, RF.seqK_ct, RF.seqK_rt, RF.stO_un, RF.stO_va, RF.stO_ow, RF.retK_rt, RF.retK_nx, RF.back_nil, RF.back_ow, RF.back_va, RF.varK_va, RF.varK_ow, RF.toD_lst, RF.toD_dct, RF.mvK_va, RF.mvK_ow, RF.rvK_va, RF.rvK_ow, RF.rdS_va, RF.rdS_ow, RF.fin_ev, RF.fin_lv, RF.ap2_some, RF.blK_bl, RF.negD, RF.cons2_some, RF.finL_nil, RF.finL_cons, RF.intK_int, RF.mkA_nil, RF.mkA_ev, RF.mkS_ow, RF.mkA_lv, RF.putA_nil, RF.putA_ev, RF.putS_ow, RF.putA_lv, RF.owS_ow, RF.vaS_va, RF.tgN_eq, RF.tgO_un, RF.tgO_va, RF.tgO_ow, RF.tgT_tup, RF.tgL_nil, RF.tgL_cons, RF.forK_nx, RF.forK_ct, RF.forK_bk, RF.forK_rt, RF.asV, Option.map_some, Option.map_none, Option.bind_some, Option.bind_none, Option.some.injEq, List.getElem?_cons_zero, List.getElem?_cons_succ, List.set_cons_zero, List.set_cons_succ, List.length_cons, List.length_nil, List.cons_append, List.nil_append, List.replicate_succ, List.replicate_zero, Nat.reduceAdd, Nat.reduceSub, Nat.add_zero, Nat.zero_add, Nat.sub_self, RF.seqI, RF.seqD, RF.wipeE, RF.restE, Option.getD_some, RF.ix_lst0, RF.ix_tup0, RF.ixN_0, RF.ix_lst1, RF.ix_tup1, RF.ixN_1, RF.ix_lst2, RF.ix_tup2, RF.ixN_2, RF.ix_lst3, RF.ix_tup3, RF.ixN_3, RF.ix_lst4, RF.ix_tup4, RF.ixN_4, RF.ix_lst5, RF.ix_tup5, RF.ixN_5, RF.ix_lst6, RF.ix_tup6, RF.ixN_6, RF.ix_lst7, RF.ix_tup7, RF.ixN_7, RF.ix_lst8, RF.ix_tup8, RF.ixN_8, RF.add_int, RF.dSub, RF.dMul, RF.dFdiv, RF.dMod, RF.dPow, RF.eq_int, RF.eq_str, RF.ne_int, RF.ne_str, RF.dLt, RF.le_int, RF.gt_int, RF.ge_int, RF.dIs, RF.dLen, RF.dAbs, RF.dInt, RF.dList, RF.dTup, RF.dAll, RF.dAny, RF.dSum, RF.dMax2, RF.dMin2, RF.truthD, RF.isNon, hkb]
      exact ⟨bs ++ [kb], o, by rw [List.length_append, hbl]; rfl, by simp, h, rfl⟩
    · rintro ys rr ⟨bs, o, hbl, rfl, h, rfl⟩
      obtain ⟨t, ht⟩ := h.toD
      rw [rngL_len] at hbl
      refine ⟨by rw [List.length_map, show sizeLine = 16777216 from rfl]; omega, ?_⟩
      simp -dsimp -implicitDefEqProofs only [RF.w_seq, RF.w_if, RF.w_asg, RF.w_ret, RF.w_drop, RF.w_nx, RF.w_run, RF.w_C, RF.w_var, RF.w_mv, RF.w_D, RF.w_V, RF.w_ev, RF.w_lv, RF.w_op, RF.w_T, RF.w_B, RF.w_notT, RF.w_andT, RF.w_orT, RF.w_andV, RF.w_orV, RF.w_not, RF.w_neg, RF.w_CB, RF.w_pre0, RF.w_pre, RF.w_isi, RF.w_evs0, RF.w_evs, RF.w_tup, RF.w_lst, RF.w_part0, RF.w_part, RF.w_sl, RF.w_call, RF.w_call0, RF.w_app, RF.w_ext, RF.w_ins, RF.w_pop, RF.w_setI, RF.w_aug, RF.w_asgT, RF.w_for, RF.w_for0, RF.w_for1, RF.w_it, RF.w_enum, RF.w_rng1, RF.w_rng2, RF.w_lc, RF.w_lc0, RF.w_lc1, RF.w_chain, RF.w_lam, RF.w_bnd, RF.oK_some, RF.oK_none, RF.oK_ite, RF.ifK_true, RF.ifK_false, RF.ifK_not, RF.seqK_nx, RF.seqK_bk, RF.seqK_ct, RF.seqK_rt, RF.stO_un, RF.stO_va, RF.stO_ow, RF.retK_rt, RF.retK_nx, RF.back_nil, RF.back_ow, RF.back_va, RF.varK_va, RF.varK_ow, RF.toD_lst, RF.toD_dct, RF.mvK_va, RF.mvK_ow, RF.rvK_va, RF.rvK_ow, RF.rdS_va, RF.rdS_ow, RF.fin_ev, RF.fin_lv, RF.ap2_some, RF.blK_bl, RF.negD, RF.cons2_some, RF.finL_nil, RF.finL_cons, RF.intK_int, RF.mkA_nil, RF.mkA_ev, RF.mkS_ow, RF.mkA_lv, RF.putA_nil, RF.putA_ev, RF.putS_ow, RF.putA_lv, RF.owS_ow, RF.vaS_va, RF.tgN_eq, RF.tgO_un, RF.tgO_va, RF.tgO_ow, RF.tgT_tup, RF.tgL_nil, RF.tgL_cons, RF.forK_nx, RF.forK_ct, RF.forK_bk, RF.forK_rt, RF.asV, Option.map_some, Option.map_none, Option.bind_some, Option.bind_none, Option.some.injEq, List.getElem?_cons_zero, List.getElem?_cons_succ, List.set_cons_zero, List.set_cons_succ, List.length_cons, List.length_nil, List.cons_append, List.nil_append, List.replicate_succ, List.replicate_zero, Nat.reduceAdd, Nat.reduceSub, Nat.add_zero, Nat.zero_add, Nat.sub_self, RF.seqI, RF.seqD, RF.wipeE, RF.restE, Option.getD_some, RF.ix_lst0, RF.ix_tup0, RF.ixN_0, RF.ix_lst1, RF.ix_tup1, RF.ixN_1, RF.ix_lst2, RF.ix_tup2, RF.ixN_2, RF.ix_lst3, RF.ix_tup3, RF.ixN_3, RF.ix_lst4, RF.ix_tup4, RF.ixN_4, RF.ix_lst5, RF.ix_tup5, RF.ixN_5, RF.ix_lst6, RF.ix_tup6, RF.ixN_6, RF.ix_lst7, RF.ix_tup7, RF.ixN_7, RF.ix_lst8, RF.ix_tup8, RF.ixN_8, RF.add_int, RF.dSub, RF.dMul, RF.dFdiv, RF.dMod, RF.dPow, RF.eq_int, RF.eq_str, RF.ne_int, RF.ne_str, RF.dLt, RF.le_int, RF.gt_int, RF.ge_int, RF.dIs, RF.dLen, RF.dAbs, RF.dInt, RF.dList, RF.dTup, RF.dAll, RF.dAny, RF.dSum, RF.dMax2, RF.dMin2, RF.truthD, RF.isNon, p4.st, List.length_map]
      refine ⟨inRng_nat (by omega), by rfl, ?_⟩
      refine wp_lcI (rngL 0 bs.length) (fun i ys r => ∃ (is : List (Bool × Str)), is.length = i ∧ ys = is.map iD ∧ r = [.ow true o, .ow false (.lst (ss.map D.str)), .ow false (.lst (ps.map pD)), .va (.str nme), .ow false (.lst (bs.map kD)), .un, s6, s7]) ?_ ?_ _ ⟨[], rfl, rfl, rfl⟩
      · rintro i d ys r hi ⟨is, hil, rfl, rfl⟩
        obtain ⟨hi2, rfl⟩ := rngL_get hi
        refine ⟨_, rfl, ?_⟩
        have e3 : (3 : Int) + (i : Int) = ((3 + i : Nat) : Int) := by omega
        have l1 : i < (bs.map kD).length := by rw [List.length_map]; exact hi2
        have l2 : 3 + i < (ss.map D.str).length := by rw [List.length_map]; omega
        simp -dsimp -implicitDefEqProofs only [RF.w_seq, RF.w_if, RF.w_asg, RF.w_ret, RF.w_drop, RF.w_nx, RF.w_run, RF.w_C, RF.w_var, RF.w_mv, RF.w_D, RF.w_V, RF.w_ev, RF.w_lv, RF.w_op, RF.w_T, RF.w_B, RF.w_notT, RF.w_andT, RF.w_orT, RF.w_andV, RF.w_orV, RF.w_not, RF.w_neg, RF.w_CB, RF.w_pre0, RF.w_pre, RF.w_isi, RF.w_evs0, RF.w_evs, RF.w_tup, RF.w_lst, RF.w_part0, RF.w_part, RF.w_sl, RF.w_call, RF.w_call0, RF.w_app, RF.w_ext, RF.w_ins, RF.w_pop, RF.w_setI, RF.w_aug, RF.w_asgT, RF.w_for, RF.w_for0, RF.w_for1, RF.w_it, RF.w_enum, RF.w_rng1, RF.w_rng2, RF.w_lc, RF.w_lc0, RF.w_lc1, RF.w_chain, RF.w_lam, RF.w_bnd, RF.oK_some, RF.oK_none, RF.oK_ite, RF.ifK_true, RF.ifK_false, RF.ifK_not, RF.seqK_nx, RF.seqK_bk, RF.seqK_ct, RF.seqK_rt, RF.stO_un, RF.stO_va, RF.stO_ow, RF.retK_rt, RF.retK_nx, RF.back_nil, RF.back_ow, RF.back_va, RF.varK_va, RF.varK_ow, RF.toD_lst, RF.toD_dct, RF.mvK_va, RF.mvK_ow, RF.rvK_va, RF.rvK_ow, RF.rdS_va, RF.rdS_ow, RF.fin_ev, RF.fin_lv, RF.ap2_some, RF.blK_bl, RF.negD, RF.cons2_some, RF.finL_nil, RF.finL_cons, RF.intK_int, RF.mkA_nil, RF.mkA_ev, RF.mkS_ow, RF.mkA_lv, RF.putA_nil, RF.putA_ev, RF.putS_ow, RF.putA_lv, RF.owS_ow, RF.vaS_va, RF.tgN_eq, RF.tgO_un, RF.tgO_va, RF.tgO_ow, RF.tgT_tup, RF.tgL_nil, RF.tgL_cons, RF.forK_nx, RF.forK_ct, RF.forK_bk, RF.forK_rt, RF.asV, Option.map_some, Option.map_none, Option.bind_some, Option.bind_none, Option.some.injEq, List.getElem?_cons_zero, List.getElem?_cons_succ, List.set_cons_zero, List.set_cons_succ, List.length_cons, List.length_nil, List.cons_append, List.nil_append, List.replicate_succ, List.replicate_zero, Nat.reduceAdd, Nat.reduceSub, Nat.add_zero, Nat.zero_add, Nat.sub_self, RF.seqI, RF.seqD, RF.wipeE, RF.restE, Option.getD_some, RF.ix_lst0, RF.ix_tup0, RF.ixN_0, RF.ix_lst1, RF.ix_tup1, RF.ixN_1, RF.ix_lst2, RF.ix_tup2, RF.ixN_2, RF.ix_lst3, RF.ix_tup3, RF.ixN_3, RF.ix_lst4, RF.ix_tup4, RF.ixN_4, RF.ix_lst5, RF.ix_tup5, RF.ixN_5, RF.ix_lst6, RF.ix_tup6, RF.ixN_6, RF.ix_lst7, RF.ix_tup7, RF.ixN_7, RF.ix_lst8, RF.ix_tup8, RF.ixN_8, RF.add_int, RF.dSub, RF.dMul, RF.dFdiv, RF.dMod, RF.dPow, RF.eq_int, RF.eq_str, RF.ne_int, RF.ne_str, RF.dLt, RF.le_int, RF.gt_int, RF.ge_int, RF.dIs, RF.dLen, RF.dAbs, RF.dInt, RF.dList, RF.dTup, RF.dAll, RF.dAny, RF.dSum, RF.dMax2, RF.dMin2, RF.truthD, RF.isNon, e3, ix_lN l1, ix_lN l2, List.getElem_map]
        exact ⟨is ++ [(bs[i], ss[3 + i])], by rw [List.length_append, hil]; rfl, by simp [iD], by trivial⟩
      · rintro ys rr ⟨is, hil, rfl, rfl⟩
        rw [rngL_len] at hil
        refine ⟨by rw [List.length_map, show sizeLine = 16777216 from rfl]; omega, ?_⟩
        have l7 : 7 < (ss.map D.str).length := by rw [List.length_map]; omega
        have l8 : 8 < (ss.map D.str).length := by rw [List.length_map]; omega
        have w7 : dIx (.lst (ss.map D.str)) (.int 7) = some (.va (ss.map D.str)[7]) := ix_lN l7
        have w8 : dIx (.lst (ss.map D.str)) (.int 8) = some (.va (ss.map D.str)[8]) := ix_lN l8
        have z7 := hss _ (List.getElem_mem (show 7 < ss.length by omega))
        have z8 := hss _ (List.getElem_mem (show 8 < ss.length by omega))
        rw [List.getElem_map] at w7 w8
        have a7 := res_add z7
        have a8 := res_add z8
        simp -dsimp -implicitDefEqProofs only [RF.w_seq, RF.w_if, RF.w_asg, RF.w_ret, RF.w_drop, RF.w_nx, RF.w_run, RF.w_C, RF.w_var, RF.w_mv, RF.w_D, RF.w_V, RF.w_ev, RF.w_lv, RF.w_op, RF.w_T, RF.w_B, RF.w_notT, RF.w_andT, RF.w_orT, RF.w_andV, RF.w_orV, RF.w_not, RF.w_neg, RF.w_CB, RF.w_pre0, RF.w_pre, RF.w_isi, RF.w_evs0, RF.w_evs, RF.w_tup, RF.w_lst, RF.w_part0, RF.w_part, RF.w_sl, RF.w_call, RF.w_call0, RF.w_app, RF.w_ext, RF.w_ins, RF.w_pop, RF.w_setI, RF.w_aug, RF.w_asgT, RF.w_for, RF.w_for0, RF.w_for1, RF.w_it, RF.w_enum, RF.w_rng1, RF.w_rng2, RF.w_lc, RF.w_lc0, RF.w_lc1, RF.w_chain, RF.w_lam, RF.w_bnd, RF.oK_some, RF.oK_none, RF.oK_ite, RF.ifK_true, RF.ifK_false, RF.ifK_not, RF.seqK_nx, RF.seqK_bk, RF.seqK_ct, RF.seqK_rt, RF.stO_un, RF.stO_va, RF.stO_ow, RF.retK_rt, RF.retK_nx, RF.back_nil, RF.back_ow, RF.back_va, RF.varK_va, RF.varK_ow, RF.toD_lst, RF.toD_dct, RF.mvK_va, RF.mvK_ow, RF.rvK_va, RF.rvK_ow, RF.rdS_va, RF.rdS_ow, RF.fin_ev, RF.fin_lv, RF.ap2_some, RF.blK_bl, RF.negD, RF.cons2_some, RF.finL_nil, RF.finL_cons, RF.intK_int, RF.mkA_nil, RF.mkA_ev, RF.mkS_ow, RF.mkA_lv, RF.putA_nil, RF.putA_ev, RF.putS_ow, RF.putA_lv, RF.owS_ow, RF.vaS_va, RF.tgN_eq, RF.tgO_un, RF.tgO_va, RF.tgO_ow, RF.tgT_tup, RF.tgL_nil, RF.tgL_cons, RF.forK_nx, RF.forK_ct, RF.forK_bk, RF.forK_rt, RF.asV, Option.map_some, Option.map_none, Option.bind_some, Option.bind_none, Option.some.injEq, List.getElem?_cons_zero, List.getElem?_cons_succ, List.set_cons_zero, List.set_cons_succ, List.length_cons, List.length_nil, List.cons_append, List.nil_append, List.replicate_succ, List.replicate_zero, Nat.reduceAdd, Nat.reduceSub, Nat.add_zero, Nat.zero_add, Nat.sub_self, RF.seqI, RF.seqD, RF.wipeE, RF.restE, Option.getD_some, RF.ix_lst0, RF.ix_tup0, RF.ixN_0, RF.ix_lst1, RF.ix_tup1, RF.ixN_1, RF.ix_lst2, RF.ix_tup2, RF.ixN_2, RF.ix_lst3, RF.ix_tup3, RF.ixN_3, RF.ix_lst4, RF.ix_tup4, RF.ixN_4, RF.ix_lst5, RF.ix_tup5, RF.ixN_5, RF.ix_lst6, RF.ix_tup6, RF.ixN_6, RF.ix_lst7, RF.ix_tup7, RF.ixN_7, RF.ix_lst8, RF.ix_tup8, RF.ixN_8, RF.add_int, RF.dSub, RF.dMul, RF.dFdiv, RF.dMod, RF.dPow, RF.eq_int, RF.eq_str, RF.ne_int, RF.ne_str, RF.dLt, RF.le_int, RF.gt_int, RF.ge_int, RF.dIs, RF.dLen, RF.dAbs, RF.dInt, RF.dList, RF.dTup, RF.dAll, RF.dAny, RF.dSum, RF.dMax2, RF.dMin2, RF.truthD, RF.isNon, p6.st, p7.st, w7, w8, a7, a8, ht, q__law_draw]
        refine drawK h (by decide) (by decide) fun c o t hc h ht => ?_
        obtain ⟨rs, hrs, hrl⟩ := res3 hc (.str (Str.ofString "result." ++ ss[7])) (.str (Str.ofString "result." ++ ss[8])) ⟨_, rfl⟩ ⟨_, rfl⟩
        simp -dsimp -implicitDefEqProofs only [RF.w_seq, RF.w_if, RF.w_asg, RF.w_ret, RF.w_drop, RF.w_nx, RF.w_run, RF.w_C, RF.w_var, RF.w_mv, RF.w_D, RF.w_V, RF.w_ev, RF.w_lv, RF.w_op, RF.w_T, RF.w_B, RF.w_notT, RF.w_andT, RF.w_orT, RF.w_andV, RF.w_orV, RF.w_not, RF.w_neg, RF.w_CB, RF.w_pre0, RF.w_pre, RF.w_isi, RF.w_evs0, RF.w_evs, RF.w_tup, RF.w_lst, RF.w_part0, RF.w_part, RF.w_sl, RF.w_call, RF.w_call0, RF.w_app, RF.w_ext, RF.w_ins, RF.w_pop, RF.w_setI, RF.w_aug, RF.w_asgT, RF.w_for, RF.w_for0, RF.w_for1, RF.w_it, RF.w_enum, RF.w_rng1, RF.w_rng2, RF.w_lc, RF.w_lc0, RF.w_lc1, RF.w_chain, RF.w_lam, RF.w_bnd, RF.oK_some, RF.oK_none, RF.oK_ite, RF.ifK_true, RF.ifK_false, RF.ifK_not, RF.seqK_nx, RF.seqK_bk, RF.seqK_ct, RF.seqK_rt, RF.stO_un, RF.stO_va, RF.stO_ow, RF.retK_rt, RF.retK_nx, RF.back_nil, RF.back_ow, RF.back_va, RF.varK_va, RF.varK_ow, RF.toD_lst, RF.toD_dct, RF.mvK_va, RF.mvK_ow, RF.rvK_va, RF.rvK_ow, RF.rdS_va, RF.rdS_ow, RF.fin_ev, RF.fin_lv, RF.ap2_some, RF.blK_bl, RF.negD, RF.cons2_some, RF.finL_nil, RF.finL_cons, RF.intK_int, RF.mkA_nil, RF.mkA_ev, RF.mkS_ow, RF.mkA_lv, RF.putA_nil, RF.putA_ev, RF.putS_ow, RF.putA_lv, RF.owS_ow, RF.vaS_va, RF.tgN_eq, RF.tgO_un, RF.tgO_va, RF.tgO_ow, RF.tgT_tup, RF.tgL_nil, RF.tgL_cons, RF.forK_nx, RF.forK_ct, RF.forK_bk, RF.forK_rt, RF.asV, Option.map_some, Option.map_none, Option.bind_some, Option.bind_none, Option.some.injEq, List.getElem?_cons_zero, List.getElem?_cons_succ, List.set_cons_zero, List.set_cons_succ, List.length_cons, List.length_nil, List.cons_append, List.nil_append, List.replicate_succ, List.replicate_zero, Nat.reduceAdd, Nat.reduceSub, Nat.add_zero, Nat.zero_add, Nat.sub_self, RF.seqI, RF.seqD, RF.wipeE, RF.restE, Option.getD_some, RF.ix_lst0, RF.ix_tup0, RF.ixN_0, RF.ix_lst1, RF.ix_tup1, RF.ixN_1, RF.ix_lst2, RF.ix_tup2, RF.ixN_2, RF.ix_lst3, RF.ix_tup3, RF.ixN_3, RF.ix_lst4, RF.ix_tup4, RF.ixN_4, RF.ix_lst5, RF.ix_tup5, RF.ixN_5, RF.ix_lst6, RF.ix_tup6, RF.ixN_6, RF.ix_lst7, RF.ix_tup7, RF.ixN_7, RF.ix_lst8, RF.ix_tup8, RF.ixN_8, RF.add_int, RF.dSub, RF.dMul, RF.dFdiv, RF.dMod, RF.dPow, RF.eq_int, RF.eq_str, RF.ne_int, RF.ne_str, RF.dLt, RF.le_int, RF.gt_int, RF.ge_int, RF.dIs, RF.dLen, RF.dAbs, RF.dInt, RF.dList, RF.dTup, RF.dAll, RF.dAny, RF.dSum, RF.dMax2, RF.dMin2, RF.truthD, RF.isNon, ht, hrs, p7.st]
        refine ⟨by rw [List.length_map, show sizeLine = 16777216 from rfl]; omega, ?_⟩
        refine ⟨ps ++ [⟨nme, is, rs⟩], o, _, _, _, _, by rw [List.map_append, hpl, List.take_succ_eq_append_getElem hnk1, hnk2]; rfl, fun p hp => ?_, h, .va, .ow, .va, .va, by rw [List.map_append]; rfl⟩
        rcases List.mem_append.mp hp with hp | hp
        · exact hps p hp
        · rw [List.mem_singleton.mp hp]
          exact ⟨show is.length ≤ 10 by omega, show rs.length ≤ 10 by omega⟩
  · rintro rr ⟨ps, o, s3, s4, s6, s7, hpl, hps, h, p3, p4, p6, p7, rfl⟩
    obtain ⟨t, ht⟩ := h.toD
    rw [List.length_map, List.take_of_length_le (Nat.le_refl _)] at hpl
    have hl2 := congrArg List.length hpl
    rw [List.length_map] at hl2
    simp -dsimp -implicitDefEqProofs only [RF.w_seq, RF.w_if, RF.w_asg, RF.w_ret, RF.w_drop, RF.w_nx, RF.w_run, RF.w_C, RF.w_var, RF.w_mv, RF.w_D, RF.w_V, RF.w_ev, RF.w_lv, RF.w_op, RF.w_T, RF.w_B, RF.w_notT, RF.w_andT, RF.w_orT, RF.w_andV, RF.w_orV, RF.w_not, RF.w_neg, RF.w_CB, RF.w_pre0, RF.w_pre, RF.w_isi, RF.w_evs0, RF.w_evs, RF.w_tup, RF.w_lst, RF.w_part0, RF.w_part, RF.w_sl, RF.w_call, RF.w_call0, RF.w_app, RF.w_ext, RF.w_ins, RF.w_pop, RF.w_setI, RF.w_aug, RF.w_asgT, RF.w_for, RF.w_for0, RF.w_for1, RF.w_it, RF.w_enum, RF.w_rng1, RF.w_rng2, RF.w_lc, RF.w_lc0, RF.w_lc1, RF.w_chain, RF.w_lam, RF.w_bnd, RF.oK_some, RF.oK_none, RF.oK_ite, RF.ifK_true, RF.ifK_false, RF.ifK_not, RF.seqK_nx, RF.seqK_bk, RF.seqK_ct, RF.seqK_rt, RF.stO_un, RF.stO_va, RF.stO_ow, RF.retK_rt, RF.retK_nx, RF.back_nil, RF.back_ow, RF.back_va, RF.varK_va, RF.varK_ow, RF.toD_lst, RF.toD_dct, RF.mvK_va, RF.mvK_ow, RF.rvK_va, RF.rvK_ow, RF.rdS_va, RF.rdS_ow, RF.fin_ev, RF.fin_lv, RF.ap2_some, RF.blK_bl, RF.negD, RF.cons2_some, RF.finL_nil, RF.finL_cons, RF.intK_int, RF.mkA_nil, RF.mkA_ev, RF.mkS_ow, RF.mkA_lv, RF.putA_nil, RF.putA_ev, RF.putS_ow, RF.putA_lv, RF.owS_ow, RF.vaS_va, RF.tgN_eq, RF.tgO_un, RF.tgO_va, RF.tgO_ow, RF.tgT_tup, RF.tgL_nil, RF.tgL_cons, RF.forK_nx, RF.forK_ct, RF.forK_bk, RF.forK_rt, RF.asV, Option.map_some, Option.map_none, Option.bind_some, Option.bind_none, Option.some.injEq, List.getElem?_cons_zero, List.getElem?_cons_succ, List.set_cons_zero, List.set_cons_succ, List.length_cons, List.length_nil, List.cons_append, List.nil_append, List.replicate_succ, List.replicate_zero, Nat.reduceAdd, Nat.reduceSub, Nat.add_zero, Nat.zero_add, Nat.sub_self, RF.seqI, RF.seqD, RF.wipeE, RF.restE, Option.getD_some, RF.ix_lst0, RF.ix_tup0, RF.ixN_0, RF.ix_lst1, RF.ix_tup1, RF.ixN_1, RF.ix_lst2, RF.ix_tup2, RF.ixN_2, RF.ix_lst3, RF.ix_tup3, RF.ixN_3, RF.ix_lst4, RF.ix_tup4, RF.ixN_4, RF.ix_lst5, RF.ix_tup5, RF.ixN_5, RF.ix_lst6, RF.ix_tup6, RF.ixN_6, RF.ix_lst7, RF.ix_tup7, RF.ixN_7, RF.ix_lst8, RF.ix_tup8, RF.ixN_8, RF.add_int, RF.dSub, RF.dMul, RF.dFdiv, RF.dMod, RF.dPow, RF.eq_int, RF.eq_str, RF.ne_int, RF.ne_str, RF.dLt, RF.le_int, RF.gt_int, RF.ge_int, RF.dIs, RF.dLen, RF.dAbs, RF.dInt, RF.dList, RF.dTup, RF.dAll, RF.dAny, RF.dSum, RF.dMax2, RF.dMin2, RF.truthD, RF.isNon]
    exact q ps o t (by omega) ⟨by omega, hps⟩ (by rw [hpl]; exact hnn) (fun p hp => hnm _ (by rw [← hpl]; exact List.mem_map_of_mem hp)) h ht
end K00

namespace K00
open PySem PySem.Spec PyProof.Rows L2 RF
mutual
def bD : D → Bool
  | .int i => decide (i.natAbs < 2 ^ 64)
  | .str s => decide (s.length ≤ 100)
  | .tup ds => decide (ds.length ≤ 100) && bL ds
  | _ => false
def bL : List D → Bool
  | [] => true
  | d :: ds => bD d && bL ds
end
theorem bL_iff : ∀ {ds : List D}, bL ds = true ↔ ∀ d ∈ ds, bD d = true
  | [] => by simp [bL]
  | d :: ds => by simp [bL, bL_iff (ds := ds)]
mutual
theorem b_sm : ∀ (d : D), bD d = true → smD d = true
  | .int _, _ => rfl
  | .str _, _ => rfl
  | .tup ds, h => by
    simp only [bD, Bool.and_eq_true, decide_eq_true_eq] at h
    simp only [smD, Bool.and_eq_true, decide_eq_true_eq]
    exact ⟨by omega, b_smL ds h.2⟩
  | .non, h => by simp [bD] at h
  | .bl _, h => by simp [bD] at h
  | .lst _, h => by simp [bD] at h
  | .rls _, h => by simp [bD] at h
  | .dct _ _, h => by simp [bD] at h
theorem b_smL : ∀ (ds : List D), bL ds = true → smL ds = true
  | [], _ => rfl
  | d :: ds, h => by
    simp only [bL, Bool.and_eq_true] at h
    simp only [smL, Bool.and_eq_true]
    exact ⟨b_sm d h.1, b_smL ds h.2⟩
end
/-- a row of small ints -/
def Row (ds : List D) (n : Nat) : Prop := ds.length ≤ n ∧ ∀ d ∈ ds, ∃ i : Int, d = .int i ∧ i.natAbs < 2 ^ 64
theorem Row.nil {n : Nat} : Row [] n := ⟨by simp, by simp⟩
theorem Row.tin {ds : List D} {n : Nat} (h : Row ds n) : tin (.tup ds) = true := by
  simp only [K00.tin, List.all_eq_true]
  intro d hd
  obtain ⟨i, rfl, _⟩ := h.2 d hd
  rfl
theorem Row.b {ds : List D} {n : Nat} (h : Row ds n) (hn : n ≤ 100) : bD (.tup ds) = true := by
  simp only [bD, Bool.and_eq_true, decide_eq_true_eq]
  refine ⟨Nat.le_trans h.1 hn, bL_iff.mpr fun d hd => ?_⟩
  obtain ⟨i, rfl, hi⟩ := h.2 d hd
  simp only [bD, decide_eq_true_eq]
  exact hi
theorem Row.snoc {ds : List D} {n : Nat} {i : Int} (h : Row ds n) (hi : i.natAbs < 2 ^ 64) : Row (ds ++ [.int i]) (n + 1) := by
  refine ⟨by rw [List.length_append]; exact Nat.succ_le_succ h.1, fun d hd => ?_⟩
  rcases List.mem_append.mp hd with hd | hd
  · exact h.2 d hd
  · exact ⟨i, List.mem_singleton.mp hd, hi⟩
theorem good_test {ns : List Int} {o : Ob} {p : P} (hp : p.items.length ≤ 10 ∧ p.res.length ≤ 10) (hnm : p.name.length ≤ 10) (h : DrS ns o) {Q : RV → RF.Env → Prop} {E : Exc → RF.Env → Prop} (q : ∀ b c e o' t, bD (.tup [.str p.name, b, c, e]) = true → good1 p b c e = true → DrS ns o' → o'.toD = some t → Q (.va (.tup [.str p.name, b, c, e])) [.ow true o', .va (pD p)]) : wp F__law_good_test [.ow true o, .va (pD p)] Q E := by
  obtain ⟨t, ht⟩ := h.toD
  unfold F__law_good_test b__law_good_test
  simp -dsimp -implicitDefEqProofs only [RF.w_seq, RF.w_if, RF.w_asg, RF.w_ret, RF.w_drop, RF.w_nx, RF.w_run, RF.w_C, RF.w_var, RF.w_mv, RF.w_D, RF.w_V, RF.w_ev, RF.w_lv, RF.w_op, RF.w_T, RF.w_B, RF.w_notT, RF.w_andT, RF.w_orT, RF.w_andV, RF.w_orV, RF.w_not, RF.w_neg, RF.w_CB, RF.w_pre0, RF.w_pre, RF.w_isi, RF.w_evs0, RF.w_evs, RF.w_tup, RF.w_lst, RF.w_part0, RF.w_part, RF.w_sl, RF.w_call, RF.w_call0, RF.w_app, RF.w_ext, RF.w_ins, RF.w_pop, RF.w_setI, RF.w_aug, RF.w_asgT, RF.w_for, RF.w_for0, RF.w_for1, RF.w_it, RF.w_enum, RF.w_rng1, RF.w_rng2, RF.w_lc, RF.w_lc0, RF.w_lc1, RF.w_chain, RF.w_lam, RF.w_bnd, RF.oK_some, RF.oK_none, RF.oK_ite, RF.ifK_true, RF.ifK_false, RF.ifK_not, RF.seqK_nx, RF.seqK_bk, RF.seqK_ct, RF.seqK_rt, RF.stO_un, RF.stO_va, RF.stO_ow, RF.retK_rt, RF.retK_nx, RF.back_nil, RF.back_ow, RF.back_va, RF.varK_va, RF.varK_ow, RF.toD_lst, RF.toD_dct, RF.mvK_va, RF.mvK_ow, RF.rvK_va, RF.rvK_ow, RF.rdS_va, RF.rdS_ow, RF.fin_ev, RF.fin_lv, RF.ap2_some, RF.blK_bl, RF.negD, RF.cons2_some, RF.finL_nil, RF.finL_cons, RF.intK_int, RF.mkA_nil, RF.mkA_ev, RF.mkS_ow, RF.mkA_lv, RF.putA_nil, RF.putA_ev, RF.putS_ow, RF.putA_lv, RF.owS_ow, RF.vaS_va, RF.tgN_eq, RF.tgO_un, RF.tgO_va, RF.tgO_ow, RF.tgT_tup, RF.tgL_nil, RF.tgL_cons, RF.forK_nx, RF.forK_ct, RF.forK_bk, RF.forK_rt, RF.asV, Option.map_some, Option.map_none, Option.bind_some, Option.bind_none, Option.some.injEq, List.getElem?_cons_zero, List.getElem?_cons_succ, List.set_cons_zero, List.set_cons_succ, List.length_cons, List.length_nil, List.cons_append, List.nil_append, List.replicate_succ, List.replicate_zero, Nat.reduceAdd, Nat.reduceSub, Nat.add_zero, Nat.zero_add, Nat.sub_self, RF.seqI, RF.seqD, RF.wipeE, RF.restE, Option.getD_some, RF.ix_lst0, RF.ix_tup0, RF.ixN_0, RF.ix_lst1, RF.ix_tup1, RF.ixN_1, RF.ix_lst2, RF.ix_tup2, RF.ixN_2, RF.ix_lst3, RF.ix_tup3, RF.ixN_3, RF.ix_lst4, RF.ix_tup4, RF.ixN_4, RF.ix_lst5, RF.ix_tup5, RF.ixN_5, RF.ix_lst6, RF.ix_tup6, RF.ixN_6, RF.ix_lst7, RF.ix_tup7, RF.ixN_7, RF.ix_lst8, RF.ix_tup8, RF.ixN_8, RF.add_int, RF.dSub, RF.dMul, RF.dFdiv, RF.dMod, RF.dPow, RF.eq_int, RF.eq_str, RF.ne_int, RF.ne_str, RF.dLt, RF.le_int, RF.gt_int, RF.ge_int, RF.dIs, RF.dLen, RF.dAbs, RF.dInt, RF.dList, RF.dTup, RF.dAll, RF.dAny, RF.dSum, RF.dMax2, RF.dMin2, RF.truthD, RF.isNon, ht, pd1]
  refine wp_forI (p.items.map iD) (fun k r => ∃ as rs o s4 s5 s6, vals (p.items.take k) as = true ∧ (∀ d ∈ as, bD d = true) ∧ rs.length = ((p.items.take k).filter (·.1)).length ∧ (∀ d ∈ rs, bD d = true ∧ tin d = true) ∧ DrS ns o ∧ Pl s4 ∧ Pl s5 ∧ Pl s6 ∧ r = [.ow true o, .va (pD p), .ow false (.lst as), .ow false (.lst rs), s4, s5, s6, .un, .un]) ?_ ?_ _ ⟨[], [], o, _, _, _, by rfl, by simp, by rfl, by simp, h, .un, .un, .un, rfl⟩
  · rintro k d r hk ⟨as, rs, o, s4, s5, s6, hv, hab, hl, hr, h, p4, p5, p6, rfl⟩
    obtain ⟨t, ht⟩ := h.toD
    obtain ⟨⟨kb, x⟩, rfl, hx⟩ : ∃ i, d = iD i ∧ p.items[k]? = some i := by
      rw [List.getElem?_map] at hk
      cases e2 : p.items[k]? with
      | none => rw [e2] at hk; cases hk
      | some p => rw [e2] at hk; cases hk; exact ⟨_, rfl, rfl⟩
    obtain ⟨l4, hx2⟩ := List.getElem?_eq_some_iff.mp hx
    refine ⟨[.ow true o, .va (pD p), .ow false (.lst as), .ow false (.lst rs), .va (kD kb), .va (.str x), s6, .un, .un], ?_, ?_⟩
    · unfold iD
      simp -dsimp -implicitDefEqProofs only [RF.w_seq, RF.w_if, RF.w_asg, RF.w_ret, RF.w_drop, RF.w_nx, RF.w_run, RF.w_C, RF.w_var, RF.w_mv, RF.w_D, RF.w_V, RF.w_ev, RF.w_lv, RF.w_op, RF.w_T, RF.w_B, RF.w_notT, RF.w_andT, RF.w_orT, RF.w_andV, RF.w_orV, RF.w_not, RF.w_neg, RF.w_CB, RF.w_pre0, RF.w_pre, RF.w_isi, RF.w_evs0, RF.w_evs, RF.w_tup, RF.w_lst, RF.w_part0, RF.w_part, RF.w_sl, RF.w_call, RF.w_call0, RF.w_app, RF.w_ext, RF.w_ins, RF.w_pop, RF.w_setI, RF.w_aug, RF.w_asgT, RF.w_for, RF.w_for0, RF.w_for1, RF.w_it, RF.w_enum, RF.w_rng1, RF.w_rng2, RF.w_lc, RF.w_lc0, RF.w_lc1, RF.w_chain, RF.w_lam, RF.w_bnd, RF.oK_some, RF.oK_none, RF.oK_ite, RF.ifK_true, RF.ifK_false, RF.ifK_not, RF.seqK_nx, RF.seqK_bk, RF.seqK_ct, RF.seqK_rt, RF.stO_un, RF.stO_va, RF.stO_ow, RF.retK_rt, RF.retK_nx, RF.back_nil, RF.back_ow, RF.back_va, RF.varK_va, RF.varK_ow, RF.toD_lst, RF.toD_dct, RF.mvK_va, RF.mvK_ow, RF.rvK_va, RF.rvK_ow, RF.rdS_va, RF.rdS_ow, RF.fin_ev, RF.fin_lv, RF.ap2_some, RF.blK_bl, RF.negD, RF.cons2_some, RF.finL_nil, RF.finL_cons, RF.intK_int, RF.mkA_nil, RF.mkA_ev, RF.mkS_ow, RF.mkA_lv, RF.putA_nil, RF.putA_ev, RF.putS_ow, RF.putA_lv, RF.owS_ow, RF.vaS_va, RF.tgN_eq, RF.tgO_un, RF.tgO_va, RF.tgO_ow, RF.tgT_tup, RF.tgL_nil, RF.tgL_cons, RF.forK_nx, RF.forK_ct, RF.forK_bk, RF.forK_rt, RF.asV, Option.map_some, Option.map_none, Option.bind_some, Option.bind_none, Option.some.injEq, List.getElem?_cons_zero, List.getElem?_cons_succ, List.set_cons_zero, List.set_cons_succ, List.length_cons, List.length_nil, List.cons_append, List.nil_append, List.replicate_succ, List.replicate_zero, Nat.reduceAdd, Nat.reduceSub, Nat.add_zero, Nat.zero_add, Nat.sub_self, RF.seqI, RF.seqD, RF.wipeE, RF.restE, Option.getD_some, RF.ix_lst0, RF.ix_tup0, RF.ixN_0, RF.ix_lst1, RF.ix_tup1, RF.ixN_1, RF.ix_lst2, RF.ix_tup2, RF.ixN_2, RF.ix_lst3, RF.ix_tup3, RF.ixN_3, RF.ix_lst4, RF.ix_tup4, RF.ixN_4, RF.ix_lst5, RF.ix_tup5, RF.ixN_5, RF.ix_lst6, RF.ix_tup6, RF.ixN_6, RF.ix_lst7, RF.ix_tup7, RF.ixN_7, RF.ix_lst8, RF.ix_tup8, RF.ixN_8, RF.add_int, RF.dSub, RF.dMul, RF.dFdiv, RF.dMod, RF.dPow, RF.eq_int, RF.eq_str, RF.ne_int, RF.ne_str, RF.dLt, RF.le_int, RF.gt_int, RF.ge_int, RF.dIs, RF.dLen, RF.dAbs, RF.dInt, RF.dList, RF.dTup, RF.dAll, RF.dAny, RF.dSum, RF.dMax2, RF.dMin2, RF.truthD, RF.isNon, p4.tg, p5.tg]
    simp -dsimp -implicitDefEqProofs only [RF.w_seq, RF.w_if, RF.w_asg, RF.w_ret, RF.w_drop, RF.w_nx, RF.w_run, RF.w_C, RF.w_var, RF.w_mv, RF.w_D, RF.w_V, RF.w_ev, RF.w_lv, RF.w_op, RF.w_T, RF.w_B, RF.w_notT, RF.w_andT, RF.w_orT, RF.w_andV, RF.w_orV, RF.w_not, RF.w_neg, RF.w_CB, RF.w_pre0, RF.w_pre, RF.w_isi, RF.w_evs0, RF.w_evs, RF.w_tup, RF.w_lst, RF.w_part0, RF.w_part, RF.w_sl, RF.w_call, RF.w_call0, RF.w_app, RF.w_ext, RF.w_ins, RF.w_pop, RF.w_setI, RF.w_aug, RF.w_asgT, RF.w_for, RF.w_for0, RF.w_for1, RF.w_it, RF.w_enum, RF.w_rng1, RF.w_rng2, RF.w_lc, RF.w_lc0, RF.w_lc1, RF.w_chain, RF.w_lam, RF.w_bnd, RF.oK_some, RF.oK_none, RF.oK_ite, RF.ifK_true, RF.ifK_false, RF.ifK_not, RF.seqK_nx, RF.seqK_bk, RF.seqK_ct, RF.seqK_rt, RF.stO_un, RF.stO_va, RF.stO_ow, RF.retK_rt, RF.retK_nx, RF.back_nil, RF.back_ow, RF.back_va, RF.varK_va, RF.varK_ow, RF.toD_lst, RF.toD_dct, RF.mvK_va, RF.mvK_ow, RF.rvK_va, RF.rvK_ow, RF.rdS_va, RF.rdS_ow, RF.fin_ev, RF.fin_lv, RF.ap2_some, RF.blK_bl, RF.negD, RF.cons2_some, RF.finL_nil, RF.finL_cons, RF.intK_int, RF.mkA_nil, RF.mkA_ev, RF.mkS_ow, RF.mkA_lv, RF.putA_nil, RF.putA_ev, RF.putS_ow, RF.putA_lv, RF.owS_ow, RF.vaS_va, RF.tgN_eq, RF.tgO_un, RF.tgO_va, RF.tgO_ow, RF.tgT_tup, RF.tgL_nil, RF.tgL_cons, RF.forK_nx, RF.forK_ct, RF.forK_bk, RF.forK_rt, RF.asV, Option.map_some, Option.map_none, Option.bind_some, Option.bind_none, Option.some.injEq, List.getElem?_cons_zero, List.getElem?_cons_succ, List.set_cons_zero, List.set_cons_succ, List.length_cons, List.length_nil, List.cons_append, List.nil_append, List.replicate_succ, List.replicate_zero, Nat.reduceAdd, Nat.reduceSub, Nat.add_zero, Nat.zero_add, Nat.sub_self, RF.seqI, RF.seqD, RF.wipeE, RF.restE, Option.getD_some, RF.ix_lst0, RF.ix_tup0, RF.ixN_0, RF.ix_lst1, RF.ix_tup1, RF.ixN_1, RF.ix_lst2, RF.ix_tup2, RF.ixN_2, RF.ix_lst3, RF.ix_tup3, RF.ixN_3, RF.ix_lst4, RF.ix_tup4, RF.ixN_4, RF.ix_lst5, RF.ix_tup5, RF.ixN_5, RF.ix_lst6, RF.ix_tup6, RF.ixN_6, RF.ix_lst7, RF.ix_tup7, RF.ixN_7, RF.ix_lst8, RF.ix_tup8, RF.ixN_8, RF.add_int, RF.dSub, RF.dMul, RF.dFdiv, RF.dMod, RF.dPow, RF.eq_int, RF.eq_str, RF.ne_int, RF.ne_str, RF.dLt, RF.le_int, RF.gt_int, RF.ge_int, RF.dIs, RF.dLen, RF.dAbs, RF.dInt, RF.dList, RF.dTup, RF.dAll, RF.dAny, RF.dSum, RF.dMax2, RF.dMin2, RF.truthD, RF.isNon, ht, q__law_draw]
    refine drawK h (by decide) (by decide) fun m o t hm h ht => ?_
    simp -dsimp -implicitDefEqProofs only [RF.w_seq, RF.w_if, RF.w_asg, RF.w_ret, RF.w_drop, RF.w_nx, RF.w_run, RF.w_C, RF.w_var, RF.w_mv, RF.w_D, RF.w_V, RF.w_ev, RF.w_lv, RF.w_op, RF.w_T, RF.w_B, RF.w_notT, RF.w_andT, RF.w_orT, RF.w_andV, RF.w_orV, RF.w_not, RF.w_neg, RF.w_CB, RF.w_pre0, RF.w_pre, RF.w_isi, RF.w_evs0, RF.w_evs, RF.w_tup, RF.w_lst, RF.w_part0, RF.w_part, RF.w_sl, RF.w_call, RF.w_call0, RF.w_app, RF.w_ext, RF.w_ins, RF.w_pop, RF.w_setI, RF.w_aug, RF.w_asgT, RF.w_for, RF.w_for0, RF.w_for1, RF.w_it, RF.w_enum, RF.w_rng1, RF.w_rng2, RF.w_lc, RF.w_lc0, RF.w_lc1, RF.w_chain, RF.w_lam, RF.w_bnd, RF.oK_some, RF.oK_none, RF.oK_ite, RF.ifK_true, RF.ifK_false, RF.ifK_not, RF.seqK_nx, RF.seqK_bk, RF.seqK_ct, RF.seqK_rt, RF.stO_un, RF.stO_va, RF.stO_ow, RF.retK_rt, RF.retK_nx, RF.back_nil, RF.back_ow, RF.back_va, RF.varK_va, RF.varK_ow, RF.toD_lst, RF.toD_dct, RF.mvK_va, RF.mvK_ow, RF.rvK_va, RF.rvK_ow, RF.rdS_va, RF.rdS_ow, RF.fin_ev, RF.fin_lv, RF.ap2_some, RF.blK_bl, RF.negD, RF.cons2_some, RF.finL_nil, RF.finL_cons, RF.intK_int, RF.mkA_nil, RF.mkA_ev, RF.mkS_ow, RF.mkA_lv, RF.putA_nil, RF.putA_ev, RF.putS_ow, RF.putA_lv, RF.owS_ow, RF.vaS_va, RF.tgN_eq, RF.tgO_un, RF.tgO_va, RF.tgO_ow, RF.tgT_tup, RF.tgL_nil, RF.tgL_cons, RF.forK_nx, RF.forK_ct, RF.forK_bk, RF.forK_rt, RF.asV, Option.map_some, Option.map_none, Option.bind_some, Option.bind_none, Option.some.injEq, List.getElem?_cons_zero, List.getElem?_cons_succ, List.set_cons_zero, List.set_cons_succ, List.length_cons, List.length_nil, List.cons_append, List.nil_append, List.replicate_succ, List.replicate_zero, Nat.reduceAdd, Nat.reduceSub, Nat.add_zero, Nat.zero_add, Nat.sub_self, RF.seqI, RF.seqD, RF.wipeE, RF.restE, Option.getD_some, RF.ix_lst0, RF.ix_tup0, RF.ixN_0, RF.ix_lst1, RF.ix_tup1, RF.ixN_1, RF.ix_lst2, RF.ix_tup2, RF.ixN_2, RF.ix_lst3, RF.ix_tup3, RF.ixN_3, RF.ix_lst4, RF.ix_tup4, RF.ixN_4, RF.ix_lst5, RF.ix_tup5, RF.ixN_5, RF.ix_lst6, RF.ix_tup6, RF.ixN_6, RF.ix_lst7, RF.ix_tup7, RF.ixN_7, RF.ix_lst8, RF.ix_tup8, RF.ixN_8, RF.add_int, RF.dSub, RF.dMul, RF.dFdiv, RF.dMod, RF.dPow, RF.eq_int, RF.eq_str, RF.ne_int, RF.ne_str, RF.dLt, RF.le_int, RF.gt_int, RF.ge_int, RF.dIs, RF.dLen, RF.dAbs, RF.dInt, RF.dList, RF.dTup, RF.dAll, RF.dAny, RF.dSum, RF.dMax2, RF.dMin2, RF.truthD, RF.isNon]
    refine ⟨inRng_nat (by omega), by rfl, ?_⟩
    refine wp_lcI (rngL 0 m) (fun i ys r => ∃ o : Ob, Row ys i ∧ DrS ns o ∧ r = [.ow true o, .va (pD p), .ow false (.lst as), .ow false (.lst rs), .va (kD kb), .va (.str x), s6, .un, .un]) ?_ ?_ _ ⟨o, Row.nil, h, rfl⟩
    · rintro i d ys r hi ⟨o, hy, h, rfl⟩
      obtain ⟨t, ht⟩ := h.toD
      refine ⟨_, rfl, ?_⟩
      simp -dsimp -implicitDefEqProofs only [RF.w_seq, RF.w_if, RF.w_asg, RF.w_ret, RF.w_drop, RF.w_nx, RF.w_run, RF.w_C, RF.w_var, RF.w_mv, RF.w_D, RF.w_V, RF.w_ev, RF.w_lv, RF.w_op, RF.w_T, RF.w_B, RF.w_notT, RF.w_andT, RF.w_orT, RF.w_andV, RF.w_orV, RF.w_not, RF.w_neg, RF.w_CB, RF.w_pre0, RF.w_pre, RF.w_isi, RF.w_evs0, RF.w_evs, RF.w_tup, RF.w_lst, RF.w_part0, RF.w_part, RF.w_sl, RF.w_call, RF.w_call0, RF.w_app, RF.w_ext, RF.w_ins, RF.w_pop, RF.w_setI, RF.w_aug, RF.w_asgT, RF.w_for, RF.w_for0, RF.w_for1, RF.w_it, RF.w_enum, RF.w_rng1, RF.w_rng2, RF.w_lc, RF.w_lc0, RF.w_lc1, RF.w_chain, RF.w_lam, RF.w_bnd, RF.oK_some, RF.oK_none, RF.oK_ite, RF.ifK_true, RF.ifK_false, RF.ifK_not, RF.seqK_nx, RF.seqK_bk, RF.seqK_ct, RF.seqK_rt, RF.stO_un, RF.stO_va, RF.stO_ow, RF.retK_rt, RF.retK_nx, RF.back_nil, RF.back_ow, RF.back_va, RF.varK_va, RF.varK_ow, RF.toD_lst, RF.toD_dct, RF.mvK_va, RF.mvK_ow, RF.rvK_va, RF.rvK_ow, RF.rdS_va, RF.rdS_ow, RF.fin_ev, RF.fin_lv, RF.ap2_some, RF.blK_bl, RF.negD, RF.cons2_some, RF.finL_nil, RF.finL_cons, RF.intK_int, RF.mkA_nil, RF.mkA_ev, RF.mkS_ow, RF.mkA_lv, RF.putA_nil, RF.putA_ev, RF.putS_ow, RF.putA_lv, RF.owS_ow, RF.vaS_va, RF.tgN_eq, RF.tgO_un, RF.tgO_va, RF.tgO_ow, RF.tgT_tup, RF.tgL_nil, RF.tgL_cons, RF.forK_nx, RF.forK_ct, RF.forK_bk, RF.forK_rt, RF.asV, Option.map_some, Option.map_none, Option.bind_some, Option.bind_none, Option.some.injEq, List.getElem?_cons_zero, List.getElem?_cons_succ, List.set_cons_zero, List.set_cons_succ, List.length_cons, List.length_nil, List.cons_append, List.nil_append, List.replicate_succ, List.replicate_zero, Nat.reduceAdd, Nat.reduceSub, Nat.add_zero, Nat.zero_add, Nat.sub_self, RF.seqI, RF.seqD, RF.wipeE, RF.restE, Option.getD_some, RF.ix_lst0, RF.ix_tup0, RF.ixN_0, RF.ix_lst1, RF.ix_tup1, RF.ixN_1, RF.ix_lst2, RF.ix_tup2, RF.ixN_2, RF.ix_lst3, RF.ix_tup3, RF.ixN_3, RF.ix_lst4, RF.ix_tup4, RF.ixN_4, RF.ix_lst5, RF.ix_tup5, RF.ixN_5, RF.ix_lst6, RF.ix_tup6, RF.ixN_6, RF.ix_lst7, RF.ix_tup7, RF.ixN_7, RF.ix_lst8, RF.ix_tup8, RF.ixN_8, RF.add_int, RF.dSub, RF.dMul, RF.dFdiv, RF.dMod, RF.dPow, RF.eq_int, RF.eq_str, RF.ne_int, RF.ne_str, RF.dLt, RF.le_int, RF.gt_int, RF.ge_int, RF.dIs, RF.dLen, RF.dAbs, RF.dInt, RF.dList, RF.dTup, RF.dAll, RF.dAny, RF.dSum, RF.dMax2, RF.dMin2, RF.truthD, RF.isNon, ht, q__law_draw]
      refine ⟨by decide, ?_⟩
      refine drawK h (by decide) (by decide) fun b o t hb h ht => ?_
      simp -dsimp -implicitDefEqProofs only [RF.w_seq, RF.w_if, RF.w_asg, RF.w_ret, RF.w_drop, RF.w_nx, RF.w_run, RF.w_C, RF.w_var, RF.w_mv, RF.w_D, RF.w_V, RF.w_ev, RF.w_lv, RF.w_op, RF.w_T, RF.w_B, RF.w_notT, RF.w_andT, RF.w_orT, RF.w_andV, RF.w_orV, RF.w_not, RF.w_neg, RF.w_CB, RF.w_pre0, RF.w_pre, RF.w_isi, RF.w_evs0, RF.w_evs, RF.w_tup, RF.w_lst, RF.w_part0, RF.w_part, RF.w_sl, RF.w_call, RF.w_call0, RF.w_app, RF.w_ext, RF.w_ins, RF.w_pop, RF.w_setI, RF.w_aug, RF.w_asgT, RF.w_for, RF.w_for0, RF.w_for1, RF.w_it, RF.w_enum, RF.w_rng1, RF.w_rng2, RF.w_lc, RF.w_lc0, RF.w_lc1, RF.w_chain, RF.w_lam, RF.w_bnd, RF.oK_some, RF.oK_none, RF.oK_ite, RF.ifK_true, RF.ifK_false, RF.ifK_not, RF.seqK_nx, RF.seqK_bk, RF.seqK_ct, RF.seqK_rt, RF.stO_un, RF.stO_va, RF.stO_ow, RF.retK_rt, RF.retK_nx, RF.back_nil, RF.back_ow, RF.back_va, RF.varK_va, RF.varK_ow, RF.toD_lst, RF.toD_dct, RF.mvK_va, RF.mvK_ow, RF.rvK_va, RF.rvK_ow, RF.rdS_va, RF.rdS_ow, RF.fin_ev, RF.fin_lv, RF.ap2_some, RF.blK_bl, RF.negD, RF.cons2_some, RF.finL_nil, RF.finL_cons, RF.intK_int, RF.mkA_nil, RF.mkA_ev, RF.mkS_ow, RF.mkA_lv, RF.putA_nil, RF.putA_ev, RF.putS_ow, RF.putA_lv, RF.owS_ow, RF.vaS_va, RF.tgN_eq, RF.tgO_un, RF.tgO_va, RF.tgO_ow, RF.tgT_tup, RF.tgL_nil, RF.tgL_cons, RF.forK_nx, RF.forK_ct, RF.forK_bk, RF.forK_rt, RF.asV, Option.map_some, Option.map_none, Option.bind_some, Option.bind_none, Option.some.injEq, List.getElem?_cons_zero, List.getElem?_cons_succ, List.set_cons_zero, List.set_cons_succ, List.length_cons, List.length_nil, List.cons_append, List.nil_append, List.replicate_succ, List.replicate_zero, Nat.reduceAdd, Nat.reduceSub, Nat.add_zero, Nat.zero_add, Nat.sub_self, RF.seqI, RF.seqD, RF.wipeE, RF.restE, Option.getD_some, RF.ix_lst0, RF.ix_tup0, RF.ixN_0, RF.ix_lst1, RF.ix_tup1, RF.ixN_1, RF.ix_lst2, RF.ix_tup2, RF.ixN_2, RF.ix_lst3, RF.ix_tup3, RF.ixN_3, RF.ix_lst4, RF.ix_tup4, RF.ixN_4, RF.ix_lst5, RF.ix_tup5, RF.ixN_5, RF.ix_lst6, RF.ix_tup6, RF.ixN_6, RF.ix_lst7, RF.ix_tup7, RF.ixN_7, RF.ix_lst8, RF.ix_tup8, RF.ixN_8, RF.add_int, RF.dSub, RF.dMul, RF.dFdiv, RF.dMod, RF.dPow, RF.eq_int, RF.eq_str, RF.ne_int, RF.ne_str, RF.dLt, RF.le_int, RF.gt_int, RF.ge_int, RF.dIs, RF.dLen, RF.dAbs, RF.dInt, RF.dList, RF.dTup, RF.dAll, RF.dAny, RF.dSum, RF.dMax2, RF.dMin2, RF.truthD, RF.isNon]
      have hb' : (b : Int) < 1000000000 := hb
      refine ⟨by decide, o, hy.snoc ?_, h, rfl⟩
      rw [show (10 : Int) ^ Int.toNat 8 = 100000000 from rfl]
      omega
    rintro ys rr ⟨o, hy, h, rfl⟩
    rw [rngL_len] at hy
    obtain ⟨t, ht⟩ := h.toD
    have hyl := hy.1
    refine ⟨by rw [show sizeLine = 16777216 from rfl]; omega, ?_⟩
    have eqA : dEq (kD kb) (.str (Str.ofString "array")) = some (.va (.bl kb)) := by
      cases kb
      · show some (RV.va (.bl (Str.ofString "int" == Str.ofString "array"))) = _
        rw [kD_ne]
      · rfl
    have hal : as.length = k := by
      have := vals_len hv
      rw [List.length_take] at this
      omega
    have hvs : ∀ d, vOk kb d = true → vals (p.items.take (k + 1)) (as ++ [d]) = true := fun d hd => by
      rw [List.take_succ_eq_append_getElem l4, vals_snoc _ _ _ _ hv, hx2]
      exact hd
    have hfs := filter_step l4
    rw [hx2] at hfs
    have hrl : rs.length ≤ 10 := by
      rw [hl]
      exact Nat.le_trans (List.length_filter_le _ _) (by rw [List.length_take]; omega)
    have hsnoc : ∀ {xs : List D} {d : D}, (∀ d ∈ xs, bD d = true) → bD d = true → ∀ e ∈ xs ++ [d], bD e = true := fun h1 h2 e he => by
      rcases List.mem_append.mp he with he | he
      · exact h1 e he
      · rw [List.mem_singleton.mp he]; exact h2
    simp -dsimp -implicitDefEqProofs only [RF.w_seq, RF.w_if, RF.w_asg, RF.w_ret, RF.w_drop, RF.w_nx, RF.w_run, RF.w_C, RF.w_var, RF.w_mv, RF.w_D, RF.w_V, RF.w_ev, RF.w_lv, RF.w_op, RF.w_T, RF.w_B, RF.w_notT, RF.w_andT, RF.w_orT, RF.w_andV, RF.w_orV, RF.w_not, RF.w_neg, RF.w_CB, RF.w_pre0, RF.w_pre, RF.w_isi, RF.w_evs0, RF.w_evs, RF.w_tup, RF.w_lst, RF.w_part0, RF.w_part, RF.w_sl, RF.w_call, RF.w_call0, RF.w_app, RF.w_ext, RF.w_ins, RF.w_pop, RF.w_setI, RF.w_aug, RF.w_asgT, RF.w_for, RF.w_for0, RF.w_for1, RF.w_it, RF.w_enum, RF.w_rng1, RF.w_rng2, RF.w_lc, RF.w_lc0, RF.w_lc1, RF.w_chain, RF.w_lam, RF.w_bnd, RF.oK_some, RF.oK_none, RF.oK_ite, RF.ifK_true, RF.ifK_false, RF.ifK_not, RF.seqK_nx, RF.seqK_bk, RF.seqK_ct, RF.seqK_rt, RF.stO_un, RF.stO_va, RF.stO_ow, RF.retK_rt, RF.retK_nx, RF.back_nil, RF.back_ow, RF.back_va, RF.varK_va, RF.varK_ow, RF.toD_lst, RF.toD_dct, RF.mvK_va, RF.mvK_ow, RF.rvK_va, RF.rvK_ow, RF.rdS_va, RF.rdS_ow, RF.fin_ev, RF.fin_lv, RF.ap2_some, RF.blK_bl, RF.negD, RF.cons2_some, RF.finL_nil, RF.finL_cons, RF.intK_int, RF.mkA_nil, RF.mkA_ev, RF.mkS_ow, RF.mkA_lv, RF.putA_nil, RF.putA_ev, RF.putS_ow, RF.putA_lv, RF.owS_ow, RF.vaS_va, RF.tgN_eq, RF.tgO_un, RF.tgO_va, RF.tgO_ow, RF.tgT_tup, RF.tgL_nil, RF.tgL_cons, RF.forK_nx, RF.forK_ct, RF.forK_bk, RF.forK_rt, RF.asV, Option.map_some, Option.map_none, Option.bind_some, Option.bind_none, Option.some.injEq, List.getElem?_cons_zero, List.getElem?_cons_succ, List.set_cons_zero, List.set_cons_succ, List.length_cons, List.length_nil, List.cons_append, List.nil_append, List.replicate_succ, List.replicate_zero, Nat.reduceAdd, Nat.reduceSub, Nat.add_zero, Nat.zero_add, Nat.sub_self, RF.seqI, RF.seqD, RF.wipeE, RF.restE, Option.getD_some, RF.ix_lst0, RF.ix_tup0, RF.ixN_0, RF.ix_lst1, RF.ix_tup1, RF.ixN_1, RF.ix_lst2, RF.ix_tup2, RF.ixN_2, RF.ix_lst3, RF.ix_tup3, RF.ixN_3, RF.ix_lst4, RF.ix_tup4, RF.ixN_4, RF.ix_lst5, RF.ix_tup5, RF.ixN_5, RF.ix_lst6, RF.ix_tup6, RF.ixN_6, RF.ix_lst7, RF.ix_tup7, RF.ixN_7, RF.ix_lst8, RF.ix_tup8, RF.ixN_8, RF.add_int, RF.dSub, RF.dMul, RF.dFdiv, RF.dMod, RF.dPow, RF.eq_int, RF.eq_str, RF.ne_int, RF.ne_str, RF.dLt, RF.le_int, RF.gt_int, RF.ge_int, RF.dIs, RF.dLen, RF.dAbs, RF.dInt, RF.dList, RF.dTup, RF.dAll, RF.dAny, RF.dSum, RF.dMax2, RF.dMin2, RF.truthD, RF.isNon, p6.st, eqA]
    cases kb
    · simp -dsimp -implicitDefEqProofs only [RF.w_seq, RF.w_if, RF.w_asg, RF.w_ret, RF.w_drop, RF.w_nx, RF.w_run, RF.w_C, RF.w_var, RF.w_mv, RF.w_D, RF.w_V, RF.w_ev, RF.w_lv, RF.w_op, RF.w_T, RF.w_B, RF.w_notT, RF.w_andT, RF.w_orT, RF.w_andV, RF.w_orV, RF.w_not, RF.w_neg, RF.w_CB, RF.w_pre0, RF.w_pre, RF.w_isi, RF.w_evs0, RF.w_evs, RF.w_tup, RF.w_lst, RF.w_part0, RF.w_part, RF.w_sl, RF.w_call, RF.w_call0, RF.w_app, RF.w_ext, RF.w_ins, RF.w_pop, RF.w_setI, RF.w_aug, RF.w_asgT, RF.w_for, RF.w_for0, RF.w_for1, RF.w_it, RF.w_enum, RF.w_rng1, RF.w_rng2, RF.w_lc, RF.w_lc0, RF.w_lc1, RF.w_chain, RF.w_lam, RF.w_bnd, RF.oK_some, RF.oK_none, RF.oK_ite, RF.ifK_true, RF.ifK_false, RF.ifK_not, RF.seqK_nx, RF.seqK_bk, RF.seqK_ct, RF.seqK_rt, RF.stO_un, RF.stO_va, RF.stO_ow, RF.retK_rt, RF.retK_nx, RF.back_nil, RF.back_ow, RF.back_va, RF.varK_va, RF.varK_ow, RF.toD_lst, RF.toD_dct, RF.mvK_va, RF.mvK_ow, RF.rvK_va, RF.rvK_ow, RF.rdS_va, RF.rdS_ow, RF.fin_ev, RF.fin_lv, RF.ap2_some, RF.blK_bl, RF.negD, RF.cons2_some, RF.finL_nil, RF.finL_cons, RF.intK_int, RF.mkA_nil, RF.mkA_ev, RF.mkS_ow, RF.mkA_lv, RF.putA_nil, RF.putA_ev, RF.putS_ow, RF.putA_lv, RF.owS_ow, RF.vaS_va, RF.tgN_eq, RF.tgO_un, RF.tgO_va, RF.tgO_ow, RF.tgT_tup, RF.tgL_nil, RF.tgL_cons, RF.forK_nx, RF.forK_ct, RF.forK_bk, RF.forK_rt, RF.asV, Option.map_some, Option.map_none, Option.bind_some, Option.bind_none, Option.some.injEq, List.getElem?_cons_zero, List.getElem?_cons_succ, List.set_cons_zero, List.set_cons_succ, List.length_cons, List.length_nil, List.cons_append, List.nil_append, List.replicate_succ, List.replicate_zero, Nat.reduceAdd, Nat.reduceSub, Nat.add_zero, Nat.zero_add, Nat.sub_self, RF.seqI, RF.seqD, RF.wipeE, RF.restE, Option.getD_some, RF.ix_lst0, RF.ix_tup0, RF.ixN_0, RF.ix_lst1, RF.ix_tup1, RF.ixN_1, RF.ix_lst2, RF.ix_tup2, RF.ixN_2, RF.ix_lst3, RF.ix_tup3, RF.ixN_3, RF.ix_lst4, RF.ix_tup4, RF.ixN_4, RF.ix_lst5, RF.ix_tup5, RF.ixN_5, RF.ix_lst6, RF.ix_tup6, RF.ixN_6, RF.ix_lst7, RF.ix_tup7, RF.ixN_7, RF.ix_lst8, RF.ix_tup8, RF.ixN_8, RF.add_int, RF.dSub, RF.dMul, RF.dFdiv, RF.dMod, RF.dPow, RF.eq_int, RF.eq_str, RF.ne_int, RF.ne_str, RF.dLt, RF.le_int, RF.gt_int, RF.ge_int, RF.dIs, RF.dLen, RF.dAbs, RF.dInt, RF.dList, RF.dTup, RF.dAll, RF.dAny, RF.dSum, RF.dMax2, RF.dMin2, RF.truthD, RF.isNon, ht, q__law_draw]
      refine drawK h (by decide) (by decide) fun b o t hb h ht => ?_
      simp -dsimp -implicitDefEqProofs only [RF.w_seq, RF.w_if, RF.w_asg, RF.w_ret, RF.w_drop, RF.w_nx, RF.w_run, RF.w_C, RF.w_var, RF.w_mv, RF.w_D, RF.w_V, RF.w_ev, RF.w_lv, RF.w_op, RF.w_T, RF.w_B, RF.w_notT, RF.w_andT, RF.w_orT, RF.w_andV, RF.w_orV, RF.w_not, RF.w_neg, RF.w_CB, RF.w_pre0, RF.w_pre, RF.w_isi, RF.w_evs0, RF.w_evs, RF.w_tup, RF.w_lst, RF.w_part0, RF.w_part, RF.w_sl, RF.w_call, RF.w_call0, RF.w_app, RF.w_ext, RF.w_ins, RF.w_pop, RF.w_setI, RF.w_aug, RF.w_asgT, RF.w_for, RF.w_for0, RF.w_for1, RF.w_it, RF.w_enum, RF.w_rng1, RF.w_rng2, RF.w_lc, RF.w_lc0, RF.w_lc1, RF.w_chain, RF.w_lam, RF.w_bnd, RF.oK_some, RF.oK_none, RF.oK_ite, RF.ifK_true, RF.ifK_false, RF.ifK_not, RF.seqK_nx, RF.seqK_bk, RF.seqK_ct, RF.seqK_rt, RF.stO_un, RF.stO_va, RF.stO_ow, RF.retK_rt, RF.retK_nx, RF.back_nil, RF.back_ow, RF.back_va, RF.varK_va, RF.varK_ow, RF.toD_lst, RF.toD_dct, RF.mvK_va, RF.mvK_ow, RF.rvK_va, RF.rvK_ow, RF.rdS_va, RF.rdS_ow, RF.fin_ev, RF.fin_lv, RF.ap2_some, RF.blK_bl, RF.negD, RF.cons2_some, RF.finL_nil, RF.finL_cons, RF.intK_int, RF.mkA_nil, RF.mkA_ev, RF.mkS_ow, RF.mkA_lv, RF.putA_nil, RF.putA_ev, RF.putS_ow, RF.putA_lv, RF.owS_ow, RF.vaS_va, RF.tgN_eq, RF.tgO_un, RF.tgO_va, RF.tgO_ow, RF.tgT_tup, RF.tgL_nil, RF.tgL_cons, RF.forK_nx, RF.forK_ct, RF.forK_bk, RF.forK_rt, RF.asV, Option.map_some, Option.map_none, Option.bind_some, Option.bind_none, Option.some.injEq, List.getElem?_cons_zero, List.getElem?_cons_succ, List.set_cons_zero, List.set_cons_succ, List.length_cons, List.length_nil, List.cons_append, List.nil_append, List.replicate_succ, List.replicate_zero, Nat.reduceAdd, Nat.reduceSub, Nat.add_zero, Nat.zero_add, Nat.sub_self, RF.seqI, RF.seqD, RF.wipeE, RF.restE, Option.getD_some, RF.ix_lst0, RF.ix_tup0, RF.ixN_0, RF.ix_lst1, RF.ix_tup1, RF.ixN_1, RF.ix_lst2, RF.ix_tup2, RF.ixN_2, RF.ix_lst3, RF.ix_tup3, RF.ixN_3, RF.ix_lst4, RF.ix_tup4, RF.ixN_4, RF.ix_lst5, RF.ix_tup5, RF.ixN_5, RF.ix_lst6, RF.ix_tup6, RF.ixN_6, RF.ix_lst7, RF.ix_tup7, RF.ixN_7, RF.ix_lst8, RF.ix_tup8, RF.ixN_8, RF.add_int, RF.dSub, RF.dMul, RF.dFdiv, RF.dMod, RF.dPow, RF.eq_int, RF.eq_str, RF.ne_int, RF.ne_str, RF.dLt, RF.le_int, RF.gt_int, RF.ge_int, RF.dIs, RF.dLen, RF.dAbs, RF.dInt, RF.dList, RF.dTup, RF.dAll, RF.dAny, RF.dSum, RF.dMax2, RF.dMin2, RF.truthD, RF.isNon]
      refine ⟨by rw [show sizeLine = 16777216 from rfl]; omega, ?_⟩
      exact ⟨_, rs, o, _, _, _, hvs _ rfl, hsnoc hab (by simp only [bD, decide_eq_true_eq]; omega), by rw [hl, hfs]; rfl, hr, h, .va, .va, .va, rfl⟩
    · simp -dsimp -implicitDefEqProofs only [RF.w_seq, RF.w_if, RF.w_asg, RF.w_ret, RF.w_drop, RF.w_nx, RF.w_run, RF.w_C, RF.w_var, RF.w_mv, RF.w_D, RF.w_V, RF.w_ev, RF.w_lv, RF.w_op, RF.w_T, RF.w_B, RF.w_notT, RF.w_andT, RF.w_orT, RF.w_andV, RF.w_orV, RF.w_not, RF.w_neg, RF.w_CB, RF.w_pre0, RF.w_pre, RF.w_isi, RF.w_evs0, RF.w_evs, RF.w_tup, RF.w_lst, RF.w_part0, RF.w_part, RF.w_sl, RF.w_call, RF.w_call0, RF.w_app, RF.w_ext, RF.w_ins, RF.w_pop, RF.w_setI, RF.w_aug, RF.w_asgT, RF.w_for, RF.w_for0, RF.w_for1, RF.w_it, RF.w_enum, RF.w_rng1, RF.w_rng2, RF.w_lc, RF.w_lc0, RF.w_lc1, RF.w_chain, RF.w_lam, RF.w_bnd, RF.oK_some, RF.oK_none, RF.oK_ite, RF.ifK_true, RF.ifK_false, RF.ifK_not, RF.seqK_nx, RF.seqK_bk, RF.seqK_ct, RF.seqK_rt, RF.stO_un, RF.stO_va, RF.stO_ow, RF.retK_rt, RF.retK_nx, RF.back_nil, RF.back_ow, RF.back_va, RF.varK_va, RF.varK_ow, RF.toD_lst, RF.toD_dct, RF.mvK_va, RF.mvK_ow, RF.rvK_va, RF.rvK_ow, RF.rdS_va, RF.rdS_ow, RF.fin_ev, RF.fin_lv, RF.ap2_some, RF.blK_bl, RF.negD, RF.cons2_some, RF.finL_nil, RF.finL_cons, RF.intK_int, RF.mkA_nil, RF.mkA_ev, RF.mkS_ow, RF.mkA_lv, RF.putA_nil, RF.putA_ev, RF.putS_ow, RF.putA_lv, RF.owS_ow, RF.vaS_va, RF.tgN_eq, RF.tgO_un, RF.tgO_va, RF.tgO_ow, RF.tgT_tup, RF.tgL_nil, RF.tgL_cons, RF.forK_nx, RF.forK_ct, RF.forK_bk, RF.forK_rt, RF.asV, Option.map_some, Option.map_none, Option.bind_some, Option.bind_none, Option.some.injEq, List.getElem?_cons_zero, List.getElem?_cons_succ, List.set_cons_zero, List.set_cons_succ, List.length_cons, List.length_nil, List.cons_append, List.nil_append, List.replicate_succ, List.replicate_zero, Nat.reduceAdd, Nat.reduceSub, Nat.add_zero, Nat.zero_add, Nat.sub_self, RF.seqI, RF.seqD, RF.wipeE, RF.restE, Option.getD_some, RF.ix_lst0, RF.ix_tup0, RF.ixN_0, RF.ix_lst1, RF.ix_tup1, RF.ixN_1, RF.ix_lst2, RF.ix_tup2, RF.ixN_2, RF.ix_lst3, RF.ix_tup3, RF.ixN_3, RF.ix_lst4, RF.ix_tup4, RF.ixN_4, RF.ix_lst5, RF.ix_tup5, RF.ixN_5, RF.ix_lst6, RF.ix_tup6, RF.ixN_6, RF.ix_lst7, RF.ix_tup7, RF.ixN_7, RF.ix_lst8, RF.ix_tup8, RF.ixN_8, RF.add_int, RF.dSub, RF.dMul, RF.dFdiv, RF.dMod, RF.dPow, RF.eq_int, RF.eq_str, RF.ne_int, RF.ne_str, RF.dLt, RF.le_int, RF.gt_int, RF.ge_int, RF.dIs, RF.dLen, RF.dAbs, RF.dInt, RF.dList, RF.dTup, RF.dAll, RF.dAny, RF.dSum, RF.dMax2, RF.dMin2, RF.truthD, RF.isNon, ht, q__law_draw]
      refine ⟨by rw [show sizeLine = 16777216 from rfl]; omega, ?_⟩
      refine drawK h (by decide) (by decide) fun m2 o t hm2 h ht => ?_
      simp -dsimp -implicitDefEqProofs only [RF.w_seq, RF.w_if, RF.w_asg, RF.w_ret, RF.w_drop, RF.w_nx, RF.w_run, RF.w_C, RF.w_var, RF.w_mv, RF.w_D, RF.w_V, RF.w_ev, RF.w_lv, RF.w_op, RF.w_T, RF.w_B, RF.w_notT, RF.w_andT, RF.w_orT, RF.w_andV, RF.w_orV, RF.w_not, RF.w_neg, RF.w_CB, RF.w_pre0, RF.w_pre, RF.w_isi, RF.w_evs0, RF.w_evs, RF.w_tup, RF.w_lst, RF.w_part0, RF.w_part, RF.w_sl, RF.w_call, RF.w_call0, RF.w_app, RF.w_ext, RF.w_ins, RF.w_pop, RF.w_setI, RF.w_aug, RF.w_asgT, RF.w_for, RF.w_for0, RF.w_for1, RF.w_it, RF.w_enum, RF.w_rng1, RF.w_rng2, RF.w_lc, RF.w_lc0, RF.w_lc1, RF.w_chain, RF.w_lam, RF.w_bnd, RF.oK_some, RF.oK_none, RF.oK_ite, RF.ifK_true, RF.ifK_false, RF.ifK_not, RF.seqK_nx, RF.seqK_bk, RF.seqK_ct, RF.seqK_rt, RF.stO_un, RF.stO_va, RF.stO_ow, RF.retK_rt, RF.retK_nx, RF.back_nil, RF.back_ow, RF.back_va, RF.varK_va, RF.varK_ow, RF.toD_lst, RF.toD_dct, RF.mvK_va, RF.mvK_ow, RF.rvK_va, RF.rvK_ow, RF.rdS_va, RF.rdS_ow, RF.fin_ev, RF.fin_lv, RF.ap2_some, RF.blK_bl, RF.negD, RF.cons2_some, RF.finL_nil, RF.finL_cons, RF.intK_int, RF.mkA_nil, RF.mkA_ev, RF.mkS_ow, RF.mkA_lv, RF.putA_nil, RF.putA_ev, RF.putS_ow, RF.putA_lv, RF.owS_ow, RF.vaS_va, RF.tgN_eq, RF.tgO_un, RF.tgO_va, RF.tgO_ow, RF.tgT_tup, RF.tgL_nil, RF.tgL_cons, RF.forK_nx, RF.forK_ct, RF.forK_bk, RF.forK_rt, RF.asV, Option.map_some, Option.map_none, Option.bind_some, Option.bind_none, Option.some.injEq, List.getElem?_cons_zero, List.getElem?_cons_succ, List.set_cons_zero, List.set_cons_succ, List.length_cons, List.length_nil, List.cons_append, List.nil_append, List.replicate_succ, List.replicate_zero, Nat.reduceAdd, Nat.reduceSub, Nat.add_zero, Nat.zero_add, Nat.sub_self, RF.seqI, RF.seqD, RF.wipeE, RF.restE, Option.getD_some, RF.ix_lst0, RF.ix_tup0, RF.ixN_0, RF.ix_lst1, RF.ix_tup1, RF.ixN_1, RF.ix_lst2, RF.ix_tup2, RF.ixN_2, RF.ix_lst3, RF.ix_tup3, RF.ixN_3, RF.ix_lst4, RF.ix_tup4, RF.ixN_4, RF.ix_lst5, RF.ix_tup5, RF.ixN_5, RF.ix_lst6, RF.ix_tup6, RF.ixN_6, RF.ix_lst7, RF.ix_tup7, RF.ixN_7, RF.ix_lst8, RF.ix_tup8, RF.ixN_8, RF.add_int, RF.dSub, RF.dMul, RF.dFdiv, RF.dMod, RF.dPow, RF.eq_int, RF.eq_str, RF.ne_int, RF.ne_str, RF.dLt, RF.le_int, RF.gt_int, RF.ge_int, RF.dIs, RF.dLen, RF.dAbs, RF.dInt, RF.dList, RF.dTup, RF.dAll, RF.dAny, RF.dSum, RF.dMax2, RF.dMin2, RF.truthD, RF.isNon]
      refine ⟨inRng_nat (by omega), by rfl, ?_⟩
      refine wp_lcI (rngL 0 m2) (fun i zs r => ∃ o : Ob, Row zs i ∧ DrS ns o ∧ r = [.ow true o, .va (pD p), .ow false (.lst (as ++ [.tup ys])), .ow false (.lst rs), .va (kD true), .va (.str x), .va (.tup ys), .un, .un]) ?_ ?_ _ ⟨o, Row.nil, h, rfl⟩
      · rintro i d zs r hi ⟨o, hz, h, rfl⟩
        obtain ⟨t, ht⟩ := h.toD
        refine ⟨_, rfl, ?_⟩
        simp -dsimp -implicitDefEqProofs only [RF.w_seq, RF.w_if, RF.w_asg, RF.w_ret, RF.w_drop, RF.w_nx, RF.w_run, RF.w_C, RF.w_var, RF.w_mv, RF.w_D, RF.w_V, RF.w_ev, RF.w_lv, RF.w_op, RF.w_T, RF.w_B, RF.w_notT, RF.w_andT, RF.w_orT, RF.w_andV, RF.w_orV, RF.w_not, RF.w_neg, RF.w_CB, RF.w_pre0, RF.w_pre, RF.w_isi, RF.w_evs0, RF.w_evs, RF.w_tup, RF.w_lst, RF.w_part0, RF.w_part, RF.w_sl, RF.w_call, RF.w_call0, RF.w_app, RF.w_ext, RF.w_ins, RF.w_pop, RF.w_setI, RF.w_aug, RF.w_asgT, RF.w_for, RF.w_for0, RF.w_for1, RF.w_it, RF.w_enum, RF.w_rng1, RF.w_rng2, RF.w_lc, RF.w_lc0, RF.w_lc1, RF.w_chain, RF.w_lam, RF.w_bnd, RF.oK_some, RF.oK_none, RF.oK_ite, RF.ifK_true, RF.ifK_false, RF.ifK_not, RF.seqK_nx, RF.seqK_bk, RF.seqK_ct, RF.seqK_rt, RF.stO_un, RF.stO_va, RF.stO_ow, RF.retK_rt, RF.retK_nx, RF.back_nil, RF.back_ow, RF.back_va, RF.varK_va, RF.varK_ow, RF.toD_lst, RF.toD_dct, RF.mvK_va, RF.mvK_ow, RF.rvK_va, RF.rvK_ow, RF.rdS_va, RF.rdS_ow, RF.fin_ev, RF.fin_lv, RF.ap2_some, RF.blK_bl, RF.negD, RF.cons2_some, RF.finL_nil, RF.finL_cons, RF.intK_int, RF.mkA_nil, RF.mkA_ev, RF.mkS_ow, RF.mkA_lv, RF.putA_nil, RF.putA_ev, RF.putS_ow, RF.putA_lv, RF.owS_ow, RF.vaS_va, RF.tgN_eq, RF.tgO_un, RF.tgO_va, RF.tgO_ow, RF.tgT_tup, RF.tgL_nil, RF.tgL_cons, RF.forK_nx, RF.forK_ct, RF.forK_bk, RF.forK_rt, RF.asV, Option.map_some, Option.map_none, Option.bind_some, Option.bind_none, Option.some.injEq, List.getElem?_cons_zero, List.getElem?_cons_succ, List.set_cons_zero, List.set_cons_succ, List.length_cons, List.length_nil, List.cons_append, List.nil_append, List.replicate_succ, List.replicate_zero, Nat.reduceAdd, Nat.reduceSub, Nat.add_zero, Nat.zero_add, Nat.sub_self, RF.seqI, RF.seqD, RF.wipeE, RF.restE, Option.getD_some, RF.ix_lst0, RF.ix_tup0, RF.ixN_0, RF.ix_lst1, RF.ix_tup1, RF.ixN_1, RF.ix_lst2, RF.ix_tup2, RF.ixN_2, RF.ix_lst3, RF.ix_tup3, RF.ixN_3, RF.ix_lst4, RF.ix_tup4, RF.ixN_4, RF.ix_lst5, RF.ix_tup5, RF.ixN_5, RF.ix_lst6, RF.ix_tup6, RF.ixN_6, RF.ix_lst7, RF.ix_tup7, RF.ixN_7, RF.ix_lst8, RF.ix_tup8, RF.ixN_8, RF.add_int, RF.dSub, RF.dMul, RF.dFdiv, RF.dMod, RF.dPow, RF.eq_int, RF.eq_str, RF.ne_int, RF.ne_str, RF.dLt, RF.le_int, RF.gt_int, RF.ge_int, RF.dIs, RF.dLen, RF.dAbs, RF.dInt, RF.dList, RF.dTup, RF.dAll, RF.dAny, RF.dSum, RF.dMax2, RF.dMin2, RF.truthD, RF.isNon, ht, q__law_draw]
        refine drawK h (by decide) (by decide) fun b o t hb h ht => ?_
        simp -dsimp -implicitDefEqProofs only [RF.w_seq, RF.w_if, RF.w_asg, RF.w_ret, RF.w_drop, RF.w_nx, RF.w_run, RF.w_C, RF.w_var, RF.w_mv, RF.w_D, RF.w_V, RF.w_ev, RF.w_lv, RF.w_op, RF.w_T, RF.w_B, RF.w_notT, RF.w_andT, RF.w_orT, RF.w_andV, RF.w_orV, RF.w_not, RF.w_neg, RF.w_CB, RF.w_pre0, RF.w_pre, RF.w_isi, RF.w_evs0, RF.w_evs, RF.w_tup, RF.w_lst, RF.w_part0, RF.w_part, RF.w_sl, RF.w_call, RF.w_call0, RF.w_app, RF.w_ext, RF.w_ins, RF.w_pop, RF.w_setI, RF.w_aug, RF.w_asgT, RF.w_for, RF.w_for0, RF.w_for1, RF.w_it, RF.w_enum, RF.w_rng1, RF.w_rng2, RF.w_lc, RF.w_lc0, RF.w_lc1, RF.w_chain, RF.w_lam, RF.w_bnd, RF.oK_some, RF.oK_none, RF.oK_ite, RF.ifK_true, RF.ifK_false, RF.ifK_not, RF.seqK_nx, RF.seqK_bk, RF.seqK_ct, RF.seqK_rt, RF.stO_un, RF.stO_va, RF.stO_ow, RF.retK_rt, RF.retK_nx, RF.back_nil, RF.back_ow, RF.back_va, RF.varK_va, RF.varK_ow, RF.toD_lst, RF.toD_dct, RF.mvK_va, RF.mvK_ow, RF.rvK_va, RF.rvK_ow, RF.rdS_va, RF.rdS_ow, RF.fin_ev, RF.fin_lv, RF.ap2_some, RF.blK_bl, RF.negD, RF.cons2_some, RF.finL_nil, RF.finL_cons, RF.intK_int, RF.mkA_nil, RF.mkA_ev, RF.mkS_ow, RF.mkA_lv, RF.putA_nil, RF.putA_ev, RF.putS_ow, RF.putA_lv, RF.owS_ow, RF.vaS_va, RF.tgN_eq, RF.tgO_un, RF.tgO_va, RF.tgO_ow, RF.tgT_tup, RF.tgL_nil, RF.tgL_cons, RF.forK_nx, RF.forK_ct, RF.forK_bk, RF.forK_rt, RF.asV, Option.map_some, Option.map_none, Option.bind_some, Option.bind_none, Option.some.injEq, List.getElem?_cons_zero, List.getElem?_cons_succ, List.set_cons_zero, List.set_cons_succ, List.length_cons, List.length_nil, List.cons_append, List.nil_append, List.replicate_succ, List.replicate_zero, Nat.reduceAdd, Nat.reduceSub, Nat.add_zero, Nat.zero_add, Nat.sub_self, RF.seqI, RF.seqD, RF.wipeE, RF.restE, Option.getD_some, RF.ix_lst0, RF.ix_tup0, RF.ixN_0, RF.ix_lst1, RF.ix_tup1, RF.ixN_1, RF.ix_lst2, RF.ix_tup2, RF.ixN_2, RF.ix_lst3, RF.ix_tup3, RF.ixN_3, RF.ix_lst4, RF.ix_tup4, RF.ixN_4, RF.ix_lst5, RF.ix_tup5, RF.ixN_5, RF.ix_lst6, RF.ix_tup6, RF.ixN_6, RF.ix_lst7, RF.ix_tup7, RF.ixN_7, RF.ix_lst8, RF.ix_tup8, RF.ixN_8, RF.add_int, RF.dSub, RF.dMul, RF.dFdiv, RF.dMod, RF.dPow, RF.eq_int, RF.eq_str, RF.ne_int, RF.ne_str, RF.dLt, RF.le_int, RF.gt_int, RF.ge_int, RF.dIs, RF.dLen, RF.dAbs, RF.dInt, RF.dList, RF.dTup, RF.dAll, RF.dAny, RF.dSum, RF.dMax2, RF.dMin2, RF.truthD, RF.isNon]
        exact ⟨o, hz.snoc (by omega), h, rfl⟩
      · rintro zs rr ⟨o, hz, h, rfl⟩
        rw [rngL_len] at hz
        have hzl := hz.1
        refine ⟨by rw [show sizeLine = 16777216 from rfl]; omega, ?_⟩
        simp -dsimp -implicitDefEqProofs only [RF.w_seq, RF.w_if, RF.w_asg, RF.w_ret, RF.w_drop, RF.w_nx, RF.w_run, RF.w_C, RF.w_var, RF.w_mv, RF.w_D, RF.w_V, RF.w_ev, RF.w_lv, RF.w_op, RF.w_T, RF.w_B, RF.w_notT, RF.w_andT, RF.w_orT, RF.w_andV, RF.w_orV, RF.w_not, RF.w_neg, RF.w_CB, RF.w_pre0, RF.w_pre, RF.w_isi, RF.w_evs0, RF.w_evs, RF.w_tup, RF.w_lst, RF.w_part0, RF.w_part, RF.w_sl, RF.w_call, RF.w_call0, RF.w_app, RF.w_ext, RF.w_ins, RF.w_pop, RF.w_setI, RF.w_aug, RF.w_asgT, RF.w_for, RF.w_for0, RF.w_for1, RF.w_it, RF.w_enum, RF.w_rng1, RF.w_rng2, RF.w_lc, RF.w_lc0, RF.w_lc1, RF.w_chain, RF.w_lam, RF.w_bnd, RF.oK_some, RF.oK_none, RF.oK_ite, RF.ifK_true, RF.ifK_false, RF.ifK_not, RF.seqK_nx, RF.seqK_bk, RF.seqK_ct, RF.seqK_rt, RF.stO_un, RF.stO_va, RF.stO_ow, RF.retK_rt, RF.retK_nx, RF.back_nil, RF.back_ow, RF.back_va, RF.varK_va, RF.varK_ow, RF.toD_lst, RF.toD_dct, RF.mvK_va, RF.mvK_ow, RF.rvK_va, RF.rvK_ow, RF.rdS_va, RF.rdS_ow, RF.fin_ev, RF.fin_lv, RF.ap2_some, RF.blK_bl, RF.negD, RF.cons2_some, RF.finL_nil, RF.finL_cons, RF.intK_int, RF.mkA_nil, RF.mkA_ev, RF.mkS_ow, RF.mkA_lv, RF.putA_nil, RF.putA_ev, RF.putS_ow, RF.putA_lv, RF.owS_ow, RF.vaS_va, RF.tgN_eq, RF.tgO_un, RF.tgO_va, RF.tgO_ow, RF.tgT_tup, RF.tgL_nil, RF.tgL_cons, RF.forK_nx, RF.forK_ct, RF.forK_bk, RF.forK_rt, RF.asV, Option.map_some, Option.map_none, Option.bind_some, Option.bind_none, Option.some.injEq, List.getElem?_cons_zero, List.getElem?_cons_succ, List.set_cons_zero, List.set_cons_succ, List.length_cons, List.length_nil, List.cons_append, List.nil_append, List.replicate_succ, List.replicate_zero, Nat.reduceAdd, Nat.reduceSub, Nat.add_zero, Nat.zero_add, Nat.sub_self, RF.seqI, RF.seqD, RF.wipeE, RF.restE, Option.getD_some, RF.ix_lst0, RF.ix_tup0, RF.ixN_0, RF.ix_lst1, RF.ix_tup1, RF.ixN_1, RF.ix_lst2, RF.ix_tup2, RF.ixN_2, RF.ix_lst3, RF.ix_tup3, RF.ixN_3, RF.ix_lst4, RF.ix_tup4, RF.ixN_4, RF.ix_lst5, RF.ix_tup5, RF.ixN_5, RF.ix_lst6, RF.ix_tup6, RF.ixN_6, RF.ix_lst7, RF.ix_tup7, RF.ixN_7, RF.ix_lst8, RF.ix_tup8, RF.ixN_8, RF.add_int, RF.dSub, RF.dMul, RF.dFdiv, RF.dMod, RF.dPow, RF.eq_int, RF.eq_str, RF.ne_int, RF.ne_str, RF.dLt, RF.le_int, RF.gt_int, RF.ge_int, RF.dIs, RF.dLen, RF.dAbs, RF.dInt, RF.dList, RF.dTup, RF.dAll, RF.dAny, RF.dSum, RF.dMax2, RF.dMin2, RF.truthD, RF.isNon]
        refine ⟨by rw [show sizeLine = 16777216 from rfl]; omega, ?_⟩
        refine ⟨_, _, o, _, _, _, hvs (.tup ys) hy.tin, hsnoc hab (hy.b (by omega)), by rw [List.length_append, hl, hfs]; rfl, fun e he => ?_, h, .va, .va, .va, rfl⟩
        rcases List.mem_append.mp he with he | he
        · exact hr e he
        · rw [List.mem_singleton.mp he]; exact ⟨hz.b (by omega), hz.tin⟩
  · rintro r ⟨as, rs, o, s4, s5, s6, hv, hab, hl, hr, h, p4, p5, p6, rfl⟩
    obtain ⟨t, ht⟩ := h.toD
    rw [List.length_map, List.take_of_length_le (Nat.le_refl _)] at hv hl
    simp -dsimp -implicitDefEqProofs only [RF.w_seq, RF.w_if, RF.w_asg, RF.w_ret, RF.w_drop, RF.w_nx, RF.w_run, RF.w_C, RF.w_var, RF.w_mv, RF.w_D, RF.w_V, RF.w_ev, RF.w_lv, RF.w_op, RF.w_T, RF.w_B, RF.w_notT, RF.w_andT, RF.w_orT, RF.w_andV, RF.w_orV, RF.w_not, RF.w_neg, RF.w_CB, RF.w_pre0, RF.w_pre, RF.w_isi, RF.w_evs0, RF.w_evs, RF.w_tup, RF.w_lst, RF.w_part0, RF.w_part, RF.w_sl, RF.w_call, RF.w_call0, RF.w_app, RF.w_ext, RF.w_ins, RF.w_pop, RF.w_setI, RF.w_aug, RF.w_asgT, RF.w_for, RF.w_for0, RF.w_for1, RF.w_it, RF.w_enum, RF.w_rng1, RF.w_rng2, RF.w_lc, RF.w_lc0, RF.w_lc1, RF.w_chain, RF.w_lam, RF.w_bnd, RF.oK_some, RF.oK_none, RF.oK_ite, RF.ifK_true, RF.ifK_false, RF.ifK_not, RF.seqK_nx, RF.seqK_bk, RF.seqK_ct, RF.seqK_rt, RF.stO_un, RF.stO_va, RF.stO_ow, RF.retK_rt, RF.retK_nx, RF.back_nil, RF.back_ow, RF.back_va, RF.varK_va, RF.varK_ow, RF.toD_lst, RF.toD_dct, RF.mvK_va, RF.mvK_ow, RF.rvK_va, RF.rvK_ow, RF.rdS_va, RF.rdS_ow, RF.fin_ev, RF.fin_lv, RF.ap2_some, RF.blK_bl, RF.negD, RF.cons2_some, RF.finL_nil, RF.finL_cons, RF.intK_int, RF.mkA_nil, RF.mkA_ev, RF.mkS_ow, RF.mkA_lv, RF.putA_nil, RF.putA_ev, RF.putS_ow, RF.putA_lv, RF.owS_ow, RF.vaS_va, RF.tgN_eq, RF.tgO_un, RF.tgO_va, RF.tgO_ow, RF.tgT_tup, RF.tgL_nil, RF.tgL_cons, RF.forK_nx, RF.forK_ct, RF.forK_bk, RF.forK_rt, RF.asV, Option.map_some, Option.map_none, Option.bind_some, Option.bind_none, Option.some.injEq, List.getElem?_cons_zero, List.getElem?_cons_succ, List.set_cons_zero, List.set_cons_succ, List.length_cons, List.length_nil, List.cons_append, List.nil_append, List.replicate_succ, List.replicate_zero, Nat.reduceAdd, Nat.reduceSub, Nat.add_zero, Nat.zero_add, Nat.sub_self, RF.seqI, RF.seqD, RF.wipeE, RF.restE, Option.getD_some, RF.ix_lst0, RF.ix_tup0, RF.ixN_0, RF.ix_lst1, RF.ix_tup1, RF.ixN_1, RF.ix_lst2, RF.ix_tup2, RF.ixN_2, RF.ix_lst3, RF.ix_tup3, RF.ixN_3, RF.ix_lst4, RF.ix_tup4, RF.ixN_4, RF.ix_lst5, RF.ix_tup5, RF.ixN_5, RF.ix_lst6, RF.ix_tup6, RF.ixN_6, RF.ix_lst7, RF.ix_tup7, RF.ixN_7, RF.ix_lst8, RF.ix_tup8, RF.ixN_8, RF.add_int, RF.dSub, RF.dMul, RF.dFdiv, RF.dMod, RF.dPow, RF.eq_int, RF.eq_str, RF.ne_int, RF.ne_str, RF.dLt, RF.le_int, RF.gt_int, RF.ge_int, RF.dIs, RF.dLen, RF.dAbs, RF.dInt, RF.dList, RF.dTup, RF.dAll, RF.dAny, RF.dSum, RF.dMax2, RF.dMin2, RF.truthD, RF.isNon, pd0, pd2]
    refine ⟨by rfl, ?_⟩
    refine wp_lcI (p.res.map D.str) (fun i ys r => ∃ o : Ob, ys.length = i ∧ Row ys i ∧ DrS ns o ∧ r = [.ow true o, .va (pD p), .ow false (.lst as), .ow false (.lst rs), s4, s5, s6, .un, .un]) ?_ ?_ _ ⟨o, rfl, Row.nil, h, rfl⟩
    · rintro i d ys r hi ⟨o, hyl, hy, h, rfl⟩
      obtain ⟨t, ht⟩ := h.toD
      refine ⟨_, rfl, ?_⟩
      simp -dsimp -implicitDefEqProofs only [RF.w_seq, RF.w_if, RF.w_asg, RF.w_ret, RF.w_drop, RF.w_nx, RF.w_run, RF.w_C, RF.w_var, RF.w_mv, RF.w_D, RF.w_V, RF.w_ev, RF.w_lv, RF.w_op, RF.w_T, RF.w_B, RF.w_notT, RF.w_andT, RF.w_orT, RF.w_andV, RF.w_orV, RF.w_not, RF.w_neg, RF.w_CB, RF.w_pre0, RF.w_pre, RF.w_isi, RF.w_evs0, RF.w_evs, RF.w_tup, RF.w_lst, RF.w_part0, RF.w_part, RF.w_sl, RF.w_call, RF.w_call0, RF.w_app, RF.w_ext, RF.w_ins, RF.w_pop, RF.w_setI, RF.w_aug, RF.w_asgT, RF.w_for, RF.w_for0, RF.w_for1, RF.w_it, RF.w_enum, RF.w_rng1, RF.w_rng2, RF.w_lc, RF.w_lc0, RF.w_lc1, RF.w_chain, RF.w_lam, RF.w_bnd, RF.oK_some, RF.oK_none, RF.oK_ite, RF.ifK_true, RF.ifK_false, RF.ifK_not, RF.seqK_nx, RF.seqK_bk, RF.seqK_ct, RF.seqK_rt, RF.stO_un, RF.stO_va, RF.stO_ow, RF.retK_rt, RF.retK_nx, RF.back_nil, RF.back_ow, RF.back_va, RF.varK_va, RF.varK_ow, RF.toD_lst, RF.toD_dct, RF.mvK_va, RF.mvK_ow, RF.rvK_va, RF.rvK_ow, RF.rdS_va, RF.rdS_ow, RF.fin_ev, RF.fin_lv, RF.ap2_some, RF.blK_bl, RF.negD, RF.cons2_some, RF.finL_nil, RF.finL_cons, RF.intK_int, RF.mkA_nil, RF.mkA_ev, RF.mkS_ow, RF.mkA_lv, RF.putA_nil, RF.putA_ev, RF.putS_ow, RF.putA_lv, RF.owS_ow, RF.vaS_va, RF.tgN_eq, RF.tgO_un, RF.tgO_va, RF.tgO_ow, RF.tgT_tup, RF.tgL_nil, RF.tgL_cons, RF.forK_nx, RF.forK_ct, RF.forK_bk, RF.forK_rt, RF.asV, Option.map_some, Option.map_none, Option.bind_some, Option.bind_none, Option.some.injEq, List.getElem?_cons_zero, List.getElem?_cons_succ, List.set_cons_zero, List.set_cons_succ, List.length_cons, List.length_nil, List.cons_append, List.nil_append, List.replicate_succ, List.replicate_zero, Nat.reduceAdd, Nat.reduceSub, Nat.add_zero, Nat.zero_add, Nat.sub_self, RF.seqI, RF.seqD, RF.wipeE, RF.restE, Option.getD_some, RF.ix_lst0, RF.ix_tup0, RF.ixN_0, RF.ix_lst1, RF.ix_tup1, RF.ixN_1, RF.ix_lst2, RF.ix_tup2, RF.ixN_2, RF.ix_lst3, RF.ix_tup3, RF.ixN_3, RF.ix_lst4, RF.ix_tup4, RF.ixN_4, RF.ix_lst5, RF.ix_tup5, RF.ixN_5, RF.ix_lst6, RF.ix_tup6, RF.ixN_6, RF.ix_lst7, RF.ix_tup7, RF.ixN_7, RF.ix_lst8, RF.ix_tup8, RF.ixN_8, RF.add_int, RF.dSub, RF.dMul, RF.dFdiv, RF.dMod, RF.dPow, RF.eq_int, RF.eq_str, RF.ne_int, RF.ne_str, RF.dLt, RF.le_int, RF.gt_int, RF.ge_int, RF.dIs, RF.dLen, RF.dAbs, RF.dInt, RF.dList, RF.dTup, RF.dAll, RF.dAny, RF.dSum, RF.dMax2, RF.dMin2, RF.truthD, RF.isNon, ht, q__law_draw]
      refine drawK h (by decide) (by decide) fun b o t hb h ht => ?_
      simp -dsimp -implicitDefEqProofs only [RF.w_seq, RF.w_if, RF.w_asg, RF.w_ret, RF.w_drop, RF.w_nx, RF.w_run, RF.w_C, RF.w_var, RF.w_mv, RF.w_D, RF.w_V, RF.w_ev, RF.w_lv, RF.w_op, RF.w_T, RF.w_B, RF.w_notT, RF.w_andT, RF.w_orT, RF.w_andV, RF.w_orV, RF.w_not, RF.w_neg, RF.w_CB, RF.w_pre0, RF.w_pre, RF.w_isi, RF.w_evs0, RF.w_evs, RF.w_tup, RF.w_lst, RF.w_part0, RF.w_part, RF.w_sl, RF.w_call, RF.w_call0, RF.w_app, RF.w_ext, RF.w_ins, RF.w_pop, RF.w_setI, RF.w_aug, RF.w_asgT, RF.w_for, RF.w_for0, RF.w_for1, RF.w_it, RF.w_enum, RF.w_rng1, RF.w_rng2, RF.w_lc, RF.w_lc0, RF.w_lc1, RF.w_chain, RF.w_lam, RF.w_bnd, RF.oK_some, RF.oK_none, RF.oK_ite, RF.ifK_true, RF.ifK_false, RF.ifK_not, RF.seqK_nx, RF.seqK_bk, RF.seqK_ct, RF.seqK_rt, RF.stO_un, RF.stO_va, RF.stO_ow, RF.retK_rt, RF.retK_nx, RF.back_nil, RF.back_ow, RF.back_va, RF.varK_va, RF.varK_ow, RF.toD_lst, RF.toD_dct, RF.mvK_va, RF.mvK_ow, RF.rvK_va, RF.rvK_ow, RF.rdS_va, RF.rdS_ow, RF.fin_ev, RF.fin_lv, RF.ap2_some, RF.blK_bl, RF.negD, RF.cons2_some, RF.finL_nil, RF.finL_cons, RF.intK_int, RF.mkA_nil, RF.mkA_ev, RF.mkS_ow, RF.mkA_lv, RF.putA_nil, RF.putA_ev, RF.putS_ow, RF.putA_lv, RF.owS_ow, RF.vaS_va, RF.tgN_eq, RF.tgO_un, RF.tgO_va, RF.tgO_ow, RF.tgT_tup, RF.tgL_nil, RF.tgL_cons, RF.forK_nx, RF.forK_ct, RF.forK_bk, RF.forK_rt, RF.asV, Option.map_some, Option.map_none, Option.bind_some, Option.bind_none, Option.some.injEq, List.getElem?_cons_zero, List.getElem?_cons_succ, List.set_cons_zero, List.set_cons_succ, List.length_cons, List.length_nil, List.cons_append, List.nil_append, List.replicate_succ, List.replicate_zero, Nat.reduceAdd, Nat.reduceSub, Nat.add_zero, Nat.zero_add, Nat.sub_self, RF.seqI, RF.seqD, RF.wipeE, RF.restE, Option.getD_some, RF.ix_lst0, RF.ix_tup0, RF.ixN_0, RF.ix_lst1, RF.ix_tup1, RF.ixN_1, RF.ix_lst2, RF.ix_tup2, RF.ixN_2, RF.ix_lst3, RF.ix_tup3, RF.ixN_3, RF.ix_lst4, RF.ix_tup4, RF.ixN_4, RF.ix_lst5, RF.ix_tup5, RF.ixN_5, RF.ix_lst6, RF.ix_tup6, RF.ixN_6, RF.ix_lst7, RF.ix_tup7, RF.ixN_7, RF.ix_lst8, RF.ix_tup8, RF.ixN_8, RF.add_int, RF.dSub, RF.dMul, RF.dFdiv, RF.dMod, RF.dPow, RF.eq_int, RF.eq_str, RF.ne_int, RF.ne_str, RF.dLt, RF.le_int, RF.gt_int, RF.ge_int, RF.dIs, RF.dLen, RF.dAbs, RF.dInt, RF.dList, RF.dTup, RF.dAll, RF.dAny, RF.dSum, RF.dMax2, RF.dMin2, RF.truthD, RF.isNon]
      exact ⟨o, by rw [List.length_append, hyl]; rfl, hy.snoc (by omega), h, rfl⟩
    · rintro ys rr ⟨o, hyl, hy, h, rfl⟩
      obtain ⟨t, ht⟩ := h.toD
      rw [List.length_map] at hyl hy
      refine ⟨by rw [show sizeLine = 16777216 from rfl]; omega, ?_⟩
      simp -dsimp -implicitDefEqProofs only [RF.w_seq, RF.w_if, RF.w_asg, RF.w_ret, RF.w_drop, RF.w_nx, RF.w_run, RF.w_C, RF.w_var, RF.w_mv, RF.w_D, RF.w_V, RF.w_ev, RF.w_lv, RF.w_op, RF.w_T, RF.w_B, RF.w_notT, RF.w_andT, RF.w_orT, RF.w_andV, RF.w_orV, RF.w_not, RF.w_neg, RF.w_CB, RF.w_pre0, RF.w_pre, RF.w_isi, RF.w_evs0, RF.w_evs, RF.w_tup, RF.w_lst, RF.w_part0, RF.w_part, RF.w_sl, RF.w_call, RF.w_call0, RF.w_app, RF.w_ext, RF.w_ins, RF.w_pop, RF.w_setI, RF.w_aug, RF.w_asgT, RF.w_for, RF.w_for0, RF.w_for1, RF.w_it, RF.w_enum, RF.w_rng1, RF.w_rng2, RF.w_lc, RF.w_lc0, RF.w_lc1, RF.w_chain, RF.w_lam, RF.w_bnd, RF.oK_some, RF.oK_none, RF.oK_ite, RF.ifK_true, RF.ifK_false, RF.ifK_not, RF.seqK_nx, RF.seqK_bk, RF.seqK_ct, RF.seqK_rt, RF.stO_un, RF.stO_va, RF.stO_ow, RF.retK_rt, RF.retK_nx, RF.back_nil, RF.back_ow, RF.back_va, RF.varK_va, RF.varK_ow, RF.toD_lst, RF.toD_dct, RF.mvK_va, RF.mvK_ow, RF.rvK_va, RF.rvK_ow, RF.rdS_va, RF.rdS_ow, RF.fin_ev, RF.fin_lv, RF.ap2_some, RF.blK_bl, RF.negD, RF.cons2_some, RF.finL_nil, RF.finL_cons, RF.intK_int, RF.mkA_nil, RF.mkA_ev, RF.mkS_ow, RF.mkA_lv, RF.putA_nil, RF.putA_ev, RF.putS_ow, RF.putA_lv, RF.owS_ow, RF.vaS_va, RF.tgN_eq, RF.tgO_un, RF.tgO_va, RF.tgO_ow, RF.tgT_tup, RF.tgL_nil, RF.tgL_cons, RF.forK_nx, RF.forK_ct, RF.forK_bk, RF.forK_rt, RF.asV, Option.map_some, Option.map_none, Option.bind_some, Option.bind_none, Option.some.injEq, List.getElem?_cons_zero, List.getElem?_cons_succ, List.set_cons_zero, List.set_cons_succ, List.length_cons, List.length_nil, List.cons_append, List.nil_append, List.replicate_succ, List.replicate_zero, Nat.reduceAdd, Nat.reduceSub, Nat.add_zero, Nat.zero_add, Nat.sub_self, RF.seqI, RF.seqD, RF.wipeE, RF.restE, Option.getD_some, RF.ix_lst0, RF.ix_tup0, RF.ixN_0, RF.ix_lst1, RF.ix_tup1, RF.ixN_1, RF.ix_lst2, RF.ix_tup2, RF.ixN_2, RF.ix_lst3, RF.ix_tup3, RF.ixN_3, RF.ix_lst4, RF.ix_tup4, RF.ixN_4, RF.ix_lst5, RF.ix_tup5, RF.ixN_5, RF.ix_lst6, RF.ix_tup6, RF.ixN_6, RF.ix_lst7, RF.ix_tup7, RF.ixN_7, RF.ix_lst8, RF.ix_tup8, RF.ixN_8, RF.add_int, RF.dSub, RF.dMul, RF.dFdiv, RF.dMod, RF.dPow, RF.eq_int, RF.eq_str, RF.ne_int, RF.ne_str, RF.dLt, RF.le_int, RF.gt_int, RF.ge_int, RF.dIs, RF.dLen, RF.dAbs, RF.dInt, RF.dList, RF.dTup, RF.dAll, RF.dAny, RF.dSum, RF.dMax2, RF.dMin2, RF.truthD, RF.isNon]
      have hal := vals_len hv
      have hfl : (p.items.filter (·.1)).length ≤ p.items.length := List.length_filter_le _ _
      refine q _ _ _ o t ?_ ?_ h ht
      · simp only [bD, bL, Bool.and_eq_true, decide_eq_true_eq, List.length_cons, List.length_nil, Bool.and_true, bL_iff]
        refine ⟨by omega, by omega, ⟨by omega, hab⟩, ?_, ⟨by omega, fun d hd => (hr d hd).1⟩⟩
        have := hy.b (show p.res.length ≤ 100 by omega)
        simp only [bD, Bool.and_eq_true, decide_eq_true_eq, bL_iff] at this
        exact this
      · simp only [good1, hv, hy.tin, tn, rowsOk, arrs, hl, hyl, beq_self_eq_true, Bool.and_true, Bool.true_and]
        rw [List.all_eq_true]
        exact fun d hd => (hr d hd).2
end K00

namespace K00
open PySem PySem.Spec PyProof.Rows L2 RF
def bentT : M Fl :=
  (cSeq (cIf (cT (.ev (cD (cIsi "tuple" (.lv 1))))) (cSeq (cAsg 3 (cCall F__law_draw [(.lv 0), (.ev (cD (cOp dAdd (.ev (cD (cCB dLen [(.lv 1)]))) (.ev (cD (cC (.int 1)))))))]))
    (cSeq (cAsg 4 (cLst [(cD (cOp dAdd (.ev (cD (cSl (.lv 1) none (some (cD (cVar 3)))))) (.ev (cD (cSl (.lv 1) (some (cD (cOp dAdd (.lv 3) (.ev (cD (cC (.int 1))))))) none))))), (cD (cOp dAdd (.ev (cD (cOp dAdd (.ev (cD (cSl (.lv 1) none (some (cD (cVar 3)))))) (.ev (cD (cSl (.lv 1) (some (cD (cVar 3))) (some (cD (cOp dAdd (.lv 3) (.ev (cD (cC (.int 1))))))))))))) (.ev (cD (cSl (.lv 1) (some (cD (cVar 3))) none))))), (cD (cOp dAdd (.lv 1) (.ev (cD (cTup [(cD (cC (.int 0)))]))))), (cD (cTup [])), (cD (cC (.int 0)))]))
    (cRet (cCall F__law_one_of [(.lv 0), (.ev (cD (cOp dAdd (.lv 4) (.ev (cD (cLst [(cD (cOp dAdd (.ev (cD (cSl (.lv 1) (some (cD (cVar 3))) none))) (.ev (cD (cSl (.lv 1) none (some (cD (cVar 3)))))))), (cD (cRev (cD (cVar 1)))), (cD (cC (.str "ring"))), (cD (cTup [(cD (cVar 1))]))]))))))])))) cNx)
    (cSeq (cIf (cT (.ev (cD (cIsi "str" (.lv 1))))) (cRet (cCall F__law_one_of [(.lv 0), (.ev (cD (cLst [(cD (cC (.str "forms"))), (cD (cC (.str "ring"))), (cD (cC (.str ""))), (cD (cOp dAdd (.lv 1) (.ev (cD (cC (.str "x")))))), (cD (cSl (.lv 1) (some (cD (cC (.int 1)))) none)), (cD (cSl (.lv 1) none (some (cD (cNeg (.ev (cD (cC (.int 1))))))))), (cD (cC (.int 0))), (cD (cTup []))])))])) cNx)
    (cRet (cCall F__law_one_of [(.lv 0), (.ev (cD (cLst [(cD (cOp dAdd (.lv 1) (.ev (cD (cC (.int 1)))))), (cD (cOp dSub (.lv 1) (.ev (cD (cC (.int 1)))))), (cD (cNeg (.lv 1))), (cD (cOp dMul (.ev (cD (cC (.int 2)))) (.lv 1))), (cD (cC (.int 0))), (cD (cCB dStr [(.lv 1)])), (cD (cTup [(cD (cVar 1))]))])))]))))
theorem b_mem {ds : List D} (h : bD (.tup ds) = true) : ds.length ≤ 100 ∧ ∀ d ∈ ds, bD d = true := by
  simp only [bD, Bool.and_eq_true, decide_eq_true_eq] at h
  exact ⟨h.1, bL_iff.mp h.2⟩
theorem sm_tup {ds : List D} (h1 : ds.length ≤ 1000) (h2 : ∀ d ∈ ds, smD d = true) : smD (.tup ds) = true := by
  simp only [smD, Bool.and_eq_true, decide_eq_true_eq]
  exact ⟨by omega, smL_iff.mpr h2⟩
theorem log_lt {n : Nat} (h : n < 2 ^ 64) : n.log2 < 1920 := by
  by_cases h0 : n = 0
  · subst h0; decide
  · have := (Nat.log2_lt (k := 64) h0).mpr h
    omega
theorem dep_mem : ∀ {ds : List D} {d : D}, d ∈ ds → dep d ≤ depL ds
  | [], _, h => by cases h
  | x :: ds, d, h => by
    rw [depL]
    rcases List.mem_cons.mp h with rfl | h
    · omega
    · have := dep_mem h
      omega
theorem bent_int {ns : List Int} {o : Ob} {i dd : Int} (hi : bD (.int i) = true) (h : DrS ns o) (F : M RV) {Q : RV → RF.Env → Prop} {E : Exc → RF.Env → Prop} (q : ∀ d' o' t, smD d' = true → DrS ns o' → o'.toD = some t → Q (.va d') [.ow true o', .va (.int i), .va (.int dd)]) : wp (runF 5 (b__law_bent F)) [.ow true o, .va (.int i), .va (.int dd)] Q E := by
  obtain ⟨t, ht⟩ := h.toD
  simp only [bD, decide_eq_true_eq] at hi
  unfold b__law_bent
  simp -dsimp -implicitDefEqProofs only [RF.w_seq, RF.w_if, RF.w_asg, RF.w_ret, RF.w_drop, RF.w_nx, RF.w_run, RF.w_C, RF.w_var, RF.w_mv, RF.w_D, RF.w_V, RF.w_ev, RF.w_lv, RF.w_op, RF.w_T, RF.w_B, RF.w_notT, RF.w_andT, RF.w_orT, RF.w_andV, RF.w_orV, RF.w_not, RF.w_neg, RF.w_CB, RF.w_pre0, RF.w_pre, RF.w_isi, RF.w_evs0, RF.w_evs, RF.w_tup, RF.w_lst, RF.w_part0, RF.w_part, RF.w_sl, RF.w_call, RF.w_call0, RF.w_app, RF.w_ext, RF.w_ins, RF.w_pop, RF.w_setI, RF.w_aug, RF.w_asgT, RF.w_for, RF.w_for0, RF.w_for1, RF.w_it, RF.w_enum, RF.w_rng1, RF.w_rng2, RF.w_lc, RF.w_lc0, RF.w_lc1, RF.w_chain, RF.w_lam, RF.w_bnd, RF.oK_some, RF.oK_none, RF.oK_ite, RF.ifK_true, RF.ifK_false, RF.ifK_not, RF.seqK_nx, RF.seqK_bk, RF.seqK_ct, RF.seqK_rt, RF.stO_un, RF.stO_va, RF.stO_ow, RF.retK_rt, RF.retK_nx, RF.back_nil, RF.back_ow, RF.back_va, RF.varK_va, RF.varK_ow, RF.toD_lst, RF.toD_dct, RF.mvK_va, RF.mvK_ow, RF.rvK_va, RF.rvK_ow, RF.rdS_va, RF.rdS_ow, RF.fin_ev, RF.fin_lv, RF.ap2_some, RF.blK_bl, RF.negD, RF.cons2_some, RF.finL_nil, RF.finL_cons, RF.intK_int, RF.mkA_nil, RF.mkA_ev, RF.mkS_ow, RF.mkA_lv, RF.putA_nil, RF.putA_ev, RF.putS_ow, RF.putA_lv, RF.owS_ow, RF.vaS_va, RF.tgN_eq, RF.tgO_un, RF.tgO_va, RF.tgO_ow, RF.tgT_tup, RF.tgL_nil, RF.tgL_cons, RF.forK_nx, RF.forK_ct, RF.forK_bk, RF.forK_rt, RF.asV, Option.map_some, Option.map_none, Option.bind_some, Option.bind_none, Option.some.injEq, List.getElem?_cons_zero, List.getElem?_cons_succ, List.set_cons_zero, List.set_cons_succ, List.length_cons, List.length_nil, List.cons_append, List.nil_append, List.replicate_succ, List.replicate_zero, Nat.reduceAdd, Nat.reduceSub, Nat.add_zero, Nat.zero_add, Nat.sub_self, RF.seqI, RF.seqD, RF.wipeE, RF.restE, Option.getD_some, RF.ix_lst0, RF.ix_tup0, RF.ixN_0, RF.ix_lst1, RF.ix_tup1, RF.ixN_1, RF.ix_lst2, RF.ix_tup2, RF.ixN_2, RF.ix_lst3, RF.ix_tup3, RF.ixN_3, RF.ix_lst4, RF.ix_tup4, RF.ixN_4, RF.ix_lst5, RF.ix_tup5, RF.ixN_5, RF.ix_lst6, RF.ix_tup6, RF.ixN_6, RF.ix_lst7, RF.ix_tup7, RF.ixN_7, RF.ix_lst8, RF.ix_tup8, RF.ixN_8, RF.add_int, RF.dSub, RF.dMul, RF.dFdiv, RF.dMod, RF.dPow, RF.eq_int, RF.eq_str, RF.ne_int, RF.ne_str, RF.dLt, RF.le_int, RF.gt_int, RF.ge_int, RF.dIs, RF.dLen, RF.dAbs, RF.dInt, RF.dList, RF.dTup, RF.dAll, RF.dAny, RF.dSum, RF.dMax2, RF.dMin2, RF.truthD, RF.isNon, RF.isi_t, RF.isi_s, RF.isi_i, RF.isi_b, RF.isT, RF.isS, RF.isN, RF.isNB, RF.isBl, Bool.not_false, Bool.not_true, dStr, ht, q__law_one_of]
  refine ⟨.inl (by decide), log_lt hi, ?_⟩
  refine oneW h (by simp) (by simp) fun e o t he h ht => ?_
  simp -dsimp -implicitDefEqProofs only [RF.w_seq, RF.w_if, RF.w_asg, RF.w_ret, RF.w_drop, RF.w_nx, RF.w_run, RF.w_C, RF.w_var, RF.w_mv, RF.w_D, RF.w_V, RF.w_ev, RF.w_lv, RF.w_op, RF.w_T, RF.w_B, RF.w_notT, RF.w_andT, RF.w_orT, RF.w_andV, RF.w_orV, RF.w_not, RF.w_neg, RF.w_CB, RF.w_pre0, RF.w_pre, RF.w_isi, RF.w_evs0, RF.w_evs, RF.w_tup, RF.w_lst, RF.w_part0, RF.w_part, RF.w_sl, RF.w_call, RF.w_call0, RF.w_app, RF.w_ext, RF.w_ins, RF.w_pop, RF.w_setI, RF.w_aug, RF.w_asgT, RF.w_for, RF.w_for0, RF.w_for1, RF.w_it, RF.w_enum, RF.w_rng1, RF.w_rng2, RF.w_lc, RF.w_lc0, RF.w_lc1, RF.w_chain, RF.w_lam, RF.w_bnd, RF.oK_some, RF.oK_none, RF.oK_ite, RF.ifK_true, RF.ifK_false, RF.ifK_not, RF.seqK_nx, RF.seqK_bk, RF.seqK_ct, RF.seqK_rt, RF.stO_un, RF.stO_va, RF.stO_ow, RF.retK_rt, RF.retK_nx, RF.back_nil, RF.back_ow, RF.back_va, RF.varK_va, RF.varK_ow, RF.toD_lst, RF.toD_dct, RF.mvK_va, RF.mvK_ow, RF.rvK_va, RF.rvK_ow, RF.rdS_va, RF.rdS_ow, RF.fin_ev, RF.fin_lv, RF.ap2_some, RF.blK_bl, RF.negD, RF.cons2_some, RF.finL_nil, RF.finL_cons, RF.intK_int, RF.mkA_nil, RF.mkA_ev, RF.mkS_ow, RF.mkA_lv, RF.putA_nil, RF.putA_ev, RF.putS_ow, RF.putA_lv, RF.owS_ow, RF.vaS_va, RF.tgN_eq, RF.tgO_un, RF.tgO_va, RF.tgO_ow, RF.tgT_tup, RF.tgL_nil, RF.tgL_cons, RF.forK_nx, RF.forK_ct, RF.forK_bk, RF.forK_rt, RF.asV, Option.map_some, Option.map_none, Option.bind_some, Option.bind_none, Option.some.injEq, List.getElem?_cons_zero, List.getElem?_cons_succ, List.set_cons_zero, List.set_cons_succ, List.length_cons, List.length_nil, List.cons_append, List.nil_append, List.replicate_succ, List.replicate_zero, Nat.reduceAdd, Nat.reduceSub, Nat.add_zero, Nat.zero_add, Nat.sub_self, RF.seqI, RF.seqD, RF.wipeE, RF.restE, Option.getD_some, RF.ix_lst0, RF.ix_tup0, RF.ixN_0, RF.ix_lst1, RF.ix_tup1, RF.ixN_1, RF.ix_lst2, RF.ix_tup2, RF.ixN_2, RF.ix_lst3, RF.ix_tup3, RF.ixN_3, RF.ix_lst4, RF.ix_tup4, RF.ixN_4, RF.ix_lst5, RF.ix_tup5, RF.ixN_5, RF.ix_lst6, RF.ix_tup6, RF.ixN_6, RF.ix_lst7, RF.ix_tup7, RF.ixN_7, RF.ix_lst8, RF.ix_tup8, RF.ixN_8, RF.add_int, RF.dSub, RF.dMul, RF.dFdiv, RF.dMod, RF.dPow, RF.eq_int, RF.eq_str, RF.ne_int, RF.ne_str, RF.dLt, RF.le_int, RF.gt_int, RF.ge_int, RF.dIs, RF.dLen, RF.dAbs, RF.dInt, RF.dList, RF.dTup, RF.dAll, RF.dAny, RF.dSum, RF.dMax2, RF.dMin2, RF.truthD, RF.isNon, ht]
  refine q e o t ?_ h ht
  simp only [List.mem_cons, List.not_mem_nil, or_false] at he
  rcases he with rfl | rfl | rfl | rfl | rfl | rfl | rfl <;> rfl
theorem bent_str {ns : List Int} {o : Ob} {s : Str} {dd : Int} (hi : bD (.str s) = true) (h : DrS ns o) (F : M RV) {Q : RV → RF.Env → Prop} {E : Exc → RF.Env → Prop} (q : ∀ d' o' t, smD d' = true → DrS ns o' → o'.toD = some t → Q (.va d') [.ow true o', .va (.str s), .va (.int dd)]) : wp (runF 5 (b__law_bent F)) [.ow true o, .va (.str s), .va (.int dd)] Q E := by
  obtain ⟨t, ht⟩ := h.toD
  simp only [bD, decide_eq_true_eq] at hi
  have hs : s.length ≤ sizeLine := by rw [show sizeLine = 16777216 from rfl]; omega
  unfold b__law_bent
  simp -dsimp -implicitDefEqProofs only [RF.w_seq, RF.w_if, RF.w_asg, RF.w_ret, RF.w_drop, RF.w_nx, RF.w_run, RF.w_C, RF.w_var, RF.w_mv, RF.w_D, RF.w_V, RF.w_ev, RF.w_lv, RF.w_op, RF.w_T, RF.w_B, RF.w_notT, RF.w_andT, RF.w_orT, RF.w_andV, RF.w_orV, RF.w_not, RF.w_neg, RF.w_CB, RF.w_pre0, RF.w_pre, RF.w_isi, RF.w_evs0, RF.w_evs, RF.w_tup, RF.w_lst, RF.w_part0, RF.w_part, RF.w_sl, RF.w_call, RF.w_call0, RF.w_app, RF.w_ext, RF.w_ins, RF.w_pop, RF.w_setI, RF.w_aug, RF.w_asgT, RF.w_for, RF.w_for0, RF.w_for1, RF.w_it, RF.w_enum, RF.w_rng1, RF.w_rng2, RF.w_lc, RF.w_lc0, RF.w_lc1, RF.w_chain, RF.w_lam, RF.w_bnd, RF.oK_some, RF.oK_none, RF.oK_ite, RF.ifK_true, RF.ifK_false, RF.ifK_not, RF.seqK_nx, RF.seqK_bk, RF.seqK_ct, RF.seqK_rt, RF.stO_un, RF.stO_va, RF.stO_ow, RF.retK_rt, RF.retK_nx, RF.back_nil, RF.back_ow, RF.back_va, RF.varK_va, RF.varK_ow, RF.toD_lst, RF.toD_dct, RF.mvK_va, RF.mvK_ow, RF.rvK_va, RF.rvK_ow, RF.rdS_va, RF.rdS_ow, RF.fin_ev, RF.fin_lv, RF.ap2_some, RF.blK_bl, RF.negD, RF.cons2_some, RF.finL_nil, RF.finL_cons, RF.intK_int, RF.mkA_nil, RF.mkA_ev, RF.mkS_ow, RF.mkA_lv, RF.putA_nil, RF.putA_ev, RF.putS_ow, RF.putA_lv, RF.owS_ow, RF.vaS_va, RF.tgN_eq, RF.tgO_un, RF.tgO_va, RF.tgO_ow, RF.tgT_tup, RF.tgL_nil, RF.tgL_cons, RF.forK_nx, RF.forK_ct, RF.forK_bk, RF.forK_rt, RF.asV, Option.map_some, Option.map_none, Option.bind_some, Option.bind_none, Option.some.injEq, List.getElem?_cons_zero, List.getElem?_cons_succ, List.set_cons_zero, List.set_cons_succ, List.length_cons, List.length_nil, List.cons_append, List.nil_append, List.replicate_succ, List.replicate_zero, Nat.reduceAdd, Nat.reduceSub, Nat.add_zero, Nat.zero_add, Nat.sub_self, RF.seqI, RF.seqD, RF.wipeE, RF.restE, Option.getD_some, RF.ix_lst0, RF.ix_tup0, RF.ixN_0, RF.ix_lst1, RF.ix_tup1, RF.ixN_1, RF.ix_lst2, RF.ix_tup2, RF.ixN_2, RF.ix_lst3, RF.ix_tup3, RF.ixN_3, RF.ix_lst4, RF.ix_tup4, RF.ixN_4, RF.ix_lst5, RF.ix_tup5, RF.ixN_5, RF.ix_lst6, RF.ix_tup6, RF.ixN_6, RF.ix_lst7, RF.ix_tup7, RF.ixN_7, RF.ix_lst8, RF.ix_tup8, RF.ixN_8, RF.add_int, RF.dSub, RF.dMul, RF.dFdiv, RF.dMod, RF.dPow, RF.eq_int, RF.eq_str, RF.ne_int, RF.ne_str, RF.dLt, RF.le_int, RF.gt_int, RF.ge_int, RF.dIs, RF.dLen, RF.dAbs, RF.dInt, RF.dList, RF.dTup, RF.dAll, RF.dAny, RF.dSum, RF.dMax2, RF.dMin2, RF.truthD, RF.isNon, RF.isi_t, RF.isi_s, RF.isi_i, RF.isi_b, RF.isT, RF.isS, RF.isN, RF.isNB, RF.isBl, Bool.not_false, Bool.not_true, RF.dSl, RF.cut_to, RF.cut_ofS, RF.cut_of, dAdd, ht, q__law_one_of]
  refine ⟨?_, hs, hs, ?_⟩
  · rw [show (Str.ofString "x").length = 1 by decide +kernel, show sizeLine = 16777216 from rfl]; omega
  refine oneW h (by simp) (by simp) fun e o t he h ht => ?_
  simp -dsimp -implicitDefEqProofs only [RF.w_seq, RF.w_if, RF.w_asg, RF.w_ret, RF.w_drop, RF.w_nx, RF.w_run, RF.w_C, RF.w_var, RF.w_mv, RF.w_D, RF.w_V, RF.w_ev, RF.w_lv, RF.w_op, RF.w_T, RF.w_B, RF.w_notT, RF.w_andT, RF.w_orT, RF.w_andV, RF.w_orV, RF.w_not, RF.w_neg, RF.w_CB, RF.w_pre0, RF.w_pre, RF.w_isi, RF.w_evs0, RF.w_evs, RF.w_tup, RF.w_lst, RF.w_part0, RF.w_part, RF.w_sl, RF.w_call, RF.w_call0, RF.w_app, RF.w_ext, RF.w_ins, RF.w_pop, RF.w_setI, RF.w_aug, RF.w_asgT, RF.w_for, RF.w_for0, RF.w_for1, RF.w_it, RF.w_enum, RF.w_rng1, RF.w_rng2, RF.w_lc, RF.w_lc0, RF.w_lc1, RF.w_chain, RF.w_lam, RF.w_bnd, RF.oK_some, RF.oK_none, RF.oK_ite, RF.ifK_true, RF.ifK_false, RF.ifK_not, RF.seqK_nx, RF.seqK_bk, RF.seqK_ct, RF.seqK_rt, RF.stO_un, RF.stO_va, RF.stO_ow, RF.retK_rt, RF.retK_nx, RF.back_nil, RF.back_ow, RF.back_va, RF.varK_va, RF.varK_ow, RF.toD_lst, RF.toD_dct, RF.mvK_va, RF.mvK_ow, RF.rvK_va, RF.rvK_ow, RF.rdS_va, RF.rdS_ow, RF.fin_ev, RF.fin_lv, RF.ap2_some, RF.blK_bl, RF.negD, RF.cons2_some, RF.finL_nil, RF.finL_cons, RF.intK_int, RF.mkA_nil, RF.mkA_ev, RF.mkS_ow, RF.mkA_lv, RF.putA_nil, RF.putA_ev, RF.putS_ow, RF.putA_lv, RF.owS_ow, RF.vaS_va, RF.tgN_eq, RF.tgO_un, RF.tgO_va, RF.tgO_ow, RF.tgT_tup, RF.tgL_nil, RF.tgL_cons, RF.forK_nx, RF.forK_ct, RF.forK_bk, RF.forK_rt, RF.asV, Option.map_some, Option.map_none, Option.bind_some, Option.bind_none, Option.some.injEq, List.getElem?_cons_zero, List.getElem?_cons_succ, List.set_cons_zero, List.set_cons_succ, List.length_cons, List.length_nil, List.cons_append, List.nil_append, List.replicate_succ, List.replicate_zero, Nat.reduceAdd, Nat.reduceSub, Nat.add_zero, Nat.zero_add, Nat.sub_self, RF.seqI, RF.seqD, RF.wipeE, RF.restE, Option.getD_some, RF.ix_lst0, RF.ix_tup0, RF.ixN_0, RF.ix_lst1, RF.ix_tup1, RF.ixN_1, RF.ix_lst2, RF.ix_tup2, RF.ixN_2, RF.ix_lst3, RF.ix_tup3, RF.ixN_3, RF.ix_lst4, RF.ix_tup4, RF.ixN_4, RF.ix_lst5, RF.ix_tup5, RF.ixN_5, RF.ix_lst6, RF.ix_tup6, RF.ixN_6, RF.ix_lst7, RF.ix_tup7, RF.ixN_7, RF.ix_lst8, RF.ix_tup8, RF.ixN_8, RF.add_int, RF.dSub, RF.dMul, RF.dFdiv, RF.dMod, RF.dPow, RF.eq_int, RF.eq_str, RF.ne_int, RF.ne_str, RF.dLt, RF.le_int, RF.gt_int, RF.ge_int, RF.dIs, RF.dLen, RF.dAbs, RF.dInt, RF.dList, RF.dTup, RF.dAll, RF.dAny, RF.dSum, RF.dMax2, RF.dMin2, RF.truthD, RF.isNon, ht]
  refine q e o t ?_ h ht
  simp only [List.mem_cons, List.not_mem_nil, or_false] at he
  rcases he with rfl | rfl | rfl | rfl | rfl | rfl | rfl | rfl <;> rfl
theorem cut_mid {α : Type} {xs : List α} {k : Nat} : ∃ l : Nat, cutL xs (some (k : Int)) (some ((k : Int) + 1)) = (xs.drop (min k xs.length)).take l := by
  have e : ((k : Int) + 1) = ((k + 1 : Nat) : Int) := by omega
  unfold cutL
  rw [e, HT.sIx_nat, HT.sIx_nat]
  exact ⟨_, rfl⟩
theorem bent_tail {ns : List Int} {o : Ob} {ds : List D} {dd : Int} (hb : bD (.tup ds) = true) (h : DrS ns o) {Q : Fl → RF.Env → Prop} {E : Exc → RF.Env → Prop} (q : ∀ d' o' t s3 s4, smD d' = true → DrS ns o' → o'.toD = some t → Q (.rt (.va d')) [.ow true o', .va (.tup ds), .va (.int dd), s3, s4]) : wp bentT [.ow true o, .va (.tup ds), .va (.int dd), .un, .un] Q E := by
  obtain ⟨t, ht⟩ := h.toD
  obtain ⟨hl, hm⟩ := b_mem hb
  have hz : ds.length ≤ sizeLine := by rw [show sizeLine = 16777216 from rfl]; omega
  unfold bentT
  simp -dsimp -implicitDefEqProofs only [RF.w_seq, RF.w_if, RF.w_asg, RF.w_ret, RF.w_drop, RF.w_nx, RF.w_run, RF.w_C, RF.w_var, RF.w_mv, RF.w_D, RF.w_V, RF.w_ev, RF.w_lv, RF.w_op, RF.w_T, RF.w_B, RF.w_notT, RF.w_andT, RF.w_orT, RF.w_andV, RF.w_orV, RF.w_not, RF.w_neg, RF.w_CB, RF.w_pre0, RF.w_pre, RF.w_isi, RF.w_evs0, RF.w_evs, RF.w_tup, RF.w_lst, RF.w_part0, RF.w_part, RF.w_sl, RF.w_call, RF.w_call0, RF.w_app, RF.w_ext, RF.w_ins, RF.w_pop, RF.w_setI, RF.w_aug, RF.w_asgT, RF.w_for, RF.w_for0, RF.w_for1, RF.w_it, RF.w_enum, RF.w_rng1, RF.w_rng2, RF.w_lc, RF.w_lc0, RF.w_lc1, RF.w_chain, RF.w_lam, RF.w_bnd, RF.oK_some, RF.oK_none, RF.oK_ite, RF.ifK_true, RF.ifK_false, RF.ifK_not, RF.seqK_nx, RF.seqK_bk, RF.seqK_ct, RF.seqK_rt, RF.stO_un, RF.stO_va, RF.stO_ow, RF.retK_rt, RF.retK_nx, RF.back_nil, RF.back_ow, RF.back_va, RF.varK_va, RF.varK_ow, RF.toD_lst, RF.toD_dct, RF.mvK_va, RF.mvK_ow, RF.rvK_va, RF.rvK_ow, RF.rdS_va, RF.rdS_ow, RF.fin_ev, RF.fin_lv, RF.ap2_some, RF.blK_bl, RF.negD, RF.cons2_some, RF.finL_nil, RF.finL_cons, RF.intK_int, RF.mkA_nil, RF.mkA_ev, RF.mkS_ow, RF.mkA_lv, RF.putA_nil, RF.putA_ev, RF.putS_ow, RF.putA_lv, RF.owS_ow, RF.vaS_va, RF.tgN_eq, RF.tgO_un, RF.tgO_va, RF.tgO_ow, RF.tgT_tup, RF.tgL_nil, RF.tgL_cons, RF.forK_nx, RF.forK_ct, RF.forK_bk, RF.forK_rt, RF.asV, Option.map_some, Option.map_none, Option.bind_some, Option.bind_none, Option.some.injEq, List.getElem?_cons_zero, List.getElem?_cons_succ, List.set_cons_zero, List.set_cons_succ, List.length_cons, List.length_nil, List.cons_append, List.nil_append, List.replicate_succ, List.replicate_zero, Nat.reduceAdd, Nat.reduceSub, Nat.add_zero, Nat.zero_add, Nat.sub_self, RF.seqI, RF.seqD, RF.wipeE, RF.restE, Option.getD_some, RF.ix_lst0, RF.ix_tup0, RF.ixN_0, RF.ix_lst1, RF.ix_tup1, RF.ixN_1, RF.ix_lst2, RF.ix_tup2, RF.ixN_2, RF.ix_lst3, RF.ix_tup3, RF.ixN_3, RF.ix_lst4, RF.ix_tup4, RF.ixN_4, RF.ix_lst5, RF.ix_tup5, RF.ixN_5, RF.ix_lst6, RF.ix_tup6, RF.ixN_6, RF.ix_lst7, RF.ix_tup7, RF.ixN_7, RF.ix_lst8, RF.ix_tup8, RF.ixN_8, RF.add_int, RF.dSub, RF.dMul, RF.dFdiv, RF.dMod, RF.dPow, RF.eq_int, RF.eq_str, RF.ne_int, RF.ne_str, RF.dLt, RF.le_int, RF.gt_int, RF.ge_int, RF.dIs, RF.dLen, RF.dAbs, RF.dInt, RF.dList, RF.dTup, RF.dAll, RF.dAny, RF.dSum, RF.dMax2, RF.dMin2, RF.truthD, RF.isNon, RF.isi_t, RF.isi_s, RF.isi_i, RF.isi_b, RF.isT, RF.isS, RF.isN, RF.isNB, RF.isBl, Bool.not_false, Bool.not_true, ht, q__law_draw]
  refine drawK h (by omega) (by omega) fun k o t hk h ht => ?_
  obtain ⟨l, hcm⟩ := cut_mid (xs := ds) (k := k)
  simp -dsimp -implicitDefEqProofs only [RF.w_seq, RF.w_if, RF.w_asg, RF.w_ret, RF.w_drop, RF.w_nx, RF.w_run, RF.w_C, RF.w_var, RF.w_mv, RF.w_D, RF.w_V, RF.w_ev, RF.w_lv, RF.w_op, RF.w_T, RF.w_B, RF.w_notT, RF.w_andT, RF.w_orT, RF.w_andV, RF.w_orV, RF.w_not, RF.w_neg, RF.w_CB, RF.w_pre0, RF.w_pre, RF.w_isi, RF.w_evs0, RF.w_evs, RF.w_tup, RF.w_lst, RF.w_part0, RF.w_part, RF.w_sl, RF.w_call, RF.w_call0, RF.w_app, RF.w_ext, RF.w_ins, RF.w_pop, RF.w_setI, RF.w_aug, RF.w_asgT, RF.w_for, RF.w_for0, RF.w_for1, RF.w_it, RF.w_enum, RF.w_rng1, RF.w_rng2, RF.w_lc, RF.w_lc0, RF.w_lc1, RF.w_chain, RF.w_lam, RF.w_bnd, RF.oK_some, RF.oK_none, RF.oK_ite, RF.ifK_true, RF.ifK_false, RF.ifK_not, RF.seqK_nx, RF.seqK_bk, RF.seqK_ct, RF.seqK_rt, RF.stO_un, RF.stO_va, RF.stO_ow, RF.retK_rt, RF.retK_nx, RF.back_nil, RF.back_ow, RF.back_va, RF.varK_va, RF.varK_ow, RF.toD_lst, RF.toD_dct, RF.mvK_va, RF.mvK_ow, RF.rvK_va, RF.rvK_ow, RF.rdS_va, RF.rdS_ow, RF.fin_ev, RF.fin_lv, RF.ap2_some, RF.blK_bl, RF.negD, RF.cons2_some, RF.finL_nil, RF.finL_cons, RF.intK_int, RF.mkA_nil, RF.mkA_ev, RF.mkS_ow, RF.mkA_lv, RF.putA_nil, RF.putA_ev, RF.putS_ow, RF.putA_lv, RF.owS_ow, RF.vaS_va, RF.tgN_eq, RF.tgO_un, RF.tgO_va, RF.tgO_ow, RF.tgT_tup, RF.tgL_nil, RF.tgL_cons, RF.forK_nx, RF.forK_ct, RF.forK_bk, RF.forK_rt, RF.asV, Option.map_some, Option.map_none, Option.bind_some, Option.bind_none, Option.some.injEq, List.getElem?_cons_zero, List.getElem?_cons_succ, List.set_cons_zero, List.set_cons_succ, List.length_cons, List.length_nil, List.cons_append, List.nil_append, List.replicate_succ, List.replicate_zero, Nat.reduceAdd, Nat.reduceSub, Nat.add_zero, Nat.zero_add, Nat.sub_self, RF.seqI, RF.seqD, RF.wipeE, RF.restE, Option.getD_some, RF.ix_lst0, RF.ix_tup0, RF.ixN_0, RF.ix_lst1, RF.ix_tup1, RF.ixN_1, RF.ix_lst2, RF.ix_tup2, RF.ixN_2, RF.ix_lst3, RF.ix_tup3, RF.ixN_3, RF.ix_lst4, RF.ix_tup4, RF.ixN_4, RF.ix_lst5, RF.ix_tup5, RF.ixN_5, RF.ix_lst6, RF.ix_tup6, RF.ixN_6, RF.ix_lst7, RF.ix_tup7, RF.ixN_7, RF.ix_lst8, RF.ix_tup8, RF.ixN_8, RF.add_int, RF.dSub, RF.dMul, RF.dFdiv, RF.dMod, RF.dPow, RF.eq_int, RF.eq_str, RF.ne_int, RF.ne_str, RF.dLt, RF.le_int, RF.gt_int, RF.ge_int, RF.dIs, RF.dLen, RF.dAbs, RF.dInt, RF.dList, RF.dTup, RF.dAll, RF.dAny, RF.dSum, RF.dMax2, RF.dMin2, RF.truthD, RF.isNon, RF.isi_t, RF.isi_s, RF.isi_i, RF.isi_b, RF.isT, RF.isS, RF.isN, RF.isNB, RF.isBl, Bool.not_false, Bool.not_true, RF.dSl, RF.cut_to, RF.cut_ofS, RF.cut_of, RF.w_zip, RF.w_rev, RF.dIsB, RF.dStr, RF.dRev, RF.dSorted, dAdd, ht, q__law_one_of, hcm]
  have mid : (List.take l (List.drop (min k ds.length) ds)).length ≤ 100 := by rw [List.length_take, List.length_drop]; omega
  have lt1 : (ds.take k).length ≤ 100 := by rw [List.length_take]; omega
  have ld1 : (ds.drop k).length ≤ 100 := by rw [List.length_drop]; omega
  have ld2 : (ds.drop (k + 1)).length ≤ 100 := by rw [List.length_drop]; omega
  refine ⟨by rw [show sizeLine = 16777216 from rfl]; omega, by rw [show sizeLine = 16777216 from rfl]; omega, by rw [List.length_append, show sizeLine = 16777216 from rfl]; omega, by rw [show sizeLine = 16777216 from rfl]; omega, by rw [show sizeLine = 16777216 from rfl]; omega, by decide, ?_⟩
  refine oneW h (by simp) (by simp) fun e o t he h ht => ?_
  simp -dsimp -implicitDefEqProofs only [RF.w_seq, RF.w_if, RF.w_asg, RF.w_ret, RF.w_drop, RF.w_nx, RF.w_run, RF.w_C, RF.w_var, RF.w_mv, RF.w_D, RF.w_V, RF.w_ev, RF.w_lv, RF.w_op, RF.w_T, RF.w_B, RF.w_notT, RF.w_andT, RF.w_orT, RF.w_andV, RF.w_orV, RF.w_not, RF.w_neg, RF.w_CB, RF.w_pre0, RF.w_pre, RF.w_isi, RF.w_evs0, RF.w_evs, RF.w_tup, RF.w_lst, RF.w_part0, RF.w_part, RF.w_sl, RF.w_call, RF.w_call0, RF.w_app, RF.w_ext, RF.w_ins, RF.w_pop, RF.w_setI, RF.w_aug, RF.w_asgT, RF.w_for, RF.w_for0, RF.w_for1, RF.w_it, RF.w_enum, RF.w_rng1, RF.w_rng2, RF.w_lc, RF.w_lc0, RF.w_lc1, RF.w_chain, RF.w_lam, RF.w_bnd, RF.oK_some, RF.oK_none, RF.oK_ite, RF.ifK_true, RF.ifK_false, RF.ifK_not, RF.seqK_nx, RF.seqK_bk, RF.seqK_ct, RF.seqK_rt, RF.stO_un, RF.stO_va, RF.stO_ow, RF.retK_rt, RF.retK_nx, RF.back_nil, RF.back_ow, RF.back_va, RF.varK_va, RF.varK_ow, RF.toD_lst, RF.toD_dct, RF.mvK_va, RF.mvK_ow, RF.rvK_va, RF.rvK_ow, RF.rdS_va, RF.rdS_ow, RF.fin_ev, RF.fin_lv, RF.ap2_some, RF.blK_bl, RF.negD, RF.cons2_some, RF.finL_nil, RF.finL_cons, RF.intK_int, RF.mkA_nil, RF.mkA_ev, RF.mkS_ow, RF.mkA_lv, RF.putA_nil, RF.putA_ev, RF.putS_ow, RF.putA_lv, RF.owS_ow, RF.vaS_va, RF.tgN_eq, RF.tgO_un, RF.tgO_va, RF.tgO_ow, RF.tgT_tup, RF.tgL_nil, RF.tgL_cons, RF.forK_nx, RF.forK_ct, RF.forK_bk, RF.forK_rt, RF.asV, Option.map_some, Option.map_none, Option.bind_some, Option.bind_none, Option.some.injEq, List.getElem?_cons_zero, List.getElem?_cons_succ, List.set_cons_zero, List.set_cons_succ, List.length_cons, List.length_nil, List.cons_append, List.nil_append, List.replicate_succ, List.replicate_zero, Nat.reduceAdd, Nat.reduceSub, Nat.add_zero, Nat.zero_add, Nat.sub_self, RF.seqI, RF.seqD, RF.wipeE, RF.restE, Option.getD_some, RF.ix_lst0, RF.ix_tup0, RF.ixN_0, RF.ix_lst1, RF.ix_tup1, RF.ixN_1, RF.ix_lst2, RF.ix_tup2, RF.ixN_2, RF.ix_lst3, RF.ix_tup3, RF.ixN_3, RF.ix_lst4, RF.ix_tup4, RF.ixN_4, RF.ix_lst5, RF.ix_tup5, RF.ixN_5, RF.ix_lst6, RF.ix_tup6, RF.ixN_6, RF.ix_lst7, RF.ix_tup7, RF.ixN_7, RF.ix_lst8, RF.ix_tup8, RF.ixN_8, RF.add_int, RF.dSub, RF.dMul, RF.dFdiv, RF.dMod, RF.dPow, RF.eq_int, RF.eq_str, RF.ne_int, RF.ne_str, RF.dLt, RF.le_int, RF.gt_int, RF.ge_int, RF.dIs, RF.dLen, RF.dAbs, RF.dInt, RF.dList, RF.dTup, RF.dAll, RF.dAny, RF.dSum, RF.dMax2, RF.dMin2, RF.truthD, RF.isNon, ht]
  refine q e o t _ _ ?_ h ht
  have hsm : ∀ d ∈ ds, smD d = true := fun d hd => b_sm d (hm d hd)
  simp only [List.mem_cons, List.not_mem_nil, or_false] at he
  rcases he with rfl | rfl | rfl | rfl | rfl | rfl | rfl | rfl | rfl
  · refine sm_tup (by rw [List.length_append]; omega) fun d hd => ?_
    rcases List.mem_append.mp hd with hd | hd
    · exact hsm d (List.mem_of_mem_take hd)
    · exact hsm d (List.mem_of_mem_drop hd)
  · refine sm_tup (by rw [List.length_append, List.length_append]; omega) fun d hd => ?_
    rcases List.mem_append.mp hd with hd | hd
    · rcases List.mem_append.mp hd with hd | hd
      · exact hsm d (List.mem_of_mem_take hd)
      · exact hsm d (List.mem_of_mem_drop (List.mem_of_mem_take hd))
    · exact hsm d (List.mem_of_mem_drop hd)
  · refine sm_tup (by rw [List.length_append, List.length_singleton]; omega) fun d hd => ?_
    rcases List.mem_append.mp hd with hd | hd
    · exact hsm d hd
    · rw [List.mem_singleton.mp hd]; rfl
  · rfl
  · rfl
  · refine sm_tup (by rw [List.length_append]; omega) fun d hd => ?_
    rcases List.mem_append.mp hd with hd | hd
    · exact hsm d (List.mem_of_mem_drop hd)
    · exact hsm d (List.mem_of_mem_take hd)
  · refine sm_tup (by rw [List.length_reverse]; omega) fun d hd => hsm d (List.mem_reverse.mp hd)
  · rfl
  · refine sm_tup (by simp) fun d hd => ?_
    rw [List.mem_singleton.mp hd]
    exact b_sm _ hb
theorem bent_spec {ns : List Int} : ∀ (n : Nat) (d : D) (dd : Int) (o : Ob), bD d = true → dep d < n → DrS ns o → ∀ (Q : RV → RF.Env → Prop) (E : Exc → RF.Env → Prop), (∀ d' o' t, smD d' = true → DrS ns o' → o'.toD = some t → Q (.va d') [.ow true o', .va d, .va (.int dd)]) → wp (F__law_bent n) [.ow true o, .va d, .va (.int dd)] Q E
  | 0, _, _, _, _, hn, _, _, _, _ => absurd hn (by omega)
  | n + 1, .int i, dd, o, hb, _, h, Q, E, q => bent_int hb h _ q
  | n + 1, .str s, dd, o, hb, _, h, Q, E, q => bent_str hb h _ q
  | n + 1, .tup ds, dd, o, hb, hn, h, Q, E, q => by
    obtain ⟨t, ht⟩ := h.toD
    obtain ⟨hl, hm⟩ := b_mem hb
    have tail : ∀ o' : Ob, DrS ns o' → wp bentT [.ow true o', .va (.tup ds), .va (.int dd), .un, .un] (retK [.ow true o, .va (.tup ds), .va (.int dd)] Q) (fun x ρ => E x (backA [.ow true o, .va (.tup ds), .va (.int dd)] ρ)) := fun o h => bent_tail hb h fun d' o' t s3 s4 h1 h2 h3 => by
      rw [retK_rt]
      exact q d' o' t h1 h2 h3
    unfold F__law_bent b__law_bent
    simp -dsimp -implicitDefEqProofs only [RF.w_seq, RF.w_if, RF.w_asg, RF.w_ret, RF.w_drop, RF.w_nx, RF.w_run, RF.w_C, RF.w_var, RF.w_mv, RF.w_D, RF.w_V, RF.w_ev, RF.w_lv, RF.w_op, RF.w_T, RF.w_B, RF.w_notT, RF.w_andT, RF.w_orT, RF.w_andV, RF.w_orV, RF.w_not, RF.w_neg, RF.w_CB, RF.w_pre0, RF.w_pre, RF.w_isi, RF.w_evs0, RF.w_evs, RF.w_tup, RF.w_lst, RF.w_part0, RF.w_part, RF.w_sl, RF.w_call, RF.w_call0, RF.w_app, RF.w_ext, RF.w_ins, RF.w_pop, RF.w_setI, RF.w_aug, RF.w_asgT, RF.w_for, RF.w_for0, RF.w_for1, RF.w_it, RF.w_enum, RF.w_rng1, RF.w_rng2, RF.w_lc, RF.w_lc0, RF.w_lc1, RF.w_chain, RF.w_lam, RF.w_bnd, RF.oK_some, RF.oK_none, RF.oK_ite, RF.ifK_true, RF.ifK_false, RF.ifK_not, RF.seqK_nx, RF.seqK_bk, RF.seqK_ct, RF.seqK_rt, RF.stO_un, RF.stO_va, RF.stO_ow, RF.retK_rt, RF.retK_nx, RF.back_nil, RF.back_ow, RF.back_va, RF.varK_va, RF.varK_ow, RF.toD_lst, RF.toD_dct, RF.mvK_va, RF.mvK_ow, RF.rvK_va, RF.rvK_ow, RF.rdS_va, RF.rdS_ow, RF.fin_ev, RF.fin_lv, RF.ap2_some, RF.blK_bl, RF.negD, RF.cons2_some, RF.finL_nil, RF.finL_cons, RF.intK_int, RF.mkA_nil, RF.mkA_ev, RF.mkS_ow, RF.mkA_lv, RF.putA_nil, RF.putA_ev, RF.putS_ow, RF.putA_lv, RF.owS_ow, RF.vaS_va, RF.tgN_eq, RF.tgO_un, RF.tgO_va, RF.tgO_ow, RF.tgT_tup, RF.tgL_nil, RF.tgL_cons, RF.forK_nx, RF.forK_ct, RF.forK_bk, RF.forK_rt, RF.asV, Option.map_some, Option.map_none, Option.bind_some, Option.bind_none, Option.some.injEq, List.getElem?_cons_zero, List.getElem?_cons_succ, List.set_cons_zero, List.set_cons_succ, List.length_cons, List.length_nil, List.cons_append, List.nil_append, List.replicate_succ, List.replicate_zero, Nat.reduceAdd, Nat.reduceSub, Nat.add_zero, Nat.zero_add, Nat.sub_self, RF.seqI, RF.seqD, RF.wipeE, RF.restE, Option.getD_some, RF.ix_lst0, RF.ix_tup0, RF.ixN_0, RF.ix_lst1, RF.ix_tup1, RF.ixN_1, RF.ix_lst2, RF.ix_tup2, RF.ixN_2, RF.ix_lst3, RF.ix_tup3, RF.ixN_3, RF.ix_lst4, RF.ix_tup4, RF.ixN_4, RF.ix_lst5, RF.ix_tup5, RF.ixN_5, RF.ix_lst6, RF.ix_tup6, RF.ixN_6, RF.ix_lst7, RF.ix_tup7, RF.ixN_7, RF.ix_lst8, RF.ix_tup8, RF.ixN_8, RF.add_int, RF.dSub, RF.dMul, RF.dFdiv, RF.dMod, RF.dPow, RF.eq_int, RF.eq_str, RF.ne_int, RF.ne_str, RF.dLt, RF.le_int, RF.gt_int, RF.ge_int, RF.dIs, RF.dLen, RF.dAbs, RF.dInt, RF.dList, RF.dTup, RF.dAll, RF.dAny, RF.dSum, RF.dMax2, RF.dMin2, RF.truthD, RF.isNon, isi_t, isT, ht, q__law_draw]
    rw [ifK_dec]
    refine ⟨fun c0 => ?_, fun c0 => ?_⟩
    rotate_left
    · rw [ifK_false, w_nx, seqK_nx]
      exact tail o h
    simp -dsimp -implicitDefEqProofs only [RF.w_seq, RF.w_if, RF.w_asg, RF.w_ret, RF.w_drop, RF.w_nx, RF.w_run, RF.w_C, RF.w_var, RF.w_mv, RF.w_D, RF.w_V, RF.w_ev, RF.w_lv, RF.w_op, RF.w_T, RF.w_B, RF.w_notT, RF.w_andT, RF.w_orT, RF.w_andV, RF.w_orV, RF.w_not, RF.w_neg, RF.w_CB, RF.w_pre0, RF.w_pre, RF.w_isi, RF.w_evs0, RF.w_evs, RF.w_tup, RF.w_lst, RF.w_part0, RF.w_part, RF.w_sl, RF.w_call, RF.w_call0, RF.w_app, RF.w_ext, RF.w_ins, RF.w_pop, RF.w_setI, RF.w_aug, RF.w_asgT, RF.w_for, RF.w_for0, RF.w_for1, RF.w_it, RF.w_enum, RF.w_rng1, RF.w_rng2, RF.w_lc, RF.w_lc0, RF.w_lc1, RF.w_chain, RF.w_lam, RF.w_bnd, RF.oK_some, RF.oK_none, RF.oK_ite, RF.ifK_true, RF.ifK_false, RF.ifK_not, RF.seqK_nx, RF.seqK_bk, RF.seqK_ct, RF.seqK_rt, RF.stO_un, RF.stO_va, RF.stO_ow, RF.retK_rt, RF.retK_nx, RF.back_nil, RF.back_ow, RF.back_va, RF.varK_va, RF.varK_ow, RF.toD_lst, RF.toD_dct, RF.mvK_va, RF.mvK_ow, RF.rvK_va, RF.rvK_ow, RF.rdS_va, RF.rdS_ow, RF.fin_ev, RF.fin_lv, RF.ap2_some, RF.blK_bl, RF.negD, RF.cons2_some, RF.finL_nil, RF.finL_cons, RF.intK_int, RF.mkA_nil, RF.mkA_ev, RF.mkS_ow, RF.mkA_lv, RF.putA_nil, RF.putA_ev, RF.putS_ow, RF.putA_lv, RF.owS_ow, RF.vaS_va, RF.tgN_eq, RF.tgO_un, RF.tgO_va, RF.tgO_ow, RF.tgT_tup, RF.tgL_nil, RF.tgL_cons, RF.forK_nx, RF.forK_ct, RF.forK_bk, RF.forK_rt, RF.asV, Option.map_some, Option.map_none, Option.bind_some, Option.bind_none, Option.some.injEq, List.getElem?_cons_zero, List.getElem?_cons_succ, List.set_cons_zero, List.set_cons_succ, List.length_cons, List.length_nil, List.cons_append, List.nil_append, List.replicate_succ, List.replicate_zero, Nat.reduceAdd, Nat.reduceSub, Nat.add_zero, Nat.zero_add, Nat.sub_self, RF.seqI, RF.seqD, RF.wipeE, RF.restE, Option.getD_some, RF.ix_lst0, RF.ix_tup0, RF.ixN_0, RF.ix_lst1, RF.ix_tup1, RF.ixN_1, RF.ix_lst2, RF.ix_tup2, RF.ixN_2, RF.ix_lst3, RF.ix_tup3, RF.ixN_3, RF.ix_lst4, RF.ix_tup4, RF.ixN_4, RF.ix_lst5, RF.ix_tup5, RF.ixN_5, RF.ix_lst6, RF.ix_tup6, RF.ixN_6, RF.ix_lst7, RF.ix_tup7, RF.ixN_7, RF.ix_lst8, RF.ix_tup8, RF.ixN_8, RF.add_int, RF.dSub, RF.dMul, RF.dFdiv, RF.dMod, RF.dPow, RF.eq_int, RF.eq_str, RF.ne_int, RF.ne_str, RF.dLt, RF.le_int, RF.gt_int, RF.ge_int, RF.dIs, RF.dLen, RF.dAbs, RF.dInt, RF.dList, RF.dTup, RF.dAll, RF.dAny, RF.dSum, RF.dMax2, RF.dMin2, RF.truthD, RF.isNon, dLt]
    rw [ifK_dec]
    refine ⟨fun c1 => ?_, fun c1 => ?_⟩
    rotate_left
    · rw [ifK_false, w_nx, seqK_nx]
      exact tail o h
    simp -dsimp -implicitDefEqProofs only [RF.w_seq, RF.w_if, RF.w_asg, RF.w_ret, RF.w_drop, RF.w_nx, RF.w_run, RF.w_C, RF.w_var, RF.w_mv, RF.w_D, RF.w_V, RF.w_ev, RF.w_lv, RF.w_op, RF.w_T, RF.w_B, RF.w_notT, RF.w_andT, RF.w_orT, RF.w_andV, RF.w_orV, RF.w_not, RF.w_neg, RF.w_CB, RF.w_pre0, RF.w_pre, RF.w_isi, RF.w_evs0, RF.w_evs, RF.w_tup, RF.w_lst, RF.w_part0, RF.w_part, RF.w_sl, RF.w_call, RF.w_call0, RF.w_app, RF.w_ext, RF.w_ins, RF.w_pop, RF.w_setI, RF.w_aug, RF.w_asgT, RF.w_for, RF.w_for0, RF.w_for1, RF.w_it, RF.w_enum, RF.w_rng1, RF.w_rng2, RF.w_lc, RF.w_lc0, RF.w_lc1, RF.w_chain, RF.w_lam, RF.w_bnd, RF.oK_some, RF.oK_none, RF.oK_ite, RF.ifK_true, RF.ifK_false, RF.ifK_not, RF.seqK_nx, RF.seqK_bk, RF.seqK_ct, RF.seqK_rt, RF.stO_un, RF.stO_va, RF.stO_ow, RF.retK_rt, RF.retK_nx, RF.back_nil, RF.back_ow, RF.back_va, RF.varK_va, RF.varK_ow, RF.toD_lst, RF.toD_dct, RF.mvK_va, RF.mvK_ow, RF.rvK_va, RF.rvK_ow, RF.rdS_va, RF.rdS_ow, RF.fin_ev, RF.fin_lv, RF.ap2_some, RF.blK_bl, RF.negD, RF.cons2_some, RF.finL_nil, RF.finL_cons, RF.intK_int, RF.mkA_nil, RF.mkA_ev, RF.mkS_ow, RF.mkA_lv, RF.putA_nil, RF.putA_ev, RF.putS_ow, RF.putA_lv, RF.owS_ow, RF.vaS_va, RF.tgN_eq, RF.tgO_un, RF.tgO_va, RF.tgO_ow, RF.tgT_tup, RF.tgL_nil, RF.tgL_cons, RF.forK_nx, RF.forK_ct, RF.forK_bk, RF.forK_rt, RF.asV, Option.map_some, Option.map_none, Option.bind_some, Option.bind_none, Option.some.injEq, List.getElem?_cons_zero, List.getElem?_cons_succ, List.set_cons_zero, List.set_cons_succ, List.length_cons, List.length_nil, List.cons_append, List.nil_append, List.replicate_succ, List.replicate_zero, Nat.reduceAdd, Nat.reduceSub, Nat.add_zero, Nat.zero_add, Nat.sub_self, RF.seqI, RF.seqD, RF.wipeE, RF.restE, Option.getD_some, RF.ix_lst0, RF.ix_tup0, RF.ixN_0, RF.ix_lst1, RF.ix_tup1, RF.ixN_1, RF.ix_lst2, RF.ix_tup2, RF.ixN_2, RF.ix_lst3, RF.ix_tup3, RF.ixN_3, RF.ix_lst4, RF.ix_tup4, RF.ixN_4, RF.ix_lst5, RF.ix_tup5, RF.ixN_5, RF.ix_lst6, RF.ix_tup6, RF.ixN_6, RF.ix_lst7, RF.ix_tup7, RF.ixN_7, RF.ix_lst8, RF.ix_tup8, RF.ixN_8, RF.add_int, RF.dSub, RF.dMul, RF.dFdiv, RF.dMod, RF.dPow, RF.eq_int, RF.eq_str, RF.ne_int, RF.ne_str, RF.dLt, RF.le_int, RF.gt_int, RF.ge_int, RF.dIs, RF.dLen, RF.dAbs, RF.dInt, RF.dList, RF.dTup, RF.dAll, RF.dAny, RF.dSum, RF.dMax2, RF.dMin2, RF.truthD, RF.isNon, ht]
    refine drawK h (by decide) (by decide) fun c o1 t hc h ht => ?_
    simp -dsimp -implicitDefEqProofs only [RF.w_seq, RF.w_if, RF.w_asg, RF.w_ret, RF.w_drop, RF.w_nx, RF.w_run, RF.w_C, RF.w_var, RF.w_mv, RF.w_D, RF.w_V, RF.w_ev, RF.w_lv, RF.w_op, RF.w_T, RF.w_B, RF.w_notT, RF.w_andT, RF.w_orT, RF.w_andV, RF.w_orV, RF.w_not, RF.w_neg, RF.w_CB, RF.w_pre0, RF.w_pre, RF.w_isi, RF.w_evs0, RF.w_evs, RF.w_tup, RF.w_lst, RF.w_part0, RF.w_part, RF.w_sl, RF.w_call, RF.w_call0, RF.w_app, RF.w_ext, RF.w_ins, RF.w_pop, RF.w_setI, RF.w_aug, RF.w_asgT, RF.w_for, RF.w_for0, RF.w_for1, RF.w_it, RF.w_enum, RF.w_rng1, RF.w_rng2, RF.w_lc, RF.w_lc0, RF.w_lc1, RF.w_chain, RF.w_lam, RF.w_bnd, RF.oK_some, RF.oK_none, RF.oK_ite, RF.ifK_true, RF.ifK_false, RF.ifK_not, RF.seqK_nx, RF.seqK_bk, RF.seqK_ct, RF.seqK_rt, RF.stO_un, RF.stO_va, RF.stO_ow, RF.retK_rt, RF.retK_nx, RF.back_nil, RF.back_ow, RF.back_va, RF.varK_va, RF.varK_ow, RF.toD_lst, RF.toD_dct, RF.mvK_va, RF.mvK_ow, RF.rvK_va, RF.rvK_ow, RF.rdS_va, RF.rdS_ow, RF.fin_ev, RF.fin_lv, RF.ap2_some, RF.blK_bl, RF.negD, RF.cons2_some, RF.finL_nil, RF.finL_cons, RF.intK_int, RF.mkA_nil, RF.mkA_ev, RF.mkS_ow, RF.mkA_lv, RF.putA_nil, RF.putA_ev, RF.putS_ow, RF.putA_lv, RF.owS_ow, RF.vaS_va, RF.tgN_eq, RF.tgO_un, RF.tgO_va, RF.tgO_ow, RF.tgT_tup, RF.tgL_nil, RF.tgL_cons, RF.forK_nx, RF.forK_ct, RF.forK_bk, RF.forK_rt, RF.asV, Option.map_some, Option.map_none, Option.bind_some, Option.bind_none, Option.some.injEq, List.getElem?_cons_zero, List.getElem?_cons_succ, List.set_cons_zero, List.set_cons_succ, List.length_cons, List.length_nil, List.cons_append, List.nil_append, List.replicate_succ, List.replicate_zero, Nat.reduceAdd, Nat.reduceSub, Nat.add_zero, Nat.zero_add, Nat.sub_self, RF.seqI, RF.seqD, RF.wipeE, RF.restE, Option.getD_some, RF.ix_lst0, RF.ix_tup0, RF.ixN_0, RF.ix_lst1, RF.ix_tup1, RF.ixN_1, RF.ix_lst2, RF.ix_tup2, RF.ixN_2, RF.ix_lst3, RF.ix_tup3, RF.ixN_3, RF.ix_lst4, RF.ix_tup4, RF.ixN_4, RF.ix_lst5, RF.ix_tup5, RF.ixN_5, RF.ix_lst6, RF.ix_tup6, RF.ixN_6, RF.ix_lst7, RF.ix_tup7, RF.ixN_7, RF.ix_lst8, RF.ix_tup8, RF.ixN_8, RF.add_int, RF.dSub, RF.dMul, RF.dFdiv, RF.dMod, RF.dPow, RF.eq_int, RF.eq_str, RF.ne_int, RF.ne_str, RF.dLt, RF.le_int, RF.gt_int, RF.ge_int, RF.dIs, RF.dLen, RF.dAbs, RF.dInt, RF.dList, RF.dTup, RF.dAll, RF.dAny, RF.dSum, RF.dMax2, RF.dMin2, RF.truthD, RF.isNon]
    rw [ifK_dec]
    refine ⟨fun c2 => ?_, fun c2 => ?_⟩
    rotate_left
    · rw [w_nx, seqK_nx]
      exact tail o1 h
    simp -dsimp -implicitDefEqProofs only [RF.w_seq, RF.w_if, RF.w_asg, RF.w_ret, RF.w_drop, RF.w_nx, RF.w_run, RF.w_C, RF.w_var, RF.w_mv, RF.w_D, RF.w_V, RF.w_ev, RF.w_lv, RF.w_op, RF.w_T, RF.w_B, RF.w_notT, RF.w_andT, RF.w_orT, RF.w_andV, RF.w_orV, RF.w_not, RF.w_neg, RF.w_CB, RF.w_pre0, RF.w_pre, RF.w_isi, RF.w_evs0, RF.w_evs, RF.w_tup, RF.w_lst, RF.w_part0, RF.w_part, RF.w_sl, RF.w_call, RF.w_call0, RF.w_app, RF.w_ext, RF.w_ins, RF.w_pop, RF.w_setI, RF.w_aug, RF.w_asgT, RF.w_for, RF.w_for0, RF.w_for1, RF.w_it, RF.w_enum, RF.w_rng1, RF.w_rng2, RF.w_lc, RF.w_lc0, RF.w_lc1, RF.w_chain, RF.w_lam, RF.w_bnd, RF.oK_some, RF.oK_none, RF.oK_ite, RF.ifK_true, RF.ifK_false, RF.ifK_not, RF.seqK_nx, RF.seqK_bk, RF.seqK_ct, RF.seqK_rt, RF.stO_un, RF.stO_va, RF.stO_ow, RF.retK_rt, RF.retK_nx, RF.back_nil, RF.back_ow, RF.back_va, RF.varK_va, RF.varK_ow, RF.toD_lst, RF.toD_dct, RF.mvK_va, RF.mvK_ow, RF.rvK_va, RF.rvK_ow, RF.rdS_va, RF.rdS_ow, RF.fin_ev, RF.fin_lv, RF.ap2_some, RF.blK_bl, RF.negD, RF.cons2_some, RF.finL_nil, RF.finL_cons, RF.intK_int, RF.mkA_nil, RF.mkA_ev, RF.mkS_ow, RF.mkA_lv, RF.putA_nil, RF.putA_ev, RF.putS_ow, RF.putA_lv, RF.owS_ow, RF.vaS_va, RF.tgN_eq, RF.tgO_un, RF.tgO_va, RF.tgO_ow, RF.tgT_tup, RF.tgL_nil, RF.tgL_cons, RF.forK_nx, RF.forK_ct, RF.forK_bk, RF.forK_rt, RF.asV, Option.map_some, Option.map_none, Option.bind_some, Option.bind_none, Option.some.injEq, List.getElem?_cons_zero, List.getElem?_cons_succ, List.set_cons_zero, List.set_cons_succ, List.length_cons, List.length_nil, List.cons_append, List.nil_append, List.replicate_succ, List.replicate_zero, Nat.reduceAdd, Nat.reduceSub, Nat.add_zero, Nat.zero_add, Nat.sub_self, RF.seqI, RF.seqD, RF.wipeE, RF.restE, Option.getD_some, RF.ix_lst0, RF.ix_tup0, RF.ixN_0, RF.ix_lst1, RF.ix_tup1, RF.ixN_1, RF.ix_lst2, RF.ix_tup2, RF.ixN_2, RF.ix_lst3, RF.ix_tup3, RF.ixN_3, RF.ix_lst4, RF.ix_tup4, RF.ixN_4, RF.ix_lst5, RF.ix_tup5, RF.ixN_5, RF.ix_lst6, RF.ix_tup6, RF.ixN_6, RF.ix_lst7, RF.ix_tup7, RF.ixN_7, RF.ix_lst8, RF.ix_tup8, RF.ixN_8, RF.add_int, RF.dSub, RF.dMul, RF.dFdiv, RF.dMod, RF.dPow, RF.eq_int, RF.eq_str, RF.ne_int, RF.ne_str, RF.dLt, RF.le_int, RF.gt_int, RF.ge_int, RF.dIs, RF.dLen, RF.dAbs, RF.dInt, RF.dList, RF.dTup, RF.dAll, RF.dAny, RF.dSum, RF.dMax2, RF.dMin2, RF.truthD, RF.isNon, ht]
    refine drawK h (by omega) (by omega) fun k o2 t hk h ht => ?_
    have hk' : k < ds.length := by omega
    simp -dsimp -implicitDefEqProofs only [RF.w_seq, RF.w_if, RF.w_asg, RF.w_ret, RF.w_drop, RF.w_nx, RF.w_run, RF.w_C, RF.w_var, RF.w_mv, RF.w_D, RF.w_V, RF.w_ev, RF.w_lv, RF.w_op, RF.w_T, RF.w_B, RF.w_notT, RF.w_andT, RF.w_orT, RF.w_andV, RF.w_orV, RF.w_not, RF.w_neg, RF.w_CB, RF.w_pre0, RF.w_pre, RF.w_isi, RF.w_evs0, RF.w_evs, RF.w_tup, RF.w_lst, RF.w_part0, RF.w_part, RF.w_sl, RF.w_call, RF.w_call0, RF.w_app, RF.w_ext, RF.w_ins, RF.w_pop, RF.w_setI, RF.w_aug, RF.w_asgT, RF.w_for, RF.w_for0, RF.w_for1, RF.w_it, RF.w_enum, RF.w_rng1, RF.w_rng2, RF.w_lc, RF.w_lc0, RF.w_lc1, RF.w_chain, RF.w_lam, RF.w_bnd, RF.oK_some, RF.oK_none, RF.oK_ite, RF.ifK_true, RF.ifK_false, RF.ifK_not, RF.seqK_nx, RF.seqK_bk, RF.seqK_ct, RF.seqK_rt, RF.stO_un, RF.stO_va, RF.stO_ow, RF.retK_rt, RF.retK_nx, RF.back_nil, RF.back_ow, RF.back_va, RF.varK_va, RF.varK_ow, RF.toD_lst, RF.toD_dct, RF.mvK_va, RF.mvK_ow, RF.rvK_va, RF.rvK_ow, RF.rdS_va, RF.rdS_ow, RF.fin_ev, RF.fin_lv, RF.ap2_some, RF.blK_bl, RF.negD, RF.cons2_some, RF.finL_nil, RF.finL_cons, RF.intK_int, RF.mkA_nil, RF.mkA_ev, RF.mkS_ow, RF.mkA_lv, RF.putA_nil, RF.putA_ev, RF.putS_ow, RF.putA_lv, RF.owS_ow, RF.vaS_va, RF.tgN_eq, RF.tgO_un, RF.tgO_va, RF.tgO_ow, RF.tgT_tup, RF.tgL_nil, RF.tgL_cons, RF.forK_nx, RF.forK_ct, RF.forK_bk, RF.forK_rt, RF.asV, Option.map_some, Option.map_none, Option.bind_some, Option.bind_none, Option.some.injEq, List.getElem?_cons_zero, List.getElem?_cons_succ, List.set_cons_zero, List.set_cons_succ, List.length_cons, List.length_nil, List.cons_append, List.nil_append, List.replicate_succ, List.replicate_zero, Nat.reduceAdd, Nat.reduceSub, Nat.add_zero, Nat.zero_add, Nat.sub_self, RF.seqI, RF.seqD, RF.wipeE, RF.restE, Option.getD_some, RF.ix_lst0, RF.ix_tup0, RF.ixN_0, RF.ix_lst1, RF.ix_tup1, RF.ixN_1, RF.ix_lst2, RF.ix_tup2, RF.ixN_2, RF.ix_lst3, RF.ix_tup3, RF.ixN_3, RF.ix_lst4, RF.ix_tup4, RF.ixN_4, RF.ix_lst5, RF.ix_tup5, RF.ixN_5, RF.ix_lst6, RF.ix_tup6, RF.ixN_6, RF.ix_lst7, RF.ix_tup7, RF.ixN_7, RF.ix_lst8, RF.ix_tup8, RF.ixN_8, RF.add_int, RF.dSub, RF.dMul, RF.dFdiv, RF.dMod, RF.dPow, RF.eq_int, RF.eq_str, RF.ne_int, RF.ne_str, RF.dLt, RF.le_int, RF.gt_int, RF.ge_int, RF.dIs, RF.dLen, RF.dAbs, RF.dInt, RF.dList, RF.dTup, RF.dAll, RF.dAny, RF.dSum, RF.dMax2, RF.dMin2, RF.truthD, RF.isNon, RF.dSl, RF.cut_to, RF.cut_ofS, RF.cut_of, ht, dIx, atI_nat hk']
    have hbk := hm _ (List.getElem_mem hk')
    refine bent_spec n ds[k] (dd + 1) o2 hbk ?_ h _ _ fun d' o3 t hs h ht => ?_
    · have := dep_mem (List.getElem_mem hk')
      rw [dep] at hn
      omega
    have lt1 : (ds.take k).length ≤ 100 := by rw [List.length_take]; omega
    have ld1 : (ds.drop (k + 1)).length ≤ 100 := by rw [List.length_drop]; omega
    simp -dsimp -implicitDefEqProofs only [RF.w_seq, RF.w_if, RF.w_asg, RF.w_ret, RF.w_drop, RF.w_nx, RF.w_run, RF.w_C, RF.w_var, RF.w_mv, RF.w_D, RF.w_V, RF.w_ev, RF.w_lv, RF.w_op, RF.w_T, RF.w_B, RF.w_notT, RF.w_andT, RF.w_orT, RF.w_andV, RF.w_orV, RF.w_not, RF.w_neg, RF.w_CB, RF.w_pre0, RF.w_pre, RF.w_isi, RF.w_evs0, RF.w_evs, RF.w_tup, RF.w_lst, RF.w_part0, RF.w_part, RF.w_sl, RF.w_call, RF.w_call0, RF.w_app, RF.w_ext, RF.w_ins, RF.w_pop, RF.w_setI, RF.w_aug, RF.w_asgT, RF.w_for, RF.w_for0, RF.w_for1, RF.w_it, RF.w_enum, RF.w_rng1, RF.w_rng2, RF.w_lc, RF.w_lc0, RF.w_lc1, RF.w_chain, RF.w_lam, RF.w_bnd, RF.oK_some, RF.oK_none, RF.oK_ite, RF.ifK_true, RF.ifK_false, RF.ifK_not, RF.seqK_nx, RF.seqK_bk, RF.seqK_ct, RF.seqK_rt, RF.stO_un, RF.stO_va, RF.stO_ow, RF.retK_rt, RF.retK_nx, RF.back_nil, RF.back_ow, RF.back_va, RF.varK_va, RF.varK_ow, RF.toD_lst, RF.toD_dct, RF.mvK_va, RF.mvK_ow, RF.rvK_va, RF.rvK_ow, RF.rdS_va, RF.rdS_ow, RF.fin_ev, RF.fin_lv, RF.ap2_some, RF.blK_bl, RF.negD, RF.cons2_some, RF.finL_nil, RF.finL_cons, RF.intK_int, RF.mkA_nil, RF.mkA_ev, RF.mkS_ow, RF.mkA_lv, RF.putA_nil, RF.putA_ev, RF.putS_ow, RF.putA_lv, RF.owS_ow, RF.vaS_va, RF.tgN_eq, RF.tgO_un, RF.tgO_va, RF.tgO_ow, RF.tgT_tup, RF.tgL_nil, RF.tgL_cons, RF.forK_nx, RF.forK_ct, RF.forK_bk, RF.forK_rt, RF.asV, Option.map_some, Option.map_none, Option.bind_some, Option.bind_none, Option.some.injEq, List.getElem?_cons_zero, List.getElem?_cons_succ, List.set_cons_zero, List.set_cons_succ, List.length_cons, List.length_nil, List.cons_append, List.nil_append, List.replicate_succ, List.replicate_zero, Nat.reduceAdd, Nat.reduceSub, Nat.add_zero, Nat.zero_add, Nat.sub_self, RF.seqI, RF.seqD, RF.wipeE, RF.restE, Option.getD_some, RF.ix_lst0, RF.ix_tup0, RF.ixN_0, RF.ix_lst1, RF.ix_tup1, RF.ixN_1, RF.ix_lst2, RF.ix_tup2, RF.ixN_2, RF.ix_lst3, RF.ix_tup3, RF.ixN_3, RF.ix_lst4, RF.ix_tup4, RF.ixN_4, RF.ix_lst5, RF.ix_tup5, RF.ixN_5, RF.ix_lst6, RF.ix_tup6, RF.ixN_6, RF.ix_lst7, RF.ix_tup7, RF.ixN_7, RF.ix_lst8, RF.ix_tup8, RF.ixN_8, RF.add_int, RF.dSub, RF.dMul, RF.dFdiv, RF.dMod, RF.dPow, RF.eq_int, RF.eq_str, RF.ne_int, RF.ne_str, RF.dLt, RF.le_int, RF.gt_int, RF.ge_int, RF.dIs, RF.dLen, RF.dAbs, RF.dInt, RF.dList, RF.dTup, RF.dAll, RF.dAny, RF.dSum, RF.dMax2, RF.dMin2, RF.truthD, RF.isNon, RF.dSl, RF.cut_to, RF.cut_ofS, RF.cut_of, ht, dAdd]
    refine ⟨by rw [show sizeLine = 16777216 from rfl]; omega, by rw [List.length_append, show sizeLine = 16777216 from rfl, List.length_singleton]; omega, ?_⟩
    refine q _ o3 t ?_ h ht
    refine sm_tup (by rw [List.length_append, List.length_append, List.length_singleton]; omega) fun d hd => ?_
    rcases List.mem_append.mp hd with hd | hd
    · rcases List.mem_append.mp hd with hd | hd
      · exact b_sm d (hm d (List.mem_of_mem_take hd))
      · rw [List.mem_singleton.mp hd]; exact hs
    · exact b_sm d (hm d (List.mem_of_mem_drop hd))
  | _ + 1, .non, _, _, hb, _, _, _, _, _ => by simp [bD] at hb
  | _ + 1, .bl _, _, _, hb, _, _, _, _, _ => by simp [bD] at hb
  | _ + 1, .lst _, _, _, hb, _, _, _, _, _ => by simp [bD] at hb
  | _ + 1, .rls _, _, _, hb, _, _, _, _, _ => by simp [bD] at hb
  | _ + 1, .dct _ _, _, _, hb, _, _, _, _, _ => by simp [bD] at hb
end K00

namespace K00
open PySem PySem.Spec PyProof.Rows L2 RF
theorem tin_dep {d : D} (h : tin d = true) : dep d ≤ 1 := by
  cases d with
  | tup ds =>
    simp only [tin, List.all_eq_true] at h
    rw [dep]
    have : depL ds = 0 := by
      induction ds with
      | nil => rfl
      | cons x ds ih =>
        have hx := h x List.mem_cons_self
        rw [depL, ih fun d hd => h d (List.mem_cons_of_mem _ hd)]
        cases x <;> first | rfl | cases hx
    omega
  | _ => cases h
theorem depL_le {ds : List D} {n : Nat} (h : ∀ d ∈ ds, dep d ≤ n) : depL ds ≤ n := by
  induction ds with
  | nil => exact Nat.zero_le _
  | cons x ds ih =>
    rw [depL]
    have := h x List.mem_cons_self
    have := ih fun d hd => h d (List.mem_cons_of_mem _ hd)
    omega
theorem vals_dep : ∀ {is : List (Bool × Str)} {bs : List D}, vals is bs = true → depL bs ≤ 1
  | [], [], _ => by rw [depL]; omega
  | [], _ :: _, h => by simp [vals] at h
  | _ :: _, [], h => by simp [vals] at h
  | i :: is, b :: bs, h => by
    simp only [vals, Bool.and_eq_true] at h
    rw [depL]
    have := vals_dep h.2
    have hb : dep b ≤ 1 := by
      have h1 := h.1
      unfold vOk at h1
      split at h1
      · exact tin_dep h1
      · have h0 : dep b = 0 := by cases b <;> first | rfl | cases h1
        omega
    omega
def TOk (ps : List P) (d : D) : Prop := ∃ s bs cs es, d = .tup [.str s, .tup bs, .tup cs, .tup es] ∧ bD d = true ∧ good ps d = true ∧ dep d < 20
theorem find_nd : ∀ {ps : List P} {p : P}, (ps.map P.name).Nodup → p ∈ ps → ps.find? (fun q => q.name == p.name) = some p
  | [], _, _, h => by cases h
  | x :: ps, p, hn, h => by
    rw [List.map_cons, List.nodup_cons] at hn
    rw [List.find?_cons]
    rcases List.mem_cons.mp h with rfl | h
    · simp
    · have : (x.name == p.name) = false := by
        rw [beq_eq_false_iff_ne]
        intro e
        exact hn.1 (e ▸ List.mem_map_of_mem h)
      rw [this]
      exact find_nd hn.2 h
theorem tok {ps : List P} {p : P} {b c e : D} (hn : (ps.map P.name).Nodup) (hp : p ∈ ps) (hb : bD (.tup [.str p.name, b, c, e]) = true) (hg : good1 p b c e = true) : TOk ps (.tup [.str p.name, b, c, e]) := by
  have hf := find_nd hn hp
  have hg' := hg
  simp only [good1, Bool.and_eq_true] at hg
  obtain ⟨⟨h1, h2, _⟩, h3⟩ := hg
  have hgood : good ps (.tup [.str p.name, b, c, e]) = true := by simp only [good, hf]; exact hg'
  cases b with
  | tup bs =>
    cases c with
    | tup cs =>
      cases e with
      | tup es =>
        refine ⟨_, bs, cs, es, rfl, hb, hgood, ?_⟩
        have d1 := vals_dep h1
        have d2 := tin_dep h2
        have d3 : depL es ≤ 1 := depL_le fun d hd => by
          simp only [rowsOk, Bool.and_eq_true, List.all_eq_true] at h3
          exact tin_dep (h3.2 d hd)
        rw [dep] at d2
        simp only [dep, depL]
        omega
      | _ => cases h3
    | _ => cases h2
  | _ => cases h1
theorem isB_t {a b : Bool} : dIsB true (.bl a) (.bl b) = some (.va (.bl (!(a == b)))) := rfl
theorem isB_f {a b : Bool} : dIsB false (.bl a) (.bl b) = some (.va (.bl (a == b))) := rfl
section
variable {a b c e : D} {bs : List D}
theorem cl3 : cutL [a, b, c, e] none (some 3) = [a, b, c] := rfl
theorem cl2 : cutL [a, b, c, e] none (some 2) = [a, b] := rfl
theorem cl1 : cutL [a, b, c, e] none (some 1) = [a] := rfl
theorem cr1 : cutL [a, b, c, e] (some 1) none = [b, c, e] := rfl
theorem cr2 : cutL [a, b, c, e] (some 2) none = [c, e] := rfl
theorem crb : cutL bs (some 1) none = bs.drop 1 := cut_of (k := 1)
end
theorem ix4 {a b c e : D} {k : Nat} (h : (k : Int) < 4) (hs : smD a = true ∧ smD b = true ∧ smD c = true ∧ smD e = true) : ∃ x, dIx (.tup [a, b, c, e]) (.int (k : Int)) = some (.va x) ∧ smD x = true := by
  have hk : k < [a, b, c, e].length := by simp; omega
  refine ⟨_, ix_tN hk, ?_⟩
  have := List.getElem_mem hk
  simp only [List.mem_cons, List.not_mem_nil, or_false] at this
  rcases this with h | h | h | h <;> rw [h]
  · exact hs.1
  · exact hs.2.1
  · exact hs.2.2.1
  · exact hs.2.2.2
theorem says_eq (a : Bool) : F__law_says [.va (.bl a), .va (.bl a)] = .ok (.va (.bl true)) [.va (.bl a), .va (.bl a)] := by
  cases a <;> rfl
theorem odd_sm {s : Str} {bs cs es : List D} {x d : D} {k : Nat} (h : ∀ d ∈ [D.str s, .tup bs, .tup cs, .tup es], smD d = true) (hx : smD x = true) (lb : bs.length ≤ 900) (lc : cs.length ≤ 900) (le : es.length ≤ 900)
    (he : d ∈ [D.tup (List.take k [D.str s, .tup bs, .tup cs, .tup es] ++ [x] ++ List.drop (k + 1) [D.str s, .tup bs, .tup cs, .tup es]), .tup [.str s, .tup bs, .tup cs], .tup [.str s, .tup bs, .tup cs, .tup es, .tup []], .tup (List.drop 1 [D.str s, .tup bs, .tup cs, .tup es]), .tup [.tup [.str s, .tup bs, .tup cs, .tup es]], .tup [D.str s, .tup bs, .tup cs, .tup es].reverse, .tup [.str s, .tup bs, .tup (cs ++ [.int 0]), .tup es], .tup [.str s, .tup bs, .tup cs, .tup (es ++ [.tup []])], .tup (.str (Str.ofString "zz_z") :: List.drop 1 [D.str s, .tup bs, .tup cs, .tup es]), .tup [.str s, .tup (bs ++ [.int 0]), .tup cs, .tup es], .tup [.str s, .tup (List.drop 1 bs), .tup cs, .tup es], .str s, .int 7, .tup []]) : smD d = true := by
  have hb := h (.tup bs) (by simp)
  have hc := h (.tup cs) (by simp)
  have he2 := h (.tup es) (by simp)
  have snoc : ∀ {xs : List D} {y : D}, smD (.tup xs) = true → xs.length ≤ 900 → smD y = true → smD (.tup (xs ++ [y])) = true := fun h1 h2 h3 => sm_tup (by rw [List.length_append, List.length_singleton]; omega) fun d hd => by
    rcases List.mem_append.mp hd with hd | hd
    · exact sm_mem h1 d hd
    · rw [List.mem_singleton.mp hd]; exact h3
  have lit : ∀ {a b c e : D}, smD a = true → smD b = true → smD c = true → smD e = true → smD (.tup [a, b, c, e]) = true := fun h1 h2 h3 h4 => by simp [smD, smL, h1, h2, h3, h4]
  have h0 : smD (.str s) = true := rfl
  simp only [List.mem_cons, List.not_mem_nil, or_false] at he
  rcases he with rfl | rfl | rfl | rfl | rfl | rfl | rfl | rfl | rfl | rfl | rfl | rfl | rfl | rfl
  · refine sm_tup (by simp only [List.length_append, List.length_take, List.length_drop, List.length_cons, List.length_nil]; omega) fun d hd => ?_
    rcases List.mem_append.mp hd with hd | hd
    · rcases List.mem_append.mp hd with hd | hd
      · exact h d (List.mem_of_mem_take hd)
      · rw [List.mem_singleton.mp hd]; exact hx
    · exact h d (List.mem_of_mem_drop hd)
  · simp [smD, smL] at hb hc ⊢; exact ⟨hb, hc⟩
  · simp [smD, smL] at hb hc he2 ⊢; exact ⟨hb, hc, he2⟩
  · simp [smD, smL] at hb hc he2 ⊢; exact ⟨hb, hc, he2⟩
  · simp [smD, smL] at hb hc he2 ⊢; exact ⟨hb, hc, he2⟩
  · simp [smD, smL] at hb hc he2 ⊢; exact ⟨he2, hc, hb⟩
  · exact lit h0 hb (snoc hc lc rfl) he2
  · exact lit h0 hb hc (snoc he2 le rfl)
  · simp [smD, smL] at hb hc he2 ⊢; exact ⟨hb, hc, he2⟩
  · exact lit h0 (snoc hb lb rfl) hc he2
  · exact lit h0 (sm_tup (by rw [List.length_drop]; omega) fun d hd => sm_mem hb d (List.mem_of_mem_drop hd)) hc he2
  · rfl
  · rfl
  · rfl
theorem law_true (ns : List Int) (hn : ns.length ≤ 63) : ∃ ρ, F_law [.va (.rls (ns.map D.int))] = .ok (.va (.bl true)) ρ := by
  suffices h : wp F_law [.va (.rls (ns.map D.int))] (fun rv _ => rv = .va (.bl true)) fun _ _ => False by
    obtain ⟨a, ρ, e, rfl⟩ := wp_ex h
    exact ⟨ρ, e⟩
  unfold F_law b_law
  simp -dsimp -implicitDefEqProofs only [RF.w_seq, RF.w_if, RF.w_asg, RF.w_ret, RF.w_drop, RF.w_nx, RF.w_run, RF.w_C, RF.w_var, RF.w_mv, RF.w_D, RF.w_V, RF.w_ev, RF.w_lv, RF.w_op, RF.w_T, RF.w_B, RF.w_notT, RF.w_andT, RF.w_orT, RF.w_andV, RF.w_orV, RF.w_not, RF.w_neg, RF.w_CB, RF.w_pre0, RF.w_pre, RF.w_isi, RF.w_evs0, RF.w_evs, RF.w_tup, RF.w_lst, RF.w_part0, RF.w_part, RF.w_sl, RF.w_call, RF.w_call0, RF.w_app, RF.w_ext, RF.w_ins, RF.w_pop, RF.w_setI, RF.w_aug, RF.w_asgT, RF.w_for, RF.w_for0, RF.w_for1, RF.w_it, RF.w_enum, RF.w_rng1, RF.w_rng2, RF.w_lc, RF.w_lc0, RF.w_lc1, RF.w_chain, RF.w_lam, RF.w_bnd, RF.oK_some, RF.oK_none, RF.oK_ite, RF.ifK_true, RF.ifK_false, RF.ifK_not, RF.seqK_nx, RF.seqK_bk, RF.seqK_ct, RF.seqK_rt, RF.stO_un, RF.stO_va, RF.stO_ow, RF.retK_rt, RF.retK_nx, RF.back_nil, RF.back_ow, RF.back_va, RF.varK_va, RF.varK_ow, RF.toD_lst, RF.toD_dct, RF.mvK_va, RF.mvK_ow, RF.rvK_va, RF.rvK_ow, RF.rdS_va, RF.rdS_ow, RF.fin_ev, RF.fin_lv, RF.ap2_some, RF.blK_bl, RF.negD, RF.cons2_some, RF.finL_nil, RF.finL_cons, RF.intK_int, RF.mkA_nil, RF.mkA_ev, RF.mkS_ow, RF.mkA_lv, RF.putA_nil, RF.putA_ev, RF.putS_ow, RF.putA_lv, RF.owS_ow, RF.vaS_va, RF.tgN_eq, RF.tgO_un, RF.tgO_va, RF.tgO_ow, RF.tgT_tup, RF.tgL_nil, RF.tgL_cons, RF.forK_nx, RF.forK_ct, RF.forK_bk, RF.forK_rt, RF.asV, Option.map_some, Option.map_none, Option.bind_some, Option.bind_none, Option.some.injEq, List.getElem?_cons_zero, List.getElem?_cons_succ, List.set_cons_zero, List.set_cons_succ, List.length_cons, List.length_nil, List.cons_append, List.nil_append, List.replicate_succ, List.replicate_zero, Nat.reduceAdd, Nat.reduceSub, Nat.add_zero, Nat.zero_add, Nat.sub_self, RF.seqI, RF.seqD, RF.wipeE, RF.restE, Option.getD_some, RF.ix_lst0, RF.ix_tup0, RF.ixN_0, RF.ix_lst1, RF.ix_tup1, RF.ixN_1, RF.ix_lst2, RF.ix_tup2, RF.ixN_2, RF.ix_lst3, RF.ix_tup3, RF.ixN_3, RF.ix_lst4, RF.ix_tup4, RF.ixN_4, RF.ix_lst5, RF.ix_tup5, RF.ixN_5, RF.ix_lst6, RF.ix_tup6, RF.ixN_6, RF.ix_lst7, RF.ix_tup7, RF.ixN_7, RF.ix_lst8, RF.ix_tup8, RF.ixN_8, RF.add_int, RF.dSub, RF.dMul, RF.dFdiv, RF.dMod, RF.dPow, RF.eq_int, RF.eq_str, RF.ne_int, RF.ne_str, RF.dLt, RF.le_int, RF.gt_int, RF.ge_int, RF.dIs, RF.dLen, RF.dAbs, RF.dInt, RF.dList, RF.dTup, RF.dAll, RF.dAny, RF.dSum, RF.dMax2, RF.dMin2, RF.truthD, RF.isNon, q__law_start]
  refine startW fun o t h ht => ?_
  simp -dsimp -implicitDefEqProofs only [RF.w_seq, RF.w_if, RF.w_asg, RF.w_ret, RF.w_drop, RF.w_nx, RF.w_run, RF.w_C, RF.w_var, RF.w_mv, RF.w_D, RF.w_V, RF.w_ev, RF.w_lv, RF.w_op, RF.w_T, RF.w_B, RF.w_notT, RF.w_andT, RF.w_orT, RF.w_andV, RF.w_orV, RF.w_not, RF.w_neg, RF.w_CB, RF.w_pre0, RF.w_pre, RF.w_isi, RF.w_evs0, RF.w_evs, RF.w_tup, RF.w_lst, RF.w_part0, RF.w_part, RF.w_sl, RF.w_call, RF.w_call0, RF.w_app, RF.w_ext, RF.w_ins, RF.w_pop, RF.w_setI, RF.w_aug, RF.w_asgT, RF.w_for, RF.w_for0, RF.w_for1, RF.w_it, RF.w_enum, RF.w_rng1, RF.w_rng2, RF.w_lc, RF.w_lc0, RF.w_lc1, RF.w_chain, RF.w_lam, RF.w_bnd, RF.oK_some, RF.oK_none, RF.oK_ite, RF.ifK_true, RF.ifK_false, RF.ifK_not, RF.seqK_nx, RF.seqK_bk, RF.seqK_ct, RF.seqK_rt, RF.stO_un, RF.stO_va, RF.stO_ow, RF.retK_rt, RF.retK_nx, RF.back_nil, RF.back_ow, RF.back_va, RF.varK_va, RF.varK_ow, RF.toD_lst, RF.toD_dct, RF.mvK_va, RF.mvK_ow, RF.rvK_va, RF.rvK_ow, RF.rdS_va, RF.rdS_ow, RF.fin_ev, RF.fin_lv, RF.ap2_some, RF.blK_bl, RF.negD, RF.cons2_some, RF.finL_nil, RF.finL_cons, RF.intK_int, RF.mkA_nil, RF.mkA_ev, RF.mkS_ow, RF.mkA_lv, RF.putA_nil, RF.putA_ev, RF.putS_ow, RF.putA_lv, RF.owS_ow, RF.vaS_va, RF.tgN_eq, RF.tgO_un, RF.tgO_va, RF.tgO_ow, RF.tgT_tup, RF.tgL_nil, RF.tgL_cons, RF.forK_nx, RF.forK_ct, RF.forK_bk, RF.forK_rt, RF.asV, Option.map_some, Option.map_none, Option.bind_some, Option.bind_none, Option.some.injEq, List.getElem?_cons_zero, List.getElem?_cons_succ, List.set_cons_zero, List.set_cons_succ, List.length_cons, List.length_nil, List.cons_append, List.nil_append, List.replicate_succ, List.replicate_zero, Nat.reduceAdd, Nat.reduceSub, Nat.add_zero, Nat.zero_add, Nat.sub_self, RF.seqI, RF.seqD, RF.wipeE, RF.restE, Option.getD_some, RF.ix_lst0, RF.ix_tup0, RF.ixN_0, RF.ix_lst1, RF.ix_tup1, RF.ixN_1, RF.ix_lst2, RF.ix_tup2, RF.ixN_2, RF.ix_lst3, RF.ix_tup3, RF.ixN_3, RF.ix_lst4, RF.ix_tup4, RF.ixN_4, RF.ix_lst5, RF.ix_tup5, RF.ixN_5, RF.ix_lst6, RF.ix_tup6, RF.ixN_6, RF.ix_lst7, RF.ix_tup7, RF.ixN_7, RF.ix_lst8, RF.ix_tup8, RF.ixN_8, RF.add_int, RF.dSub, RF.dMul, RF.dFdiv, RF.dMod, RF.dPow, RF.eq_int, RF.eq_str, RF.ne_int, RF.ne_str, RF.dLt, RF.le_int, RF.gt_int, RF.ge_int, RF.dIs, RF.dLen, RF.dAbs, RF.dInt, RF.dList, RF.dTup, RF.dAll, RF.dAny, RF.dSum, RF.dMax2, RF.dMin2, RF.truthD, RF.isNon, ht]
  refine core_spec h fun ps o t hp0 hps hnd hnl h ht => ?_
  simp -dsimp -implicitDefEqProofs only [RF.w_seq, RF.w_if, RF.w_asg, RF.w_ret, RF.w_drop, RF.w_nx, RF.w_run, RF.w_C, RF.w_var, RF.w_mv, RF.w_D, RF.w_V, RF.w_ev, RF.w_lv, RF.w_op, RF.w_T, RF.w_B, RF.w_notT, RF.w_andT, RF.w_orT, RF.w_andV, RF.w_orV, RF.w_not, RF.w_neg, RF.w_CB, RF.w_pre0, RF.w_pre, RF.w_isi, RF.w_evs0, RF.w_evs, RF.w_tup, RF.w_lst, RF.w_part0, RF.w_part, RF.w_sl, RF.w_call, RF.w_call0, RF.w_app, RF.w_ext, RF.w_ins, RF.w_pop, RF.w_setI, RF.w_aug, RF.w_asgT, RF.w_for, RF.w_for0, RF.w_for1, RF.w_it, RF.w_enum, RF.w_rng1, RF.w_rng2, RF.w_lc, RF.w_lc0, RF.w_lc1, RF.w_chain, RF.w_lam, RF.w_bnd, RF.oK_some, RF.oK_none, RF.oK_ite, RF.ifK_true, RF.ifK_false, RF.ifK_not, RF.seqK_nx, RF.seqK_bk, RF.seqK_ct, RF.seqK_rt, RF.stO_un, RF.stO_va, RF.stO_ow, RF.retK_rt, RF.retK_nx, RF.back_nil, RF.back_ow, RF.back_va, RF.varK_va, RF.varK_ow, RF.toD_lst, RF.toD_dct, RF.mvK_va, RF.mvK_ow, RF.rvK_va, RF.rvK_ow, RF.rdS_va, RF.rdS_ow, RF.fin_ev, RF.fin_lv, RF.ap2_some, RF.blK_bl, RF.negD, RF.cons2_some, RF.finL_nil, RF.finL_cons, RF.intK_int, RF.mkA_nil, RF.mkA_ev, RF.mkS_ow, RF.mkA_lv, RF.putA_nil, RF.putA_ev, RF.putS_ow, RF.putA_lv, RF.owS_ow, RF.vaS_va, RF.tgN_eq, RF.tgO_un, RF.tgO_va, RF.tgO_ow, RF.tgT_tup, RF.tgL_nil, RF.tgL_cons, RF.forK_nx, RF.forK_ct, RF.forK_bk, RF.forK_rt, RF.asV, Option.map_some, Option.map_none, Option.bind_some, Option.bind_none, Option.some.injEq, List.getElem?_cons_zero, List.getElem?_cons_succ, List.set_cons_zero, List.set_cons_succ, List.length_cons, List.length_nil, List.cons_append, List.nil_append, List.replicate_succ, List.replicate_zero, Nat.reduceAdd, Nat.reduceSub, Nat.add_zero, Nat.zero_add, Nat.sub_self, RF.seqI, RF.seqD, RF.wipeE, RF.restE, Option.getD_some, RF.ix_lst0, RF.ix_tup0, RF.ixN_0, RF.ix_lst1, RF.ix_tup1, RF.ixN_1, RF.ix_lst2, RF.ix_tup2, RF.ixN_2, RF.ix_lst3, RF.ix_tup3, RF.ixN_3, RF.ix_lst4, RF.ix_tup4, RF.ixN_4, RF.ix_lst5, RF.ix_tup5, RF.ixN_5, RF.ix_lst6, RF.ix_tup6, RF.ixN_6, RF.ix_lst7, RF.ix_tup7, RF.ixN_7, RF.ix_lst8, RF.ix_tup8, RF.ixN_8, RF.add_int, RF.dSub, RF.dMul, RF.dFdiv, RF.dMod, RF.dPow, RF.eq_int, RF.eq_str, RF.ne_int, RF.ne_str, RF.dLt, RF.le_int, RF.gt_int, RF.ge_int, RF.dIs, RF.dLen, RF.dAbs, RF.dInt, RF.dList, RF.dTup, RF.dAll, RF.dAny, RF.dSum, RF.dMax2, RF.dMin2, RF.truthD, RF.isNon, ht]
  refine ⟨by rfl, ?_⟩
  refine wp_lcI (ps.map pD) (fun i ys r => ∃ o : Ob, ys.length = i ∧ (∀ d ∈ ys, TOk ps d) ∧ DrS ns o ∧ r = [.va (.rls (ns.map D.int)), .ow false o, .va (.tup (ps.map pD)), .un, .un, .un, .un, .un, .un, .un, .un]) ?_ ?_ _ ⟨o, rfl, by simp, h, rfl⟩
  · rintro i d ys r hi ⟨o, hyl, hy, h, rfl⟩
    obtain ⟨t, ht⟩ := h.toD
    obtain ⟨p, rfl, hpm⟩ : ∃ p, d = pD p ∧ p ∈ ps := by
      rw [List.getElem?_map] at hi
      cases e2 : ps[i]? with
      | none => rw [e2] at hi; cases hi
      | some p => rw [e2] at hi; cases hi; exact ⟨p, rfl, List.mem_of_getElem? e2⟩
    refine ⟨_, rfl, ?_⟩
    simp -dsimp -implicitDefEqProofs only [RF.w_seq, RF.w_if, RF.w_asg, RF.w_ret, RF.w_drop, RF.w_nx, RF.w_run, RF.w_C, RF.w_var, RF.w_mv, RF.w_D, RF.w_V, RF.w_ev, RF.w_lv, RF.w_op, RF.w_T, RF.w_B, RF.w_notT, RF.w_andT, RF.w_orT, RF.w_andV, RF.w_orV, RF.w_not, RF.w_neg, RF.w_CB, RF.w_pre0, RF.w_pre, RF.w_isi, RF.w_evs0, RF.w_evs, RF.w_tup, RF.w_lst, RF.w_part0, RF.w_part, RF.w_sl, RF.w_call, RF.w_call0, RF.w_app, RF.w_ext, RF.w_ins, RF.w_pop, RF.w_setI, RF.w_aug, RF.w_asgT, RF.w_for, RF.w_for0, RF.w_for1, RF.w_it, RF.w_enum, RF.w_rng1, RF.w_rng2, RF.w_lc, RF.w_lc0, RF.w_lc1, RF.w_chain, RF.w_lam, RF.w_bnd, RF.oK_some, RF.oK_none, RF.oK_ite, RF.ifK_true, RF.ifK_false, RF.ifK_not, RF.seqK_nx, RF.seqK_bk, RF.seqK_ct, RF.seqK_rt, RF.stO_un, RF.stO_va, RF.stO_ow, RF.retK_rt, RF.retK_nx, RF.back_nil, RF.back_ow, RF.back_va, RF.varK_va, RF.varK_ow, RF.toD_lst, RF.toD_dct, RF.mvK_va, RF.mvK_ow, RF.rvK_va, RF.rvK_ow, RF.rdS_va, RF.rdS_ow, RF.fin_ev, RF.fin_lv, RF.ap2_some, RF.blK_bl, RF.negD, RF.cons2_some, RF.finL_nil, RF.finL_cons, RF.intK_int, RF.mkA_nil, RF.mkA_ev, RF.mkS_ow, RF.mkA_lv, RF.putA_nil, RF.putA_ev, RF.putS_ow, RF.putA_lv, RF.owS_ow, RF.vaS_va, RF.tgN_eq, RF.tgO_un, RF.tgO_va, RF.tgO_ow, RF.tgT_tup, RF.tgL_nil, RF.tgL_cons, RF.forK_nx, RF.forK_ct, RF.forK_bk, RF.forK_rt, RF.asV, Option.map_some, Option.map_none, Option.bind_some, Option.bind_none, Option.some.injEq, List.getElem?_cons_zero, List.getElem?_cons_succ, List.set_cons_zero, List.set_cons_succ, List.length_cons, List.length_nil, List.cons_append, List.nil_append, List.replicate_succ, List.replicate_zero, Nat.reduceAdd, Nat.reduceSub, Nat.add_zero, Nat.zero_add, Nat.sub_self, RF.seqI, RF.seqD, RF.wipeE, RF.restE, Option.getD_some, RF.ix_lst0, RF.ix_tup0, RF.ixN_0, RF.ix_lst1, RF.ix_tup1, RF.ixN_1, RF.ix_lst2, RF.ix_tup2, RF.ixN_2, RF.ix_lst3, RF.ix_tup3, RF.ixN_3, RF.ix_lst4, RF.ix_tup4, RF.ixN_4, RF.ix_lst5, RF.ix_tup5, RF.ixN_5, RF.ix_lst6, RF.ix_tup6, RF.ixN_6, RF.ix_lst7, RF.ix_tup7, RF.ixN_7, RF.ix_lst8, RF.ix_tup8, RF.ixN_8, RF.add_int, RF.dSub, RF.dMul, RF.dFdiv, RF.dMod, RF.dPow, RF.eq_int, RF.eq_str, RF.ne_int, RF.ne_str, RF.dLt, RF.le_int, RF.gt_int, RF.ge_int, RF.dIs, RF.dLen, RF.dAbs, RF.dInt, RF.dList, RF.dTup, RF.dAll, RF.dAny, RF.dSum, RF.dMax2, RF.dMin2, RF.truthD, RF.isNon, ht]
    refine good_test (hps.2 p hpm) (hnl p hpm) h fun b c e o' t hb hg h ht => ?_
    simp -dsimp -implicitDefEqProofs only [RF.w_seq, RF.w_if, RF.w_asg, RF.w_ret, RF.w_drop, RF.w_nx, RF.w_run, RF.w_C, RF.w_var, RF.w_mv, RF.w_D, RF.w_V, RF.w_ev, RF.w_lv, RF.w_op, RF.w_T, RF.w_B, RF.w_notT, RF.w_andT, RF.w_orT, RF.w_andV, RF.w_orV, RF.w_not, RF.w_neg, RF.w_CB, RF.w_pre0, RF.w_pre, RF.w_isi, RF.w_evs0, RF.w_evs, RF.w_tup, RF.w_lst, RF.w_part0, RF.w_part, RF.w_sl, RF.w_call, RF.w_call0, RF.w_app, RF.w_ext, RF.w_ins, RF.w_pop, RF.w_setI, RF.w_aug, RF.w_asgT, RF.w_for, RF.w_for0, RF.w_for1, RF.w_it, RF.w_enum, RF.w_rng1, RF.w_rng2, RF.w_lc, RF.w_lc0, RF.w_lc1, RF.w_chain, RF.w_lam, RF.w_bnd, RF.oK_some, RF.oK_none, RF.oK_ite, RF.ifK_true, RF.ifK_false, RF.ifK_not, RF.seqK_nx, RF.seqK_bk, RF.seqK_ct, RF.seqK_rt, RF.stO_un, RF.stO_va, RF.stO_ow, RF.retK_rt, RF.retK_nx, RF.back_nil, RF.back_ow, RF.back_va, RF.varK_va, RF.varK_ow, RF.toD_lst, RF.toD_dct, RF.mvK_va, RF.mvK_ow, RF.rvK_va, RF.rvK_ow, RF.rdS_va, RF.rdS_ow, RF.fin_ev, RF.fin_lv, RF.ap2_some, RF.blK_bl, RF.negD, RF.cons2_some, RF.finL_nil, RF.finL_cons, RF.intK_int, RF.mkA_nil, RF.mkA_ev, RF.mkS_ow, RF.mkA_lv, RF.putA_nil, RF.putA_ev, RF.putS_ow, RF.putA_lv, RF.owS_ow, RF.vaS_va, RF.tgN_eq, RF.tgO_un, RF.tgO_va, RF.tgO_ow, RF.tgT_tup, RF.tgL_nil, RF.tgL_cons, RF.forK_nx, RF.forK_ct, RF.forK_bk, RF.forK_rt, RF.asV, Option.map_some, Option.map_none, Option.bind_some, Option.bind_none, Option.some.injEq, List.getElem?_cons_zero, List.getElem?_cons_succ, List.set_cons_zero, List.set_cons_succ, List.length_cons, List.length_nil, List.cons_append, List.nil_append, List.replicate_succ, List.replicate_zero, Nat.reduceAdd, Nat.reduceSub, Nat.add_zero, Nat.zero_add, Nat.sub_self, RF.seqI, RF.seqD, RF.wipeE, RF.restE, Option.getD_some, RF.ix_lst0, RF.ix_tup0, RF.ixN_0, RF.ix_lst1, RF.ix_tup1, RF.ixN_1, RF.ix_lst2, RF.ix_tup2, RF.ixN_2, RF.ix_lst3, RF.ix_tup3, RF.ixN_3, RF.ix_lst4, RF.ix_tup4, RF.ixN_4, RF.ix_lst5, RF.ix_tup5, RF.ixN_5, RF.ix_lst6, RF.ix_tup6, RF.ixN_6, RF.ix_lst7, RF.ix_tup7, RF.ixN_7, RF.ix_lst8, RF.ix_tup8, RF.ixN_8, RF.add_int, RF.dSub, RF.dMul, RF.dFdiv, RF.dMod, RF.dPow, RF.eq_int, RF.eq_str, RF.ne_int, RF.ne_str, RF.dLt, RF.le_int, RF.gt_int, RF.ge_int, RF.dIs, RF.dLen, RF.dAbs, RF.dInt, RF.dList, RF.dTup, RF.dAll, RF.dAny, RF.dSum, RF.dMax2, RF.dMin2, RF.truthD, RF.isNon, ht]
    refine ⟨o', by rw [List.length_append, hyl]; rfl, fun d hd => ?_, h, rfl⟩
    rcases List.mem_append.mp hd with hd | hd
    · exact hy d hd
    · rw [List.mem_singleton.mp hd]; exact tok hnd hpm hb hg
  · rintro ts r ⟨o, htl, hts, h, rfl⟩
    obtain ⟨t, ht⟩ := h.toD
    rw [List.length_map] at htl
    refine ⟨by rw [htl]; exact Nat.le_trans hps.1 (by decide), ?_⟩
    simp -dsimp -implicitDefEqProofs only [RF.w_seq, RF.w_if, RF.w_asg, RF.w_ret, RF.w_drop, RF.w_nx, RF.w_run, RF.w_C, RF.w_var, RF.w_mv, RF.w_D, RF.w_V, RF.w_ev, RF.w_lv, RF.w_op, RF.w_T, RF.w_B, RF.w_notT, RF.w_andT, RF.w_orT, RF.w_andV, RF.w_orV, RF.w_not, RF.w_neg, RF.w_CB, RF.w_pre0, RF.w_pre, RF.w_isi, RF.w_evs0, RF.w_evs, RF.w_tup, RF.w_lst, RF.w_part0, RF.w_part, RF.w_sl, RF.w_call, RF.w_call0, RF.w_app, RF.w_ext, RF.w_ins, RF.w_pop, RF.w_setI, RF.w_aug, RF.w_asgT, RF.w_for, RF.w_for0, RF.w_for1, RF.w_it, RF.w_enum, RF.w_rng1, RF.w_rng2, RF.w_lc, RF.w_lc0, RF.w_lc1, RF.w_chain, RF.w_lam, RF.w_bnd, RF.oK_some, RF.oK_none, RF.oK_ite, RF.ifK_true, RF.ifK_false, RF.ifK_not, RF.seqK_nx, RF.seqK_bk, RF.seqK_ct, RF.seqK_rt, RF.stO_un, RF.stO_va, RF.stO_ow, RF.retK_rt, RF.retK_nx, RF.back_nil, RF.back_ow, RF.back_va, RF.varK_va, RF.varK_ow, RF.toD_lst, RF.toD_dct, RF.mvK_va, RF.mvK_ow, RF.rvK_va, RF.rvK_ow, RF.rdS_va, RF.rdS_ow, RF.fin_ev, RF.fin_lv, RF.ap2_some, RF.blK_bl, RF.negD, RF.cons2_some, RF.finL_nil, RF.finL_cons, RF.intK_int, RF.mkA_nil, RF.mkA_ev, RF.mkS_ow, RF.mkA_lv, RF.putA_nil, RF.putA_ev, RF.putS_ow, RF.putA_lv, RF.owS_ow, RF.vaS_va, RF.tgN_eq, RF.tgO_un, RF.tgO_va, RF.tgO_ow, RF.tgT_tup, RF.tgL_nil, RF.tgL_cons, RF.forK_nx, RF.forK_ct, RF.forK_bk, RF.forK_rt, RF.asV, Option.map_some, Option.map_none, Option.bind_some, Option.bind_none, Option.some.injEq, List.getElem?_cons_zero, List.getElem?_cons_succ, List.set_cons_zero, List.set_cons_succ, List.length_cons, List.length_nil, List.cons_append, List.nil_append, List.replicate_succ, List.replicate_zero, Nat.reduceAdd, Nat.reduceSub, Nat.add_zero, Nat.zero_add, Nat.sub_self, RF.seqI, RF.seqD, RF.wipeE, RF.restE, Option.getD_some, RF.ix_lst0, RF.ix_tup0, RF.ixN_0, RF.ix_lst1, RF.ix_tup1, RF.ixN_1, RF.ix_lst2, RF.ix_tup2, RF.ixN_2, RF.ix_lst3, RF.ix_tup3, RF.ixN_3, RF.ix_lst4, RF.ix_tup4, RF.ixN_4, RF.ix_lst5, RF.ix_tup5, RF.ixN_5, RF.ix_lst6, RF.ix_tup6, RF.ixN_6, RF.ix_lst7, RF.ix_tup7, RF.ixN_7, RF.ix_lst8, RF.ix_tup8, RF.ixN_8, RF.add_int, RF.dSub, RF.dMul, RF.dFdiv, RF.dMod, RF.dPow, RF.eq_int, RF.eq_str, RF.ne_int, RF.ne_str, RF.dLt, RF.le_int, RF.gt_int, RF.ge_int, RF.dIs, RF.dLen, RF.dAbs, RF.dInt, RF.dList, RF.dTup, RF.dAll, RF.dAny, RF.dSum, RF.dMax2, RF.dMin2, RF.truthD, RF.isNon]
    refine wp_forI ts (fun k r => ∃ s5, Pl s5 ∧ r = [.va (.rls (ns.map D.int)), .ow false o, .va (.tup (ps.map pD)), .va (.lst ts), .un, s5, .un, .un, .un, .un, .un]) ?_ ?_ _ ⟨_, .un, rfl⟩
    · rintro k d r hk ⟨s5, p5, rfl⟩
      obtain ⟨s, bs, cs, es, rfl, hb, hg, _⟩ := hts d (List.mem_of_getElem? hk)
      refine ⟨[.va (.rls (ns.map D.int)), .ow false o, .va (.tup (ps.map pD)), .va (.lst ts), .un, .va (.tup [.str s, .tup bs, .tup cs, .tup es]), .un, .un, .un, .un, .un], ?_, ?_⟩
      · simp -dsimp -implicitDefEqProofs only [RF.w_seq, RF.w_if, RF.w_asg, RF.w_ret, RF.w_drop, RF.w_nx, RF.w_run, RF.w_C, RF.w_var, RF.w_mv, RF.w_D, RF.w_V, RF.w_ev, RF.w_lv, RF.w_op, RF.w_T, RF.w_B, RF.w_notT, RF.w_andT, RF.w_orT, RF.w_andV, RF.w_orV, RF.w_not, RF.w_neg, RF.w_CB, RF.w_pre0, RF.w_pre, RF.w_isi, RF.w_evs0, RF.w_evs, RF.w_tup, RF.w_lst, RF.w_part0, RF.w_part, RF.w_sl, RF.w_call, RF.w_call0, RF.w_app, RF.w_ext, RF.w_ins, RF.w_pop, RF.w_setI, RF.w_aug, RF.w_asgT, RF.w_for, RF.w_for0, RF.w_for1, RF.w_it, RF.w_enum, RF.w_rng1, RF.w_rng2, RF.w_lc, RF.w_lc0, RF.w_lc1, RF.w_chain, RF.w_lam, RF.w_bnd, RF.oK_some, RF.oK_none, RF.oK_ite, RF.ifK_true, RF.ifK_false, RF.ifK_not, RF.seqK_nx, RF.seqK_bk, RF.seqK_ct, RF.seqK_rt, RF.stO_un, RF.stO_va, RF.stO_ow, RF.retK_rt, RF.retK_nx, RF.back_nil, RF.back_ow, RF.back_va, RF.varK_va, RF.varK_ow, RF.toD_lst, RF.toD_dct, RF.mvK_va, RF.mvK_ow, RF.rvK_va, RF.rvK_ow, RF.rdS_va, RF.rdS_ow, RF.fin_ev, RF.fin_lv, RF.ap2_some, RF.blK_bl, RF.negD, RF.cons2_some, RF.finL_nil, RF.finL_cons, RF.intK_int, RF.mkA_nil, RF.mkA_ev, RF.mkS_ow, RF.mkA_lv, RF.putA_nil, RF.putA_ev, RF.putS_ow, RF.putA_lv, RF.owS_ow, RF.vaS_va, RF.tgN_eq, RF.tgO_un, RF.tgO_va, RF.tgO_ow, RF.tgT_tup, RF.tgL_nil, RF.tgL_cons, RF.forK_nx, RF.forK_ct, RF.forK_bk, RF.forK_rt, RF.asV, Option.map_some, Option.map_none, Option.bind_some, Option.bind_none, Option.some.injEq, List.getElem?_cons_zero, List.getElem?_cons_succ, List.set_cons_zero, List.set_cons_succ, List.length_cons, List.length_nil, List.cons_append, List.nil_append, List.replicate_succ, List.replicate_zero, Nat.reduceAdd, Nat.reduceSub, Nat.add_zero, Nat.zero_add, Nat.sub_self, RF.seqI, RF.seqD, RF.wipeE, RF.restE, Option.getD_some, RF.ix_lst0, RF.ix_tup0, RF.ixN_0, RF.ix_lst1, RF.ix_tup1, RF.ixN_1, RF.ix_lst2, RF.ix_tup2, RF.ixN_2, RF.ix_lst3, RF.ix_tup3, RF.ixN_3, RF.ix_lst4, RF.ix_tup4, RF.ixN_4, RF.ix_lst5, RF.ix_tup5, RF.ixN_5, RF.ix_lst6, RF.ix_tup6, RF.ixN_6, RF.ix_lst7, RF.ix_tup7, RF.ixN_7, RF.ix_lst8, RF.ix_tup8, RF.ixN_8, RF.add_int, RF.dSub, RF.dMul, RF.dFdiv, RF.dMod, RF.dPow, RF.eq_int, RF.eq_str, RF.ne_int, RF.ne_str, RF.dLt, RF.le_int, RF.gt_int, RF.ge_int, RF.dIs, RF.dLen, RF.dAbs, RF.dInt, RF.dList, RF.dTup, RF.dAll, RF.dAny, RF.dSum, RF.dMax2, RF.dMin2, RF.truthD, RF.isNon, p5.tg]
      simp -dsimp -implicitDefEqProofs only [RF.w_seq, RF.w_if, RF.w_asg, RF.w_ret, RF.w_drop, RF.w_nx, RF.w_run, RF.w_C, RF.w_var, RF.w_mv, RF.w_D, RF.w_V, RF.w_ev, RF.w_lv, RF.w_op, RF.w_T, RF.w_B, RF.w_notT, RF.w_andT, RF.w_orT, RF.w_andV, RF.w_orV, RF.w_not, RF.w_neg, RF.w_CB, RF.w_pre0, RF.w_pre, RF.w_isi, RF.w_evs0, RF.w_evs, RF.w_tup, RF.w_lst, RF.w_part0, RF.w_part, RF.w_sl, RF.w_call, RF.w_call0, RF.w_app, RF.w_ext, RF.w_ins, RF.w_pop, RF.w_setI, RF.w_aug, RF.w_asgT, RF.w_for, RF.w_for0, RF.w_for1, RF.w_it, RF.w_enum, RF.w_rng1, RF.w_rng2, RF.w_lc, RF.w_lc0, RF.w_lc1, RF.w_chain, RF.w_lam, RF.w_bnd, RF.oK_some, RF.oK_none, RF.oK_ite, RF.ifK_true, RF.ifK_false, RF.ifK_not, RF.seqK_nx, RF.seqK_bk, RF.seqK_ct, RF.seqK_rt, RF.stO_un, RF.stO_va, RF.stO_ow, RF.retK_rt, RF.retK_nx, RF.back_nil, RF.back_ow, RF.back_va, RF.varK_va, RF.varK_ow, RF.toD_lst, RF.toD_dct, RF.mvK_va, RF.mvK_ow, RF.rvK_va, RF.rvK_ow, RF.rdS_va, RF.rdS_ow, RF.fin_ev, RF.fin_lv, RF.ap2_some, RF.blK_bl, RF.negD, RF.cons2_some, RF.finL_nil, RF.finL_cons, RF.intK_int, RF.mkA_nil, RF.mkA_ev, RF.mkS_ow, RF.mkA_lv, RF.putA_nil, RF.putA_ev, RF.putS_ow, RF.putA_lv, RF.owS_ow, RF.vaS_va, RF.tgN_eq, RF.tgO_un, RF.tgO_va, RF.tgO_ow, RF.tgT_tup, RF.tgL_nil, RF.tgL_cons, RF.forK_nx, RF.forK_ct, RF.forK_bk, RF.forK_rt, RF.asV, Option.map_some, Option.map_none, Option.bind_some, Option.bind_none, Option.some.injEq, List.getElem?_cons_zero, List.getElem?_cons_succ, List.set_cons_zero, List.set_cons_succ, List.length_cons, List.length_nil, List.cons_append, List.nil_append, List.replicate_succ, List.replicate_zero, Nat.reduceAdd, Nat.reduceSub, Nat.add_zero, Nat.zero_add, Nat.sub_self, RF.seqI, RF.seqD, RF.wipeE, RF.restE, Option.getD_some, RF.ix_lst0, RF.ix_tup0, RF.ixN_0, RF.ix_lst1, RF.ix_tup1, RF.ixN_1, RF.ix_lst2, RF.ix_tup2, RF.ixN_2, RF.ix_lst3, RF.ix_tup3, RF.ixN_3, RF.ix_lst4, RF.ix_tup4, RF.ixN_4, RF.ix_lst5, RF.ix_tup5, RF.ixN_5, RF.ix_lst6, RF.ix_tup6, RF.ixN_6, RF.ix_lst7, RF.ix_tup7, RF.ixN_7, RF.ix_lst8, RF.ix_tup8, RF.ixN_8, RF.add_int, RF.dSub, RF.dMul, RF.dFdiv, RF.dMod, RF.dPow, RF.eq_int, RF.eq_str, RF.ne_int, RF.ne_str, RF.dLt, RF.le_int, RF.gt_int, RF.ge_int, RF.dIs, RF.dLen, RF.dAbs, RF.dInt, RF.dList, RF.dTup, RF.dAll, RF.dAny, RF.dSum, RF.dMax2, RF.dMin2, RF.truthD, RF.isNon, isB_t, wp_of (f_test ps hps _ (b_sm _ hb)), hg, beq_self_eq_true]
      exact ⟨_, .va, rfl⟩
    · rintro r ⟨s5, p5, rfl⟩
      simp -dsimp -implicitDefEqProofs only [RF.w_seq, RF.w_if, RF.w_asg, RF.w_ret, RF.w_drop, RF.w_nx, RF.w_run, RF.w_C, RF.w_var, RF.w_mv, RF.w_D, RF.w_V, RF.w_ev, RF.w_lv, RF.w_op, RF.w_T, RF.w_B, RF.w_notT, RF.w_andT, RF.w_orT, RF.w_andV, RF.w_orV, RF.w_not, RF.w_neg, RF.w_CB, RF.w_pre0, RF.w_pre, RF.w_isi, RF.w_evs0, RF.w_evs, RF.w_tup, RF.w_lst, RF.w_part0, RF.w_part, RF.w_sl, RF.w_call, RF.w_call0, RF.w_app, RF.w_ext, RF.w_ins, RF.w_pop, RF.w_setI, RF.w_aug, RF.w_asgT, RF.w_for, RF.w_for0, RF.w_for1, RF.w_it, RF.w_enum, RF.w_rng1, RF.w_rng2, RF.w_lc, RF.w_lc0, RF.w_lc1, RF.w_chain, RF.w_lam, RF.w_bnd, RF.oK_some, RF.oK_none, RF.oK_ite, RF.ifK_true, RF.ifK_false, RF.ifK_not, RF.seqK_nx, RF.seqK_bk, RF.seqK_ct, RF.seqK_rt, RF.stO_un, RF.stO_va, RF.stO_ow, RF.retK_rt, RF.retK_nx, RF.back_nil, RF.back_ow, RF.back_va, RF.varK_va, RF.varK_ow, RF.toD_lst, RF.toD_dct, RF.mvK_va, RF.mvK_ow, RF.rvK_va, RF.rvK_ow, RF.rdS_va, RF.rdS_ow, RF.fin_ev, RF.fin_lv, RF.ap2_some, RF.blK_bl, RF.negD, RF.cons2_some, RF.finL_nil, RF.finL_cons, RF.intK_int, RF.mkA_nil, RF.mkA_ev, RF.mkS_ow, RF.mkA_lv, RF.putA_nil, RF.putA_ev, RF.putS_ow, RF.putA_lv, RF.owS_ow, RF.vaS_va, RF.tgN_eq, RF.tgO_un, RF.tgO_va, RF.tgO_ow, RF.tgT_tup, RF.tgL_nil, RF.tgL_cons, RF.forK_nx, RF.forK_ct, RF.forK_bk, RF.forK_rt, RF.asV, Option.map_some, Option.map_none, Option.bind_some, Option.bind_none, Option.some.injEq, List.getElem?_cons_zero, List.getElem?_cons_succ, List.set_cons_zero, List.set_cons_succ, List.length_cons, List.length_nil, List.cons_append, List.nil_append, List.replicate_succ, List.replicate_zero, Nat.reduceAdd, Nat.reduceSub, Nat.add_zero, Nat.zero_add, Nat.sub_self, RF.seqI, RF.seqD, RF.wipeE, RF.restE, Option.getD_some, RF.ix_lst0, RF.ix_tup0, RF.ixN_0, RF.ix_lst1, RF.ix_tup1, RF.ixN_1, RF.ix_lst2, RF.ix_tup2, RF.ixN_2, RF.ix_lst3, RF.ix_tup3, RF.ixN_3, RF.ix_lst4, RF.ix_tup4, RF.ixN_4, RF.ix_lst5, RF.ix_tup5, RF.ixN_5, RF.ix_lst6, RF.ix_tup6, RF.ixN_6, RF.ix_lst7, RF.ix_tup7, RF.ixN_7, RF.ix_lst8, RF.ix_tup8, RF.ixN_8, RF.add_int, RF.dSub, RF.dMul, RF.dFdiv, RF.dMod, RF.dPow, RF.eq_int, RF.eq_str, RF.ne_int, RF.ne_str, RF.dLt, RF.le_int, RF.gt_int, RF.ge_int, RF.dIs, RF.dLen, RF.dAbs, RF.dInt, RF.dList, RF.dTup, RF.dAll, RF.dAny, RF.dSum, RF.dMax2, RF.dMin2, RF.truthD, RF.isNon]
      refine ⟨by rfl, ?_⟩
      refine wp_forI (rngL 0 12) (fun k r => ∃ o s5 s6 s7 s8 s9 s10, DrS ns o ∧ Pl s5 ∧ Pl s6 ∧ Pl s7 ∧ Pl s8 ∧ Sb s9 ∧ Pl s10 ∧ r = [.va (.rls (ns.map D.int)), .ow false o, .va (.tup (ps.map pD)), .va (.lst ts), .un, s5, s6, s7, s8, s9, s10]) ?_ ?_ _ ⟨o, _, _, _, _, _, _, h, p5, .un, .un, .un, .un, .un, rfl⟩
      · rintro k dk r hk ⟨o, s5, s6, s7, s8, s9, s10, h, p5, p6, p7, p8, p9, p10, rfl⟩
        obtain ⟨t, ht⟩ := h.toD
        refine ⟨[.va (.rls (ns.map D.int)), .ow false o, .va (.tup (ps.map pD)), .va (.lst ts), .un, s5, .va dk, s7, s8, s9, s10], ?_, ?_⟩
        · simp -dsimp -implicitDefEqProofs only [RF.w_seq, RF.w_if, RF.w_asg, RF.w_ret, RF.w_drop, RF.w_nx, RF.w_run, RF.w_C, RF.w_var, RF.w_mv, RF.w_D, RF.w_V, RF.w_ev, RF.w_lv, RF.w_op, RF.w_T, RF.w_B, RF.w_notT, RF.w_andT, RF.w_orT, RF.w_andV, RF.w_orV, RF.w_not, RF.w_neg, RF.w_CB, RF.w_pre0, RF.w_pre, RF.w_isi, RF.w_evs0, RF.w_evs, RF.w_tup, RF.w_lst, RF.w_part0, RF.w_part, RF.w_sl, RF.w_call, RF.w_call0, RF.w_app, RF.w_ext, RF.w_ins, RF.w_pop, RF.w_setI, RF.w_aug, RF.w_asgT, RF.w_for, RF.w_for0, RF.w_for1, RF.w_it, RF.w_enum, RF.w_rng1, RF.w_rng2, RF.w_lc, RF.w_lc0, RF.w_lc1, RF.w_chain, RF.w_lam, RF.w_bnd, RF.oK_some, RF.oK_none, RF.oK_ite, RF.ifK_true, RF.ifK_false, RF.ifK_not, RF.seqK_nx, RF.seqK_bk, RF.seqK_ct, RF.seqK_rt, RF.stO_un, RF.stO_va, RF.stO_ow, RF.retK_rt, RF.retK_nx, RF.back_nil, RF.back_ow, RF.back_va, RF.varK_va, RF.varK_ow, RF.toD_lst, RF.toD_dct, RF.mvK_va, RF.mvK_ow, RF.rvK_va, RF.rvK_ow, RF.rdS_va, RF.rdS_ow, RF.fin_ev, RF.fin_lv, RF.ap2_some, RF.blK_bl, RF.negD, RF.cons2_some, RF.finL_nil, RF.finL_cons, RF.intK_int, RF.mkA_nil, RF.mkA_ev, RF.mkS_ow, RF.mkA_lv, RF.putA_nil, RF.putA_ev, RF.putS_ow, RF.putA_lv, RF.owS_ow, RF.vaS_va, RF.tgN_eq, RF.tgO_un, RF.tgO_va, RF.tgO_ow, RF.tgT_tup, RF.tgL_nil, RF.tgL_cons, RF.forK_nx, RF.forK_ct, RF.forK_bk, RF.forK_rt, RF.asV, Option.map_some, Option.map_none, Option.bind_some, Option.bind_none, Option.some.injEq, List.getElem?_cons_zero, List.getElem?_cons_succ, List.set_cons_zero, List.set_cons_succ, List.length_cons, List.length_nil, List.cons_append, List.nil_append, List.replicate_succ, List.replicate_zero, Nat.reduceAdd, Nat.reduceSub, Nat.add_zero, Nat.zero_add, Nat.sub_self, RF.seqI, RF.seqD, RF.wipeE, RF.restE, Option.getD_some, RF.ix_lst0, RF.ix_tup0, RF.ixN_0, RF.ix_lst1, RF.ix_tup1, RF.ixN_1, RF.ix_lst2, RF.ix_tup2, RF.ixN_2, RF.ix_lst3, RF.ix_tup3, RF.ixN_3, RF.ix_lst4, RF.ix_tup4, RF.ixN_4, RF.ix_lst5, RF.ix_tup5, RF.ixN_5, RF.ix_lst6, RF.ix_tup6, RF.ixN_6, RF.ix_lst7, RF.ix_tup7, RF.ixN_7, RF.ix_lst8, RF.ix_tup8, RF.ixN_8, RF.add_int, RF.dSub, RF.dMul, RF.dFdiv, RF.dMod, RF.dPow, RF.eq_int, RF.eq_str, RF.ne_int, RF.ne_str, RF.dLt, RF.le_int, RF.gt_int, RF.ge_int, RF.dIs, RF.dLen, RF.dAbs, RF.dInt, RF.dList, RF.dTup, RF.dAll, RF.dAny, RF.dSum, RF.dMax2, RF.dMin2, RF.truthD, RF.isNon, p6.tg]
        simp -dsimp -implicitDefEqProofs only [RF.w_seq, RF.w_if, RF.w_asg, RF.w_ret, RF.w_drop, RF.w_nx, RF.w_run, RF.w_C, RF.w_var, RF.w_mv, RF.w_D, RF.w_V, RF.w_ev, RF.w_lv, RF.w_op, RF.w_T, RF.w_B, RF.w_notT, RF.w_andT, RF.w_orT, RF.w_andV, RF.w_orV, RF.w_not, RF.w_neg, RF.w_CB, RF.w_pre0, RF.w_pre, RF.w_isi, RF.w_evs0, RF.w_evs, RF.w_tup, RF.w_lst, RF.w_part0, RF.w_part, RF.w_sl, RF.w_call, RF.w_call0, RF.w_app, RF.w_ext, RF.w_ins, RF.w_pop, RF.w_setI, RF.w_aug, RF.w_asgT, RF.w_for, RF.w_for0, RF.w_for1, RF.w_it, RF.w_enum, RF.w_rng1, RF.w_rng2, RF.w_lc, RF.w_lc0, RF.w_lc1, RF.w_chain, RF.w_lam, RF.w_bnd, RF.oK_some, RF.oK_none, RF.oK_ite, RF.ifK_true, RF.ifK_false, RF.ifK_not, RF.seqK_nx, RF.seqK_bk, RF.seqK_ct, RF.seqK_rt, RF.stO_un, RF.stO_va, RF.stO_ow, RF.retK_rt, RF.retK_nx, RF.back_nil, RF.back_ow, RF.back_va, RF.varK_va, RF.varK_ow, RF.toD_lst, RF.toD_dct, RF.mvK_va, RF.mvK_ow, RF.rvK_va, RF.rvK_ow, RF.rdS_va, RF.rdS_ow, RF.fin_ev, RF.fin_lv, RF.ap2_some, RF.blK_bl, RF.negD, RF.cons2_some, RF.finL_nil, RF.finL_cons, RF.intK_int, RF.mkA_nil, RF.mkA_ev, RF.mkS_ow, RF.mkA_lv, RF.putA_nil, RF.putA_ev, RF.putS_ow, RF.putA_lv, RF.owS_ow, RF.vaS_va, RF.tgN_eq, RF.tgO_un, RF.tgO_va, RF.tgO_ow, RF.tgT_tup, RF.tgL_nil, RF.tgL_cons, RF.forK_nx, RF.forK_ct, RF.forK_bk, RF.forK_rt, RF.asV, Option.map_some, Option.map_none, Option.bind_some, Option.bind_none, Option.some.injEq, List.getElem?_cons_zero, List.getElem?_cons_succ, List.set_cons_zero, List.set_cons_succ, List.length_cons, List.length_nil, List.cons_append, List.nil_append, List.replicate_succ, List.replicate_zero, Nat.reduceAdd, Nat.reduceSub, Nat.add_zero, Nat.zero_add, Nat.sub_self, RF.seqI, RF.seqD, RF.wipeE, RF.restE, Option.getD_some, RF.ix_lst0, RF.ix_tup0, RF.ixN_0, RF.ix_lst1, RF.ix_tup1, RF.ixN_1, RF.ix_lst2, RF.ix_tup2, RF.ixN_2, RF.ix_lst3, RF.ix_tup3, RF.ixN_3, RF.ix_lst4, RF.ix_tup4, RF.ixN_4, RF.ix_lst5, RF.ix_tup5, RF.ixN_5, RF.ix_lst6, RF.ix_tup6, RF.ixN_6, RF.ix_lst7, RF.ix_tup7, RF.ixN_7, RF.ix_lst8, RF.ix_tup8, RF.ixN_8, RF.add_int, RF.dSub, RF.dMul, RF.dFdiv, RF.dMod, RF.dPow, RF.eq_int, RF.eq_str, RF.ne_int, RF.ne_str, RF.dLt, RF.le_int, RF.gt_int, RF.ge_int, RF.dIs, RF.dLen, RF.dAbs, RF.dInt, RF.dList, RF.dTup, RF.dAll, RF.dAny, RF.dSum, RF.dMax2, RF.dMin2, RF.truthD, RF.isNon, ht, q__law_one_of]
        refine oneW h (by omega) (by have := hps.1; omega) fun test o t he h ht => ?_
        obtain ⟨s, bs, cs, es, rfl, hb, hg, hdp⟩ := hts test he
        simp -dsimp -implicitDefEqProofs only [RF.w_seq, RF.w_if, RF.w_asg, RF.w_ret, RF.w_drop, RF.w_nx, RF.w_run, RF.w_C, RF.w_var, RF.w_mv, RF.w_D, RF.w_V, RF.w_ev, RF.w_lv, RF.w_op, RF.w_T, RF.w_B, RF.w_notT, RF.w_andT, RF.w_orT, RF.w_andV, RF.w_orV, RF.w_not, RF.w_neg, RF.w_CB, RF.w_pre0, RF.w_pre, RF.w_isi, RF.w_evs0, RF.w_evs, RF.w_tup, RF.w_lst, RF.w_part0, RF.w_part, RF.w_sl, RF.w_call, RF.w_call0, RF.w_app, RF.w_ext, RF.w_ins, RF.w_pop, RF.w_setI, RF.w_aug, RF.w_asgT, RF.w_for, RF.w_for0, RF.w_for1, RF.w_it, RF.w_enum, RF.w_rng1, RF.w_rng2, RF.w_lc, RF.w_lc0, RF.w_lc1, RF.w_chain, RF.w_lam, RF.w_bnd, RF.oK_some, RF.oK_none, RF.oK_ite, RF.ifK_true, RF.ifK_false, RF.ifK_not, RF.seqK_nx, RF.seqK_bk, RF.seqK_ct, RF.seqK_rt, RF.stO_un, RF.stO_va, RF.stO_ow, RF.retK_rt, RF.retK_nx, RF.back_nil, RF.back_ow, RF.back_va, RF.varK_va, RF.varK_ow, RF.toD_lst, RF.toD_dct, RF.mvK_va, RF.mvK_ow, RF.rvK_va, RF.rvK_ow, RF.rdS_va, RF.rdS_ow, RF.fin_ev, RF.fin_lv, RF.ap2_some, RF.blK_bl, RF.negD, RF.cons2_some, RF.finL_nil, RF.finL_cons, RF.intK_int, RF.mkA_nil, RF.mkA_ev, RF.mkS_ow, RF.mkA_lv, RF.putA_nil, RF.putA_ev, RF.putS_ow, RF.putA_lv, RF.owS_ow, RF.vaS_va, RF.tgN_eq, RF.tgO_un, RF.tgO_va, RF.tgO_ow, RF.tgT_tup, RF.tgL_nil, RF.tgL_cons, RF.forK_nx, RF.forK_ct, RF.forK_bk, RF.forK_rt, RF.asV, Option.map_some, Option.map_none, Option.bind_some, Option.bind_none, Option.some.injEq, List.getElem?_cons_zero, List.getElem?_cons_succ, List.set_cons_zero, List.set_cons_succ, List.length_cons, List.length_nil, List.cons_append, List.nil_append, List.replicate_succ, List.replicate_zero, Nat.reduceAdd, Nat.reduceSub, Nat.add_zero, Nat.zero_add, Nat.sub_self, RF.seqI, RF.seqD, RF.wipeE, RF.restE, Option.getD_some, RF.ix_lst0, RF.ix_tup0, RF.ixN_0, RF.ix_lst1, RF.ix_tup1, RF.ixN_1, RF.ix_lst2, RF.ix_tup2, RF.ixN_2, RF.ix_lst3, RF.ix_tup3, RF.ixN_3, RF.ix_lst4, RF.ix_tup4, RF.ixN_4, RF.ix_lst5, RF.ix_tup5, RF.ixN_5, RF.ix_lst6, RF.ix_tup6, RF.ixN_6, RF.ix_lst7, RF.ix_tup7, RF.ixN_7, RF.ix_lst8, RF.ix_tup8, RF.ixN_8, RF.add_int, RF.dSub, RF.dMul, RF.dFdiv, RF.dMod, RF.dPow, RF.eq_int, RF.eq_str, RF.ne_int, RF.ne_str, RF.dLt, RF.le_int, RF.gt_int, RF.ge_int, RF.dIs, RF.dLen, RF.dAbs, RF.dInt, RF.dList, RF.dTup, RF.dAll, RF.dAny, RF.dSum, RF.dMax2, RF.dMin2, RF.truthD, RF.isNon, ht, q__law_draw, p5.st]
        refine drawK h (by decide) (by decide) fun at' o t hat h ht => ?_
        simp -dsimp -implicitDefEqProofs only [RF.w_seq, RF.w_if, RF.w_asg, RF.w_ret, RF.w_drop, RF.w_nx, RF.w_run, RF.w_C, RF.w_var, RF.w_mv, RF.w_D, RF.w_V, RF.w_ev, RF.w_lv, RF.w_op, RF.w_T, RF.w_B, RF.w_notT, RF.w_andT, RF.w_orT, RF.w_andV, RF.w_orV, RF.w_not, RF.w_neg, RF.w_CB, RF.w_pre0, RF.w_pre, RF.w_isi, RF.w_evs0, RF.w_evs, RF.w_tup, RF.w_lst, RF.w_part0, RF.w_part, RF.w_sl, RF.w_call, RF.w_call0, RF.w_app, RF.w_ext, RF.w_ins, RF.w_pop, RF.w_setI, RF.w_aug, RF.w_asgT, RF.w_for, RF.w_for0, RF.w_for1, RF.w_it, RF.w_enum, RF.w_rng1, RF.w_rng2, RF.w_lc, RF.w_lc0, RF.w_lc1, RF.w_chain, RF.w_lam, RF.w_bnd, RF.oK_some, RF.oK_none, RF.oK_ite, RF.ifK_true, RF.ifK_false, RF.ifK_not, RF.seqK_nx, RF.seqK_bk, RF.seqK_ct, RF.seqK_rt, RF.stO_un, RF.stO_va, RF.stO_ow, RF.retK_rt, RF.retK_nx, RF.back_nil, RF.back_ow, RF.back_va, RF.varK_va, RF.varK_ow, RF.toD_lst, RF.toD_dct, RF.mvK_va, RF.mvK_ow, RF.rvK_va, RF.rvK_ow, RF.rdS_va, RF.rdS_ow, RF.fin_ev, RF.fin_lv, RF.ap2_some, RF.blK_bl, RF.negD, RF.cons2_some, RF.finL_nil, RF.finL_cons, RF.intK_int, RF.mkA_nil, RF.mkA_ev, RF.mkS_ow, RF.mkA_lv, RF.putA_nil, RF.putA_ev, RF.putS_ow, RF.putA_lv, RF.owS_ow, RF.vaS_va, RF.tgN_eq, RF.tgO_un, RF.tgO_va, RF.tgO_ow, RF.tgT_tup, RF.tgL_nil, RF.tgL_cons, RF.forK_nx, RF.forK_ct, RF.forK_bk, RF.forK_rt, RF.asV, Option.map_some, Option.map_none, Option.bind_some, Option.bind_none, Option.some.injEq, List.getElem?_cons_zero, List.getElem?_cons_succ, List.set_cons_zero, List.set_cons_succ, List.length_cons, List.length_nil, List.cons_append, List.nil_append, List.replicate_succ, List.replicate_zero, Nat.reduceAdd, Nat.reduceSub, Nat.add_zero, Nat.zero_add, Nat.sub_self, RF.seqI, RF.seqD, RF.wipeE, RF.restE, Option.getD_some, RF.ix_lst0, RF.ix_tup0, RF.ixN_0, RF.ix_lst1, RF.ix_tup1, RF.ixN_1, RF.ix_lst2, RF.ix_tup2, RF.ixN_2, RF.ix_lst3, RF.ix_tup3, RF.ixN_3, RF.ix_lst4, RF.ix_tup4, RF.ixN_4, RF.ix_lst5, RF.ix_tup5, RF.ixN_5, RF.ix_lst6, RF.ix_tup6, RF.ixN_6, RF.ix_lst7, RF.ix_tup7, RF.ixN_7, RF.ix_lst8, RF.ix_tup8, RF.ixN_8, RF.add_int, RF.dSub, RF.dMul, RF.dFdiv, RF.dMod, RF.dPow, RF.eq_int, RF.eq_str, RF.ne_int, RF.ne_str, RF.dLt, RF.le_int, RF.gt_int, RF.ge_int, RF.dIs, RF.dLen, RF.dAbs, RF.dInt, RF.dList, RF.dTup, RF.dAll, RF.dAny, RF.dSum, RF.dMax2, RF.dMin2, RF.truthD, RF.isNon, ht, q__law_one_of, p7.st]
        refine oneW h (by omega) (by have := hps.1; omega) fun other o t he2 h ht => ?_
        obtain ⟨s2, bs2, cs2, es2, rfl, hb2, hg2, _⟩ := hts other he2
        have hsm2 := sm_mem (b_sm _ hb2)
        have hsm1 := sm_mem (b_sm _ hb)
        obtain ⟨x, hx, hxs⟩ := ix4 hat ⟨hsm2 (.str s2) (by simp), hsm2 (.tup bs2) (by simp), hsm2 (.tup cs2) (by simp), hsm2 (.tup es2) (by simp)⟩
        have hbb := (b_mem hb).2
        have lb := (b_mem (hbb (.tup bs) (by simp))).1
        have lc := (b_mem (hbb (.tup cs) (by simp))).1
        have le := (b_mem (hbb (.tup es) (by simp))).1
        simp -dsimp -implicitDefEqProofs only [RF.w_seq, RF.w_if, RF.w_asg, RF.w_ret, RF.w_drop, RF.w_nx, RF.w_run, RF.w_C, RF.w_var, RF.w_mv, RF.w_D, RF.w_V, RF.w_ev, RF.w_lv, RF.w_op, RF.w_T, RF.w_B, RF.w_notT, RF.w_andT, RF.w_orT, RF.w_andV, RF.w_orV, RF.w_not, RF.w_neg, RF.w_CB, RF.w_pre0, RF.w_pre, RF.w_isi, RF.w_evs0, RF.w_evs, RF.w_tup, RF.w_lst, RF.w_part0, RF.w_part, RF.w_sl, RF.w_call, RF.w_call0, RF.w_app, RF.w_ext, RF.w_ins, RF.w_pop, RF.w_setI, RF.w_aug, RF.w_asgT, RF.w_for, RF.w_for0, RF.w_for1, RF.w_it, RF.w_enum, RF.w_rng1, RF.w_rng2, RF.w_lc, RF.w_lc0, RF.w_lc1, RF.w_chain, RF.w_lam, RF.w_bnd, RF.oK_some, RF.oK_none, RF.oK_ite, RF.ifK_true, RF.ifK_false, RF.ifK_not, RF.seqK_nx, RF.seqK_bk, RF.seqK_ct, RF.seqK_rt, RF.stO_un, RF.stO_va, RF.stO_ow, RF.retK_rt, RF.retK_nx, RF.back_nil, RF.back_ow, RF.back_va, RF.varK_va, RF.varK_ow, RF.toD_lst, RF.toD_dct, RF.mvK_va, RF.mvK_ow, RF.rvK_va, RF.rvK_ow, RF.rdS_va, RF.rdS_ow, RF.fin_ev, RF.fin_lv, RF.ap2_some, RF.blK_bl, RF.negD, RF.cons2_some, RF.finL_nil, RF.finL_cons, RF.intK_int, RF.mkA_nil, RF.mkA_ev, RF.mkS_ow, RF.mkA_lv, RF.putA_nil, RF.putA_ev, RF.putS_ow, RF.putA_lv, RF.owS_ow, RF.vaS_va, RF.tgN_eq, RF.tgO_un, RF.tgO_va, RF.tgO_ow, RF.tgT_tup, RF.tgL_nil, RF.tgL_cons, RF.forK_nx, RF.forK_ct, RF.forK_bk, RF.forK_rt, RF.asV, Option.map_some, Option.map_none, Option.bind_some, Option.bind_none, Option.some.injEq, List.getElem?_cons_zero, List.getElem?_cons_succ, List.set_cons_zero, List.set_cons_succ, List.length_cons, List.length_nil, List.cons_append, List.nil_append, List.replicate_succ, List.replicate_zero, Nat.reduceAdd, Nat.reduceSub, Nat.add_zero, Nat.zero_add, Nat.sub_self, RF.seqI, RF.seqD, RF.wipeE, RF.restE, Option.getD_some, RF.ix_lst0, RF.ix_tup0, RF.ixN_0, RF.ix_lst1, RF.ix_tup1, RF.ixN_1, RF.ix_lst2, RF.ix_tup2, RF.ixN_2, RF.ix_lst3, RF.ix_tup3, RF.ixN_3, RF.ix_lst4, RF.ix_tup4, RF.ixN_4, RF.ix_lst5, RF.ix_tup5, RF.ixN_5, RF.ix_lst6, RF.ix_tup6, RF.ixN_6, RF.ix_lst7, RF.ix_tup7, RF.ixN_7, RF.ix_lst8, RF.ix_tup8, RF.ixN_8, RF.add_int, RF.dSub, RF.dMul, RF.dFdiv, RF.dMod, RF.dPow, RF.eq_int, RF.eq_str, RF.ne_int, RF.ne_str, RF.dLt, RF.le_int, RF.gt_int, RF.ge_int, RF.dIs, RF.dLen, RF.dAbs, RF.dInt, RF.dList, RF.dTup, RF.dAll, RF.dAny, RF.dSum, RF.dMax2, RF.dMin2, RF.truthD, RF.isNon, RF.dSl, RF.cut_to, RF.cut_ofS, RF.cut_of, RF.w_zip, RF.w_rev, RF.dIsB, RF.dStr, RF.dRev, RF.dSorted, ht, p8.st, p9.st, hx, dAdd, cl1, cl2, cl3, cr1, cr2, crb]
        have hz : sizeLine = 16777216 := rfl
        refine ⟨?_, ?_, ?_, ?_, ?_, ?_, ?_, ?_, ?_, ?_, ?_, ?_, ?_, ?_, ?_, ?_⟩
        all_goals first
          | (simp only [List.length_append, List.length_take, List.length_drop, List.length_cons, List.length_nil, hz]; omega)
          | skip
        refine bent_spec 20 _ 0 o hb hdp h _ _ fun d1 o t hs1 h ht => ?_
        simp -dsimp -implicitDefEqProofs only [RF.w_seq, RF.w_if, RF.w_asg, RF.w_ret, RF.w_drop, RF.w_nx, RF.w_run, RF.w_C, RF.w_var, RF.w_mv, RF.w_D, RF.w_V, RF.w_ev, RF.w_lv, RF.w_op, RF.w_T, RF.w_B, RF.w_notT, RF.w_andT, RF.w_orT, RF.w_andV, RF.w_orV, RF.w_not, RF.w_neg, RF.w_CB, RF.w_pre0, RF.w_pre, RF.w_isi, RF.w_evs0, RF.w_evs, RF.w_tup, RF.w_lst, RF.w_part0, RF.w_part, RF.w_sl, RF.w_call, RF.w_call0, RF.w_app, RF.w_ext, RF.w_ins, RF.w_pop, RF.w_setI, RF.w_aug, RF.w_asgT, RF.w_for, RF.w_for0, RF.w_for1, RF.w_it, RF.w_enum, RF.w_rng1, RF.w_rng2, RF.w_lc, RF.w_lc0, RF.w_lc1, RF.w_chain, RF.w_lam, RF.w_bnd, RF.oK_some, RF.oK_none, RF.oK_ite, RF.ifK_true, RF.ifK_false, RF.ifK_not, RF.seqK_nx, RF.seqK_bk, RF.seqK_ct, RF.seqK_rt, RF.stO_un, RF.stO_va, RF.stO_ow, RF.retK_rt, RF.retK_nx, RF.back_nil, RF.back_ow, RF.back_va, RF.varK_va, RF.varK_ow, RF.toD_lst, RF.toD_dct, RF.mvK_va, RF.mvK_ow, RF.rvK_va, RF.rvK_ow, RF.rdS_va, RF.rdS_ow, RF.fin_ev, RF.fin_lv, RF.ap2_some, RF.blK_bl, RF.negD, RF.cons2_some, RF.finL_nil, RF.finL_cons, RF.intK_int, RF.mkA_nil, RF.mkA_ev, RF.mkS_ow, RF.mkA_lv, RF.putA_nil, RF.putA_ev, RF.putS_ow, RF.putA_lv, RF.owS_ow, RF.vaS_va, RF.tgN_eq, RF.tgO_un, RF.tgO_va, RF.tgO_ow, RF.tgT_tup, RF.tgL_nil, RF.tgL_cons, RF.forK_nx, RF.forK_ct, RF.forK_bk, RF.forK_rt, RF.asV, Option.map_some, Option.map_none, Option.bind_some, Option.bind_none, Option.some.injEq, List.getElem?_cons_zero, List.getElem?_cons_succ, List.set_cons_zero, List.set_cons_succ, List.length_cons, List.length_nil, List.cons_append, List.nil_append, List.replicate_succ, List.replicate_zero, Nat.reduceAdd, Nat.reduceSub, Nat.add_zero, Nat.zero_add, Nat.sub_self, RF.seqI, RF.seqD, RF.wipeE, RF.restE, Option.getD_some, RF.ix_lst0, RF.ix_tup0, RF.ixN_0, RF.ix_lst1, RF.ix_tup1, RF.ixN_1, RF.ix_lst2, RF.ix_tup2, RF.ixN_2, RF.ix_lst3, RF.ix_tup3, RF.ixN_3, RF.ix_lst4, RF.ix_tup4, RF.ixN_4, RF.ix_lst5, RF.ix_tup5, RF.ixN_5, RF.ix_lst6, RF.ix_tup6, RF.ixN_6, RF.ix_lst7, RF.ix_tup7, RF.ixN_7, RF.ix_lst8, RF.ix_tup8, RF.ixN_8, RF.add_int, RF.dSub, RF.dMul, RF.dFdiv, RF.dMod, RF.dPow, RF.eq_int, RF.eq_str, RF.ne_int, RF.ne_str, RF.dLt, RF.le_int, RF.gt_int, RF.ge_int, RF.dIs, RF.dLen, RF.dAbs, RF.dInt, RF.dList, RF.dTup, RF.dAll, RF.dAny, RF.dSum, RF.dMax2, RF.dMin2, RF.truthD, RF.isNon, ht, q__law_one_of, p10.tg]
        refine oneW h (by simp) (by simp) fun e o t he h ht => ?_
        have hes : smD e = true := odd_sm hsm1 hxs (by omega) (by omega) (by omega) he
        simp -dsimp -implicitDefEqProofs only [RF.w_seq, RF.w_if, RF.w_asg, RF.w_ret, RF.w_drop, RF.w_nx, RF.w_run, RF.w_C, RF.w_var, RF.w_mv, RF.w_D, RF.w_V, RF.w_ev, RF.w_lv, RF.w_op, RF.w_T, RF.w_B, RF.w_notT, RF.w_andT, RF.w_orT, RF.w_andV, RF.w_orV, RF.w_not, RF.w_neg, RF.w_CB, RF.w_pre0, RF.w_pre, RF.w_isi, RF.w_evs0, RF.w_evs, RF.w_tup, RF.w_lst, RF.w_part0, RF.w_part, RF.w_sl, RF.w_call, RF.w_call0, RF.w_app, RF.w_ext, RF.w_ins, RF.w_pop, RF.w_setI, RF.w_aug, RF.w_asgT, RF.w_for, RF.w_for0, RF.w_for1, RF.w_it, RF.w_enum, RF.w_rng1, RF.w_rng2, RF.w_lc, RF.w_lc0, RF.w_lc1, RF.w_chain, RF.w_lam, RF.w_bnd, RF.oK_some, RF.oK_none, RF.oK_ite, RF.ifK_true, RF.ifK_false, RF.ifK_not, RF.seqK_nx, RF.seqK_bk, RF.seqK_ct, RF.seqK_rt, RF.stO_un, RF.stO_va, RF.stO_ow, RF.retK_rt, RF.retK_nx, RF.back_nil, RF.back_ow, RF.back_va, RF.varK_va, RF.varK_ow, RF.toD_lst, RF.toD_dct, RF.mvK_va, RF.mvK_ow, RF.rvK_va, RF.rvK_ow, RF.rdS_va, RF.rdS_ow, RF.fin_ev, RF.fin_lv, RF.ap2_some, RF.blK_bl, RF.negD, RF.cons2_some, RF.finL_nil, RF.finL_cons, RF.intK_int, RF.mkA_nil, RF.mkA_ev, RF.mkS_ow, RF.mkA_lv, RF.putA_nil, RF.putA_ev, RF.putS_ow, RF.putA_lv, RF.owS_ow, RF.vaS_va, RF.tgN_eq, RF.tgO_un, RF.tgO_va, RF.tgO_ow, RF.tgT_tup, RF.tgL_nil, RF.tgL_cons, RF.forK_nx, RF.forK_ct, RF.forK_bk, RF.forK_rt, RF.asV, Option.map_some, Option.map_none, Option.bind_some, Option.bind_none, Option.some.injEq, List.getElem?_cons_zero, List.getElem?_cons_succ, List.set_cons_zero, List.set_cons_succ, List.length_cons, List.length_nil, List.cons_append, List.nil_append, List.replicate_succ, List.replicate_zero, Nat.reduceAdd, Nat.reduceSub, Nat.add_zero, Nat.zero_add, Nat.sub_self, RF.seqI, RF.seqD, RF.wipeE, RF.restE, Option.getD_some, RF.ix_lst0, RF.ix_tup0, RF.ixN_0, RF.ix_lst1, RF.ix_tup1, RF.ixN_1, RF.ix_lst2, RF.ix_tup2, RF.ixN_2, RF.ix_lst3, RF.ix_tup3, RF.ixN_3, RF.ix_lst4, RF.ix_tup4, RF.ixN_4, RF.ix_lst5, RF.ix_tup5, RF.ixN_5, RF.ix_lst6, RF.ix_tup6, RF.ixN_6, RF.ix_lst7, RF.ix_tup7, RF.ixN_7, RF.ix_lst8, RF.ix_tup8, RF.ixN_8, RF.add_int, RF.dSub, RF.dMul, RF.dFdiv, RF.dMod, RF.dPow, RF.eq_int, RF.eq_str, RF.ne_int, RF.ne_str, RF.dLt, RF.le_int, RF.gt_int, RF.ge_int, RF.dIs, RF.dLen, RF.dAbs, RF.dInt, RF.dList, RF.dTup, RF.dAll, RF.dAny, RF.dSum, RF.dMax2, RF.dMin2, RF.truthD, RF.isNon, ht, p10.tg, wp_of (f_test ps hps d1 hs1), wp_of (f_good ps hps d1 hs1), wp_of (says_eq _), wp_of (f_test ps hps e hes), wp_of (f_good ps hps e hes)]
        exact ⟨o, _, _, _, _, _, _, h, .va, .va, .va, .va, .va, .va, rfl⟩
      · rintro r ⟨o, s5, s6, s7, s8, s9, s10, h, p5, p6, p7, p8, p9, p10, rfl⟩
        simp -dsimp -implicitDefEqProofs only [RF.w_seq, RF.w_if, RF.w_asg, RF.w_ret, RF.w_drop, RF.w_nx, RF.w_run, RF.w_C, RF.w_var, RF.w_mv, RF.w_D, RF.w_V, RF.w_ev, RF.w_lv, RF.w_op, RF.w_T, RF.w_B, RF.w_notT, RF.w_andT, RF.w_orT, RF.w_andV, RF.w_orV, RF.w_not, RF.w_neg, RF.w_CB, RF.w_pre0, RF.w_pre, RF.w_isi, RF.w_evs0, RF.w_evs, RF.w_tup, RF.w_lst, RF.w_part0, RF.w_part, RF.w_sl, RF.w_call, RF.w_call0, RF.w_app, RF.w_ext, RF.w_ins, RF.w_pop, RF.w_setI, RF.w_aug, RF.w_asgT, RF.w_for, RF.w_for0, RF.w_for1, RF.w_it, RF.w_enum, RF.w_rng1, RF.w_rng2, RF.w_lc, RF.w_lc0, RF.w_lc1, RF.w_chain, RF.w_lam, RF.w_bnd, RF.oK_some, RF.oK_none, RF.oK_ite, RF.ifK_true, RF.ifK_false, RF.ifK_not, RF.seqK_nx, RF.seqK_bk, RF.seqK_ct, RF.seqK_rt, RF.stO_un, RF.stO_va, RF.stO_ow, RF.retK_rt, RF.retK_nx, RF.back_nil, RF.back_ow, RF.back_va, RF.varK_va, RF.varK_ow, RF.toD_lst, RF.toD_dct, RF.mvK_va, RF.mvK_ow, RF.rvK_va, RF.rvK_ow, RF.rdS_va, RF.rdS_ow, RF.fin_ev, RF.fin_lv, RF.ap2_some, RF.blK_bl, RF.negD, RF.cons2_some, RF.finL_nil, RF.finL_cons, RF.intK_int, RF.mkA_nil, RF.mkA_ev, RF.mkS_ow, RF.mkA_lv, RF.putA_nil, RF.putA_ev, RF.putS_ow, RF.putA_lv, RF.owS_ow, RF.vaS_va, RF.tgN_eq, RF.tgO_un, RF.tgO_va, RF.tgO_ow, RF.tgT_tup, RF.tgL_nil, RF.tgL_cons, RF.forK_nx, RF.forK_ct, RF.forK_bk, RF.forK_rt, RF.asV, Option.map_some, Option.map_none, Option.bind_some, Option.bind_none, Option.some.injEq, List.getElem?_cons_zero, List.getElem?_cons_succ, List.set_cons_zero, List.set_cons_succ, List.length_cons, List.length_nil, List.cons_append, List.nil_append, List.replicate_succ, List.replicate_zero, Nat.reduceAdd, Nat.reduceSub, Nat.add_zero, Nat.zero_add, Nat.sub_self, RF.seqI, RF.seqD, RF.wipeE, RF.restE, Option.getD_some, RF.ix_lst0, RF.ix_tup0, RF.ixN_0, RF.ix_lst1, RF.ix_tup1, RF.ixN_1, RF.ix_lst2, RF.ix_tup2, RF.ixN_2, RF.ix_lst3, RF.ix_tup3, RF.ixN_3, RF.ix_lst4, RF.ix_tup4, RF.ixN_4, RF.ix_lst5, RF.ix_tup5, RF.ixN_5, RF.ix_lst6, RF.ix_tup6, RF.ixN_6, RF.ix_lst7, RF.ix_tup7, RF.ixN_7, RF.ix_lst8, RF.ix_tup8, RF.ixN_8, RF.add_int, RF.dSub, RF.dMul, RF.dFdiv, RF.dMod, RF.dPow, RF.eq_int, RF.eq_str, RF.ne_int, RF.ne_str, RF.dLt, RF.le_int, RF.gt_int, RF.ge_int, RF.dIs, RF.dLen, RF.dAbs, RF.dInt, RF.dList, RF.dTup, RF.dAll, RF.dAny, RF.dSum, RF.dMax2, RF.dMin2, RF.truthD, RF.isNon]
end K00

open PySem PySem.W PyProof.Rows RF
set_option maxRecDepth 100000 in
set_option maxHeartbeats 0 in
theorem PySem.Challenge.cw_testsenough_k00_is_test_holds : PySem.Challenge.rw_testsenough_k00_is_test.Holds := by
  w_on; o_law; k_head; (case hw => w_witness2)
  k_fill
  refine L2.walk_of (l := PySem.Challenge.rw_testsenough_k00_is_test) (n := 63) (k := 23) (x := "script") (CX := fun w => L2.CX PySem.Challenge.rw_testsenough_k00_is_test.prog w) (sp := fun w => spF _ K00.F_law 1) rfl (by decide) rfl ⟨rfl, by decide, by decide⟩ (fun w h Y => PySem.W.kIn_of Y) ?F (fun _ _ a ns hl _ hS => law_end hS (K00.law_true ns hl)) (fun _ _ _ _ _ h => cx_false h)
  case F =>
    intro w mg fa h KX G hmg
    refine' K00.law_fd ?T ?D hmg
    case T =>
      refine' ⟨(def_mk KX G (fun _ _ _ _ _ _ us hl => match us, hl with | [_], _ => rfl) ?a_is_integer ?l_is_integer ?c_is_integer ?k_is_integer).ok,
        (def_mk KX G (fun _ _ _ _ _ _ us hl => match us, hl with | [_, _], _ => rfl) ?a_is_tuple ?l_is_tuple ?c_is_tuple ?k_is_tuple).ok,
        (def_mk KX G (fun _ _ _ _ _ _ us hl => match us, hl with | [_, _], _ => rfl) ?a_proc_named ?l_proc_named ?c_proc_named ?k_proc_named).ok,
        (def_mk KX G (fun _ _ _ _ _ _ us hl => match us, hl with | [_], _ => rfl) ?a_are_integers ?l_are_integers ?c_are_integers ?k_are_integers).ok,
        (def_mk KX G (fun _ _ _ _ _ _ us hl => match us, hl with | [_, _], _ => rfl) ?a_is_value ?l_is_value ?c_is_value ?k_is_value).ok,
        (def_mk KX G (fun _ _ _ _ _ _ us hl => match us, hl with | [_, _], _ => rfl) ?a_is_test ?l_is_test ?c_is_test ?k_is_test).ok,
        (def_mk KX G (fun _ _ _ _ _ _ us hl => match us, hl with | [_], _ => rfl) ?a__law_start ?l__law_start ?c__law_start ?k__law_start).ok,
        (def_mk KX G (fun _ _ _ _ _ _ us hl => match us, hl with | [_, _], _ => rfl) ?a__law_draw ?l__law_draw ?c__law_draw ?k__law_draw).ok,
        (def_mk KX G (fun _ _ _ _ _ _ us hl => match us, hl with | [_, _], _ => rfl) ?a__law_one_of ?l__law_one_of ?c__law_one_of ?k__law_one_of).ok,
        (def_mk KX G (fun _ _ _ _ _ _ us hl => match us, hl with | [_, _], _ => rfl) ?a__law_words ?l__law_words ?c__law_words ?k__law_words).ok,
        (def_mk KX G (fun _ _ _ _ _ _ us hl => match us, hl with | [_], _ => rfl) ?a__law_is_int ?l__law_is_int ?c__law_is_int ?k__law_is_int).ok,
        (def_mk KX G (fun _ _ _ _ _ _ us hl => match us, hl with | [_, _, _], _ => rfl) ?a__law_bent ?l__law_bent ?c__law_bent ?k__law_bent).ok,
        (def_mk KX G (fun _ _ _ _ _ _ us hl => match us, hl with | [_, _], _ => rfl) ?a__law_says ?l__law_says ?c__law_says ?k__law_says).ok,
        (def_mk KX G (fun _ _ _ _ _ _ us hl => match us, hl with | [_, _], _ => rfl) ?a__law_are_ints ?l__law_are_ints ?c__law_are_ints ?k__law_are_ints).ok,
        (def_mk KX G (fun _ _ _ _ _ _ us hl => match us, hl with | [_], _ => rfl) ?a__law_shape_core ?l__law_shape_core ?c__law_shape_core ?k__law_shape_core).ok,
        (def_mk KX G (fun _ _ _ _ _ _ us hl => match us, hl with | [_, _], _ => rfl) ?a__law_good_test ?l__law_good_test ?c__law_good_test ?k__law_good_test).ok,
        (def_mk KX G (fun _ _ _ _ _ _ us hl => match us, hl with | [_, _], _ => rfl) ?a__law_is_good ?l__law_is_good ?c__law_is_good ?k__law_is_good).ok,
        (PySem.W.mg_none_of KX G ?z_isinstance),
        (PySem.W.mg_none_of KX G ?z_bool),
        (PySem.W.mg_none_of KX G ?z_int),
        (PySem.W.mg_none_of KX G ?z_len),
        (PySem.W.mg_none_of KX G ?z_tuple),
        (PySem.W.mg_none_of KX G ?z_all),
        (PySem.W.mg_none_of KX G ?z_zip),
        (PySem.W.mg_none_of KX G ?z_list),
        (PySem.W.mg_none_of KX G ?z_abs),
        (PySem.W.mg_none_of KX G ?z_range),
        (PySem.W.mg_none_of KX G ?z_str),
        (PySem.W.mg_none_of KX G ?z_sorted)⟩
      (case a_is_integer => k_is); (case l_is_integer => k_is); (case c_is_integer => k_is); (case k_is_integer => k_is); (case a_is_tuple => k_is); (case l_is_tuple => k_is)
      (case c_is_tuple => k_is); (case k_is_tuple => k_is); (case a_proc_named => k_is); (case l_proc_named => k_is); (case c_proc_named => k_is); (case k_proc_named => k_is)
      (case a_are_integers => k_is); (case l_are_integers => k_is); (case c_are_integers => k_is); (case k_are_integers => k_is); (case a_is_value => k_is); (case l_is_value => k_is)
      (case c_is_value => k_is); (case k_is_value => k_is); (case a_is_test => k_is); (case l_is_test => k_is); (case c_is_test => k_is); (case k_is_test => k_is)
      (case a__law_start => k_is); (case l__law_start => k_is); (case c__law_start => k_is); (case k__law_start => k_is); (case a__law_draw => k_is); (case l__law_draw => k_is)
      (case c__law_draw => k_is); (case k__law_draw => k_is); (case a__law_one_of => k_is); (case l__law_one_of => k_is); (case c__law_one_of => k_is); (case k__law_one_of => k_is)
      (case a__law_words => k_is); (case l__law_words => k_is); (case c__law_words => k_is); (case k__law_words => k_is); (case a__law_is_int => k_is); (case l__law_is_int => k_is)
      (case c__law_is_int => k_is); (case k__law_is_int => k_is); (case a__law_bent => k_is); (case l__law_bent => k_is); (case c__law_bent => k_is); (case k__law_bent => k_is)
      (case a__law_says => k_is); (case l__law_says => k_is); (case c__law_says => k_is); (case k__law_says => k_is); (case a__law_are_ints => k_is); (case l__law_are_ints => k_is)
      (case c__law_are_ints => k_is); (case k__law_are_ints => k_is); (case a__law_shape_core => k_is); (case l__law_shape_core => k_is); (case c__law_shape_core => k_is); (case k__law_shape_core => k_is)
      (case a__law_good_test => k_is); (case l__law_good_test => k_is); (case c__law_good_test => k_is); (case k__law_good_test => k_is); (case a__law_is_good => k_is); (case l__law_is_good => k_is)
      (case c__law_is_good => k_is); (case k__law_is_good => k_is); (case z_isinstance => k_is); (case z_bool => k_is); (case z_int => k_is); (case z_len => k_is)
      (case z_tuple => k_is); (case z_all => k_is); (case z_zip => k_is); (case z_list => k_is); (case z_abs => k_is); (case z_range => k_is)
      (case z_str => k_is); (case z_sorted => k_is)
    case D =>
      refine' def_mk KX G (fun _ _ _ _ _ _ us hl => match us, hl with | [_], _ => rfl) ?a_law ?l_law ?c_law ?k_law
      (case a_law => k_is); (case l_law => k_is); (case c_law => k_is); (case k_law => k_is)
