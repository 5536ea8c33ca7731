import PyProof.Rows.All
import HandS.ForMost
import HandS.ForExc
import HandS.ExcInit
import HandS.IsInst
import HandS.Wide
import HandS.WideBits
import HandS.CallSlots
import HandS.TryMany
import HandS.Style
import HandS.Flow
import HandS.TupAny
import HandS.TupMul
import HandS.Zip
import HandS.Defaults
import KE.KOpsOwn
import KE.KExcSuper
import HandS.ExcField
import PyProof.TupleOfStr
import HandS.StrMore
import HandS.Text
import HandS.EndBits
import PyProof.Fits
import KE.IntTextLaws
import Wide.All
import OpenK.AllK
import Wide.FinOn
import PySem.Challenge.RW_hingeworks_k02_ratio_texts
import KE.RegKSuper
import KE.RegKIsAll
set_option Elab.async false
set_option linter.all false
set_option maxRecDepth 100000
/-! Data: what a value is, with no heap in sight; how data stand in a heap. -/
namespace DL
open PySem L2

/-- data. cel n: a thing that changes, by its number -/
inductive D where
  | non | bl (b : Bool) | int (i : Int) | str (s : Str)
  | tup (xs : List D) | lst (xs : List D) | rol (xs : List D) | ins (c : Nat) (xs : List D) | cel (n : Nat)

/-- a thing that changes -/
inductive MO where
  | lst (xs : List D) | dic (kvs : List (Key × D)) | obj (c : Nat) (ns : List Str) (xs : List D) | dead

/-- a slot: nothing; data; a list of one's own; an instance that is being made; a caught error -/
inductive Sl where
  | mt | d (x : D) | own (xs : List D) | obj (c : Nat) (ns : List Str) (xs : List D) | exn (c : Nat) (xs : List D)

inductive R (α : Type) where
  | ok (a : α) (M : List MO) | ex (c : Nat) (xs : List D) (M : List MO) | bad
inductive RS where
  | nx (ρ : List Sl) (M : List MO) | rt (d : D) (M : List MO) | bk (ρ : List Sl) (M : List MO) | ct (ρ : List Sl) (M : List MO)
  | ex (c : Nat) (xs : List D) (ρ : List Sl) (M : List MO) | bad

abbrev FE := List Sl → List MO → R D
abbrev FT := List Sl → List MO → R Bool
abbrev FA := List Sl → List MO → R (List D)
abbrev FS := List Sl → List MO → RS

def R.bind {α β : Type} (r : R α) (k : α → List MO → R β) : R β :=
  match r with
  | .ok a M => k a M
  | .ex c xs M => .ex c xs M
  | .bad => .bad
def R.sbind {α : Type} (ρ : List Sl) (r : R α) (k : α → List MO → RS) : RS :=
  match r with
  | .ok a M => k a M
  | .ex c xs M => .ex c xs ρ M
  | .bad => .bad
@[simp] theorem R.bind_ok {α β : Type} (a : α) (M : List MO) (k : α → List MO → R β) : R.bind (.ok a M) k = k a M := rfl
@[simp] theorem R.bind_ex {α β : Type} (c : Nat) (xs : List D) (M : List MO) (k : α → List MO → R β) : R.bind (.ex c xs M : R α) k = .ex c xs M := rfl
@[simp] theorem R.bind_bad {α β : Type} (k : α → List MO → R β) : R.bind (.bad : R α) k = .bad := rfl
@[simp] theorem R.sbind_ok {α : Type} (ρ : List Sl) (a : α) (M : List MO) (k : α → List MO → RS) : R.sbind ρ (.ok a M) k = k a M := rfl
@[simp] theorem R.sbind_ex {α : Type} (ρ : List Sl) (c : Nat) (xs : List D) (M : List MO) (k : α → List MO → RS) : R.sbind ρ (.ex c xs M : R α) k = .ex c xs ρ M := rfl
@[simp] theorem R.sbind_bad {α : Type} (ρ : List Sl) (k : α → List MO → RS) : R.sbind ρ (.bad : R α) k = .bad := rfl

/-- where the text's classes stand; the names of their fields -/
structure Gam where
  K : PySem.W.Frag
  cA : Nat → Addr
  eA : Nat → Addr
  xa : Option (Addr × Nat × Addr) := none
/-- the fields of each class, in the order in which they are stored -/
def cn : Nat → List Str
  | 0 => ["top", "bottom"]
  | 1 => ["fixed", "slopes", "size", "is_number", "row"]
  | 2 => ["rows", "size"]
  | 3 => ["size", "free", "held", "bottom", "lines", "plane_bottom"]
  | _ => []
/-- the fields of each error, the last one first -/
def en : Nat → List Str
  | 1 => ["column", "line"]
  | 2 => ["name"]
  | 3 => ["number", "what"]
  | 4 => ["what"]
  | 5 => ["place"]
  | 6 => ["row"]
  | 7 => ["row"]
  | 8 => ["digits"]
  | 9 => ["limit", "many", "what"]
  | 10 => ["limit", "many", "what"]
  | 11 => ["what"]
  | 12 => []
  | 13 => ["name"]
  | 14 => []
  | 15 => ["rank"]
  | 16 => ["name"]
  | 17 => ["name"]
  | 18 => ["name"]
  | 19 => ["name"]
  | 20 => ["given", "promise"]
  | _ => []

section
variable (Γ : Gam) (as : List Addr) (G : Hp)
mutual
def Rep : D → V → Prop
  | .non, v => v = .non
  | .bl b, v => v = .bl b
  | .int i, v => v = .int i
  | .str s, v => v = .str s
  | .tup xs, v => ∃ a vs, v = .ref a ∧ SqT Γ.K G a vs ∧ RepL xs vs
  | .lst xs, v => ∃ a vs, v = .ref a ∧ G a = some (.lst vs) ∧ RepL xs vs
  | .rol xs, v => ∃ a vs, v = .ref a ∧ SqL Γ.K G a vs ∧ RepL xs vs
  | .ins c xs, v => ∃ a dx vs, v = .ref a ∧ G a = some (.ins (Γ.cA c) dx ((DL.cn c).zip vs)) ∧ vs.length = (DL.cn c).length ∧ RepL xs vs
  | .cel n, v => ∃ a, as[n]? = some a ∧ v = .ref a
def RepL : List D → List V → Prop
  | [], vs => vs = []
  | x :: xs, vs => ∃ v ws, vs = v :: ws ∧ Rep x v ∧ RepL xs ws
end
end

/-- the heap grows -/
def Le (H H' : Hp) : Prop := ∀ a o, H a = some o → H' a = some o
theorem Le.refl (H : Hp) : Le H H := fun _ _ h => h
theorem Le.trans {H H1 H2 : Hp} (a : Le H H1) (b : Le H1 H2) : Le H H2 := fun x o h => b x o (a x o h)
theorem Le.new {H : Hp} {p : Addr} {o : HO} (h : H p = none) : Le H (upd H p o) := fun a u e => by
  rw [upd_ne (ne_of_none e h)]; exact e
theorem Le.free {H H' : Hp} {p : Addr} (e : Le H H') (h : H' p = none) : H p = none := by
  cases h1 : H p with
  | none => rfl
  | some o => rw [e p o h1] at h; cases h
theorem Le.rd {H H' : Hp} {a : Addr} {u : HO} (e : Le H H') (h : Rd H a u) : Rd H' a u := by
  rcases h with h | ⟨o, h⟩
  · exact .inl (e a _ h)
  · exact .inr ⟨o, e a _ h⟩
theorem Le.sl {K : PySem.W.Frag} {H H' : Hp} {a : Addr} {xs : List V} (e : Le H H') (h : SqL K H a xs) : SqL K H' a xs := by
  rcases h with h | h
  · exact .inl (e.rd h)
  · exact .inr h
theorem Le.st {K : PySem.W.Frag} {H H' : Hp} {a : Addr} {xs : List V} (e : Le H H') (h : SqT K H a xs) : SqT K H' a xs := by
  rcases h with h | h
  · exact .inl (e.rd h)
  · exact .inr h

section
variable {Γ : Gam} {as as' : List Addr} {G G' : Hp}
theorem pre_get {α : Type} {l l' : List α} (h : l <+: l') {i : Nat} {x : α} (e : l[i]? = some x) : l'[i]? = some x := by
  obtain ⟨t, rfl⟩ := h
  rw [List.getElem?_append_left]
  · exact e
  · exact (List.getElem?_eq_some_iff.mp e).1
mutual
theorem Rep.mono (hG : Le G G') (ha : as <+: as') : ∀ {d : D} {v : V}, Rep Γ as G d v → Rep Γ as' G' d v
  | .non, _, h => h
  | .bl _, _, h => h
  | .int _, _, h => h
  | .str _, _, h => h
  | .tup xs, v, h => by
    obtain ⟨a, vs, e, s, r⟩ := h
    exact ⟨a, vs, e, hG.st s, RepL.mono hG ha r⟩
  | .lst xs, v, h => by
    obtain ⟨a, vs, e, s, r⟩ := h
    exact ⟨a, vs, e, hG _ _ s, RepL.mono hG ha r⟩
  | .rol xs, v, h => by
    obtain ⟨a, vs, e, s, r⟩ := h
    exact ⟨a, vs, e, hG.sl s, RepL.mono hG ha r⟩
  | .ins c xs, v, h => by
    obtain ⟨a, dx, vs, e, s, l, r⟩ := h
    exact ⟨a, dx, vs, e, hG _ _ s, l, RepL.mono hG ha r⟩
  | .cel n, v, h => by
    obtain ⟨a, e, r⟩ := h
    exact ⟨a, pre_get ha e, r⟩
theorem RepL.mono (hG : Le G G') (ha : as <+: as') : ∀ {xs : List D} {vs : List V}, RepL Γ as G xs vs → RepL Γ as' G' xs vs
  | [], _, h => h
  | x :: xs, vs, h => by
    obtain ⟨v, ws, e, r, t⟩ := h
    exact ⟨v, ws, e, Rep.mono hG ha r, RepL.mono hG ha t⟩
end
theorem RepL.length : ∀ {xs : List D} {vs : List V}, RepL Γ as G xs vs → xs.length = vs.length
  | [], _, h => by cases h; rfl
  | x :: xs, vs, h => by
    obtain ⟨v, ws, e, r, t⟩ := h
    subst e
    simp [RepL.length t]
theorem RepL.get : ∀ {xs : List D} {vs : List V} {i : Nat} {d : D}, RepL Γ as G xs vs → xs[i]? = some d → ∃ v, vs[i]? = some v ∧ Rep Γ as G d v
  | [], _, _, _, _, e => by simp at e
  | x :: xs, vs, 0, d, h, e => by
    obtain ⟨v, ws, rfl, r, t⟩ := h
    simp at e; subst e
    exact ⟨v, rfl, r⟩
  | x :: xs, vs, i + 1, d, h, e => by
    obtain ⟨v, ws, rfl, r, t⟩ := h
    simpa using RepL.get (i := i) t (by simpa using e)
theorem RepL.nil : RepL Γ as G [] [] := rfl
theorem RepL.cons {d : D} {v : V} {ds : List D} {vs : List V} (h : Rep Γ as G d v) (t : RepL Γ as G ds vs) : RepL Γ as G (d :: ds) (v :: vs) := ⟨v, vs, rfl, h, t⟩
theorem RepL.append : ∀ {xs ys : List D} {vs ws : List V}, RepL Γ as G xs vs → RepL Γ as G ys ws → RepL Γ as G (xs ++ ys) (vs ++ ws)
  | [], _, _, _, h, t => by cases h; exact t
  | x :: xs, ys, vs, ws, h, t => by
    obtain ⟨v, us, rfl, r, q⟩ := h
    exact ⟨v, us ++ ws, rfl, r, RepL.append q t⟩
theorem RepL.set : ∀ {xs : List D} {vs : List V} {d : D} {v : V} (i : Nat), RepL Γ as G xs vs → Rep Γ as G d v → RepL Γ as G (xs.set i d) (vs.set i v)
  | [], _, _, _, _, h, _ => by cases h; exact RepL.nil
  | x :: xs, vs, d, v, 0, h, r => by
    obtain ⟨w, us, rfl, _, q⟩ := h
    exact ⟨v, us, rfl, r, q⟩
  | x :: xs, vs, d, v, i + 1, h, r => by
    obtain ⟨w, us, rfl, r0, q⟩ := h
    exact ⟨w, us.set i v, rfl, r0, RepL.set i q r⟩
theorem RepL.drop : ∀ {xs : List D} {vs : List V} (n : Nat), RepL Γ as G xs vs → RepL Γ as G (xs.drop n) (vs.drop n)
  | _, _, 0, h => h
  | [], _, n + 1, h => by cases h; exact RepL.nil
  | x :: xs, vs, n + 1, h => by
    obtain ⟨w, us, rfl, _, q⟩ := h
    exact RepL.drop n q
theorem RepL.take : ∀ {xs : List D} {vs : List V} (n : Nat), RepL Γ as G xs vs → RepL Γ as G (xs.take n) (vs.take n)
  | _, _, 0, _ => RepL.nil
  | [], _, n + 1, h => by cases h; exact RepL.nil
  | x :: xs, vs, n + 1, h => by
    obtain ⟨w, us, rfl, r, q⟩ := h
    exact ⟨w, us.take n, rfl, r, RepL.take n q⟩
theorem RepL.reverse : ∀ {xs : List D} {vs : List V}, RepL Γ as G xs vs → RepL Γ as G xs.reverse vs.reverse
  | [], _, h => by cases h; exact RepL.nil
  | x :: xs, vs, h => by
    obtain ⟨w, us, rfl, r, q⟩ := h
    rw [List.reverse_cons, List.reverse_cons]
    exact (RepL.reverse q).append (RepL.cons r RepL.nil)
end

/-- how a thing that changes stands -/
def RepKV (Γ : Gam) (as : List Addr) (G : Hp) : List (Key × D) → List (Key × V) → Prop
  | [], vs => vs = []
  | x :: xs, vs => ∃ v ws, vs = (x.1, v) :: ws ∧ Rep Γ as G x.2 v ∧ RepKV Γ as G xs ws
theorem RepKV.mono {Γ : Gam} {as as' : List Addr} {G G' : Hp} (hG : Le G G') (ha : as <+: as') : ∀ {xs : List (Key × D)} {vs : List (Key × V)}, RepKV Γ as G xs vs → RepKV Γ as' G' xs vs
  | [], _, h => h
  | x :: xs, vs, h => by
    obtain ⟨v, ws, e, r, t⟩ := h
    exact ⟨v, ws, e, Rep.mono hG ha r, RepKV.mono hG ha t⟩
def RepM (Γ : Gam) (as : List Addr) (G H : Hp) (a : Addr) : MO → Prop
  | .lst xs => ∃ vs, H a = some (.lst vs) ∧ RepL Γ as G xs vs
  | .dic kvs => ∃ ws, H a = some (.dK ws) ∧ RepKV Γ as G kvs ws
  | .obj c ns xs => ∃ dx vs, H a = some (.ins (Γ.cA c) dx (ns.zip vs)) ∧ vs.length = ns.length ∧ RepL Γ as G xs vs
  | .dead => True
theorem RepM.mono {Γ : Gam} {as as' : List Addr} {G G' H H' : Hp} {a : Addr} {m : MO} (hG : Le G G') (ha : as <+: as') (e : H' a = H a) (h : RepM Γ as G H a m) : RepM Γ as' G' H' a m := by
  cases m with
  | lst xs => obtain ⟨vs, q, r⟩ := h; exact ⟨vs, e.trans q, r.mono hG ha⟩
  | dic kvs => obtain ⟨vs, q, r⟩ := h; exact ⟨vs, e.trans q, r.mono hG ha⟩
  | obj c ns xs => obtain ⟨dx, vs, q, l, r⟩ := h; exact ⟨dx, vs, e.trans q, l, r.mono hG ha⟩
  | dead => trivial

/-- the entry: its heap, its cells, its ground; what may change -/
structure Ent where
  H : Hp
  as : List Addr
  G : Hp
  mu : Addr → Prop
  sf : Option Addr

/-- the cells and the ground, seen from the entry -/
structure St2 (Γ : Gam) (Θ : Ent) (as : List Addr) (G : Hp) (M : List MO) (H : Hp) : Prop where
  sub : Le G H
  grow : Le Θ.G G
  ext : Θ.as <+: as
  esub : ∀ a ∈ Θ.as, Θ.mu a
  fr : ∀ a o, Θ.H a = some o → ¬ Θ.mu a → H a = some o
  pres : ∀ a o, Θ.H a = some o → ∃ o', H a = some o'
  gfr : ∀ a o, G a = some o → Θ.G a = some o ∨ Θ.H a = none ∨ Θ.mu a
  len : as.length = M.length
  nd : as.Nodup
  cel : ∀ (n : Nat) (a : Addr) (m : MO), as[n]? = some a → M[n]? = some m → m ≠ .dead → G a = none ∧ (∃ o, H a = some o) ∧ RepM Γ as G H a m
  cfr : ∀ a ∈ as, a ∈ Θ.as ∨ Θ.H a = none
  ain : ∀ a ∈ as, ∃ o, H a = some o

/-- of an exception: its class, its own dict -/
def XP (Γ : Gam) (as : List Addr) (G : Hp) (c : Nat) (xs : List D) (d : Addr) : Prop := ∃ vs, G d = some (.xd ((DL.en c).zip vs)) ∧ vs.length = (DL.en c).length ∧ RepL Γ as G xs vs
theorem XP.mono {Γ : Gam} {as as' : List Addr} {G G' : Hp} {c : Nat} {xs : List D} {d : Addr} (hG : Le G G') (ha : as <+: as') (h : XP Γ as G c xs d) : XP Γ as' G' c xs d := by
  obtain ⟨vs, e, l, r⟩ := h
  exact ⟨vs, hG _ _ e, l, r.mono hG ha⟩
/-- a slot that owns what stands at a -/
def Owns (ρ : List Sl) (σ : L2.St) (i : Nat) (a : Addr) : Prop :=
  ((∃ xs, ρ[i]? = some (.own xs)) ∨ ∃ c ns xs, ρ[i]? = some (.obj c ns xs)) ∧ σ[i]? = some (some (.ref a))
def RepS (Γ : Gam) (as : List Addr) (G H : Hp) : Sl → Option V → Prop
  | .mt, _ => True
  | .d x, ov => ∃ v, ov = some v ∧ Rep Γ as G x v
  | .own xs, ov => ∃ a vs, ov = some (.ref a) ∧ H a = some (.lst vs) ∧ RepL Γ as G xs vs
  | .obj c ns xs, ov => ∃ a dx vs, ov = some (.ref a) ∧ H a = some (.ins (Γ.cA c) dx (ns.zip vs)) ∧ vs.length = ns.length ∧ RepL Γ as G xs vs
  | .exn c xs, ov => ∃ a d, ov = some (.ref a) ∧ Γ.xa = some (a, c, d) ∧ XP Γ as G c xs d
structure Sta (Γ : Gam) (Θ : Ent) (as : List Addr) (G : Hp) (M : List MO) (ρ : List Sl) (σ : L2.St) (H : Hp) : Prop extends St2 Γ Θ as G M H where
  slen : ρ.length = σ.length
  env : ∀ (i : Nat) (s : Sl) (ov : Option V), ρ[i]? = some s → σ[i]? = some ov → RepS Γ as G H s ov
  own : ∀ i a, Owns ρ σ i a → G a = none ∧ a ∉ as ∧ (Θ.H a = none ∨ Θ.mu a)
  odj : ∀ i j a, Owns ρ σ i a → Owns ρ σ j a → i = j
  slf : ∀ (i c : Nat) (ns : List Str) (xs : List D) (a : Addr), ρ[i]? = some (.obj c ns xs) → σ[i]? = some (some (.ref a)) → Θ.sf = some a

/-! ### what is wanted of a result -/
def PostE (Γ : Gam) (Θ : Ent) (W : WX) (ρ : List Sl) (σ : L2.St) (as : List Addr) (G : Hp) (Q : VK) : R D → Prop
  | .ok d M => ∀ as' G' H' v, Sta Γ Θ as' G' M ρ σ H' → Le G G' → as <+: as' → Rep Γ as' G' d v → Q v H'
  | .ex c xs M => ∀ as' G' H' d, Sta Γ Θ as' G' M ρ σ H' → Le G G' → as <+: as' → XP Γ as' G' c xs d → W (.ref (Γ.eA c)) (some d) σ H'
  | .bad => False
def PostT (Γ : Gam) (Θ : Ent) (W : WX) (ρ : List Sl) (σ : L2.St) (as : List Addr) (G : Hp) (Q : Bool → Hp → Prop) : R Bool → Prop
  | .ok b M => ∀ as' G' H', Sta Γ Θ as' G' M ρ σ H' → Le G G' → as <+: as' → Q b H'
  | .ex c xs M => ∀ as' G' H' d, Sta Γ Θ as' G' M ρ σ H' → Le G G' → as <+: as' → XP Γ as' G' c xs d → W (.ref (Γ.eA c)) (some d) σ H'
  | .bad => False
def PostA (Γ : Gam) (Θ : Ent) (W : WX) (ρ : List Sl) (σ : L2.St) (as : List Addr) (G : Hp) (Q : List V → Hp → Prop) : R (List D) → Prop
  | .ok ds M => ∀ as' G' H' vs, Sta Γ Θ as' G' M ρ σ H' → Le G G' → as <+: as' → RepL Γ as' G' ds vs → Q vs H'
  | .ex c xs M => ∀ as' G' H' d, Sta Γ Θ as' G' M ρ σ H' → Le G G' → as <+: as' → XP Γ as' G' c xs d → W (.ref (Γ.eA c)) (some d) σ H'
  | .bad => False
def PostS (Γ : Gam) (Θ : Ent) (W : WX) (D : Ends) : RS → Prop
  | .nx ρ M => ∀ as' G' σ' H', Sta Γ Θ as' G' M ρ σ' H' → D.nx σ' H'
  | .bk ρ M => ∀ as' G' σ' H', Sta Γ Θ as' G' M ρ σ' H' → D.bk σ' H'
  | .ct ρ M => ∀ as' G' σ' H', Sta Γ Θ as' G' M ρ σ' H' → D.ct σ' H'
  | .rt d M => ∀ as' G' H' v, St2 Γ Θ as' G' M H' → Rep Γ as' G' d v → D.rt v H'
  | .ex c xs ρ M => ∀ as' G' σ' H' d, Sta Γ Θ as' G' M ρ σ' H' → XP Γ as' G' c xs d → W (.ref (Γ.eA c)) (some d) σ' H'
  | .bad => False
def tE (Γ : Gam) (W : WX) (f : FE) : TE := fun σ H Q => ∃ Θ as G M ρ, Sta Γ Θ as G M ρ σ H ∧ PostE Γ Θ W ρ σ as G Q (f ρ M)
def tT (Γ : Gam) (W : WX) (f : FT) : TT := fun σ H Q => ∃ Θ as G M ρ, Sta Γ Θ as G M ρ σ H ∧ PostT Γ Θ W ρ σ as G Q (f ρ M)
def tA (Γ : Gam) (W : WX) (f : FA) : TA := fun σ H Q => ∃ Θ as G M ρ, Sta Γ Θ as G M ρ σ H ∧ PostA Γ Θ W ρ σ as G Q (f ρ M)
def tS (Γ : Gam) (W : WX) (f : FS) : TS := fun D σ H => ∃ Θ as G M ρ, Sta Γ Θ as G M ρ σ H ∧ PostS Γ Θ W D (f ρ M)

/-! ### how wishes weaken -/
section
variable {Γ : Gam} {Θ : Ent} {W : WX} {ρ : List Sl} {σ : L2.St} {as as1 : List Addr} {G G1 : Hp}
theorem PostE.imp {Q Q' : VK} {r : R D} (h : PostE Γ Θ W ρ σ as G Q r) (hG : Le G G1) (ha : as <+: as1) (q : ∀ v H, Q v H → Q' v H) : PostE Γ Θ W ρ σ as1 G1 Q' r := by
  cases r with
  | ok d M => exact fun as' G' H' v s e p x => q _ _ (h as' G' H' v s (hG.trans e) (ha.trans p) x)
  | ex c xs M => exact fun as' G' H' d s e p x => h as' G' H' d s (hG.trans e) (ha.trans p) x
  | bad => exact h
theorem PostT.imp {Q Q' : Bool → Hp → Prop} {r : R Bool} (h : PostT Γ Θ W ρ σ as G Q r) (hG : Le G G1) (ha : as <+: as1) (q : ∀ v H, Q v H → Q' v H) : PostT Γ Θ W ρ σ as1 G1 Q' r := by
  cases r with
  | ok d M => exact fun as' G' H' s e p => q _ _ (h as' G' H' s (hG.trans e) (ha.trans p))
  | ex c xs M => exact fun as' G' H' d s e p x => h as' G' H' d s (hG.trans e) (ha.trans p) x
  | bad => exact h
theorem PostA.imp {Q Q' : List V → Hp → Prop} {r : R (List D)} (h : PostA Γ Θ W ρ σ as G Q r) (hG : Le G G1) (ha : as <+: as1) (q : ∀ v H, Q v H → Q' v H) : PostA Γ Θ W ρ σ as1 G1 Q' r := by
  cases r with
  | ok d M => exact fun as' G' H' v s e p x => q _ _ (h as' G' H' v s (hG.trans e) (ha.trans p) x)
  | ex c xs M => exact fun as' G' H' d s e p x => h as' G' H' d s (hG.trans e) (ha.trans p) x
  | bad => exact h
/-- first r, then k: for each kind of a first and each kind of a second part -/
theorem PostE.bindE {Q : VK} {r : R D} {k : D → List MO → R D} (h : PostE Γ Θ W ρ σ as G Q (r.bind k)) :
    PostE Γ Θ W ρ σ as G (fun v H' => ∃ d M' as' G', Sta Γ Θ as' G' M' ρ σ H' ∧ Le G G' ∧ as <+: as' ∧ Rep Γ as' G' d v ∧ PostE Γ Θ W ρ σ as' G' Q (k d M')) r := by
  cases r with
  | ok d M => exact fun as' G' H' v s e p x => ⟨d, M, as', G', s, e, p, x, PostE.imp h e p fun _ _ z => z⟩
  | ex c xs M => exact h
  | bad => exact h
theorem PostE.bindT {Q : VK} {r : R Bool} {k : Bool → List MO → R D} (h : PostE Γ Θ W ρ σ as G Q (r.bind k)) :
    PostT Γ Θ W ρ σ as G (fun b H' => ∃ M' as' G', Sta Γ Θ as' G' M' ρ σ H' ∧ Le G G' ∧ as <+: as' ∧ PostE Γ Θ W ρ σ as' G' Q (k b M')) r := by
  cases r with
  | ok d M => exact fun as' G' H' s e p => ⟨M, as', G', s, e, p, PostE.imp h e p fun _ _ z => z⟩
  | ex c xs M => exact h
  | bad => exact h
theorem PostE.bindA {Q : VK} {r : R (List D)} {k : List D → List MO → R D} (h : PostE Γ Θ W ρ σ as G Q (r.bind k)) :
    PostA Γ Θ W ρ σ as G (fun vs H' => ∃ ds M' as' G', Sta Γ Θ as' G' M' ρ σ H' ∧ Le G G' ∧ as <+: as' ∧ RepL Γ as' G' ds vs ∧ PostE Γ Θ W ρ σ as' G' Q (k ds M')) r := by
  cases r with
  | ok d M => exact fun as' G' H' v s e p x => ⟨d, M, as', G', s, e, p, x, PostE.imp h e p fun _ _ z => z⟩
  | ex c xs M => exact h
  | bad => exact h
theorem PostT.bindE {Q : Bool → Hp → Prop} {r : R D} {k : D → List MO → R Bool} (h : PostT Γ Θ W ρ σ as G Q (r.bind k)) :
    PostE Γ Θ W ρ σ as G (fun v H' => ∃ d M' as' G', Sta Γ Θ as' G' M' ρ σ H' ∧ Le G G' ∧ as <+: as' ∧ Rep Γ as' G' d v ∧ PostT Γ Θ W ρ σ as' G' Q (k d M')) r := by
  cases r with
  | ok d M => exact fun as' G' H' v s e p x => ⟨d, M, as', G', s, e, p, x, PostT.imp h e p fun _ _ z => z⟩
  | ex c xs M => exact h
  | bad => exact h
theorem PostT.bindT {Q : Bool → Hp → Prop} {r : R Bool} {k : Bool → List MO → R Bool} (h : PostT Γ Θ W ρ σ as G Q (r.bind k)) :
    PostT Γ Θ W ρ σ as G (fun b H' => ∃ M' as' G', Sta Γ Θ as' G' M' ρ σ H' ∧ Le G G' ∧ as <+: as' ∧ PostT Γ Θ W ρ σ as' G' Q (k b M')) r := by
  cases r with
  | ok d M => exact fun as' G' H' s e p => ⟨M, as', G', s, e, p, PostT.imp h e p fun _ _ z => z⟩
  | ex c xs M => exact h
  | bad => exact h
theorem PostA.bindE {Q : List V → Hp → Prop} {r : R D} {k : D → List MO → R (List D)} (h : PostA Γ Θ W ρ σ as G Q (r.bind k)) :
    PostE Γ Θ W ρ σ as G (fun v H' => ∃ d M' as' G', Sta Γ Θ as' G' M' ρ σ H' ∧ Le G G' ∧ as <+: as' ∧ Rep Γ as' G' d v ∧ PostA Γ Θ W ρ σ as' G' Q (k d M')) r := by
  cases r with
  | ok d M => exact fun as' G' H' v s e p x => ⟨d, M, as', G', s, e, p, x, PostA.imp h e p fun _ _ z => z⟩
  | ex c xs M => exact h
  | bad => exact h
theorem PostA.bindA {Q : List V → Hp → Prop} {r : R (List D)} {k : List D → List MO → R (List D)} (h : PostA Γ Θ W ρ σ as G Q (r.bind k)) :
    PostA Γ Θ W ρ σ as G (fun vs H' => ∃ ds M' as' G', Sta Γ Θ as' G' M' ρ σ H' ∧ Le G G' ∧ as <+: as' ∧ RepL Γ as' G' ds vs ∧ PostA Γ Θ W ρ σ as' G' Q (k ds M')) r := by
  cases r with
  | ok d M => exact fun as' G' H' v s e p x => ⟨d, M, as', G', s, e, p, x, PostA.imp h e p fun _ _ z => z⟩
  | ex c xs M => exact h
  | bad => exact h
theorem PostS.bindE {D : Ends} {r : R DL.D} {k : DL.D → List MO → RS} (h : PostS Γ Θ W D (R.sbind ρ r k)) : 
    PostE Γ Θ W ρ σ as G (fun v H' => ∃ d M' as' G', Sta Γ Θ as' G' M' ρ σ H' ∧ Le G G' ∧ as <+: as' ∧ Rep Γ as' G' d v ∧ PostS Γ Θ W D (k d M')) r := by
  cases r with
  | ok d M => exact fun as' G' H' v s e p x => ⟨d, M, as', G', s, e, p, x, h⟩
  | ex c xs M => exact fun as' G' H' d s _ _ x => h as' G' σ H' d s x
  | bad => exact h
theorem PostS.bindT {D : Ends} {r : R Bool} {k : Bool → List MO → RS} (h : PostS Γ Θ W D (R.sbind ρ r k)) : 
    PostT Γ Θ W ρ σ as G (fun b H' => ∃ M' as' G', Sta Γ Θ as' G' M' ρ σ H' ∧ PostS Γ Θ W D (k b M')) r := by
  cases r with
  | ok d M => exact fun as' G' H' s e p => ⟨M, as', G', s, h⟩
  | ex c xs M => exact fun as' G' H' d s _ _ x => h as' G' σ H' d s x
  | bad => exact h
theorem PostS.bindA {D : Ends} {r : R (List DL.D)} {k : List DL.D → List MO → RS} (h : PostS Γ Θ W D (R.sbind ρ r k)) : 
    PostA Γ Θ W ρ σ as G (fun vs H' => ∃ ds M' as' G', Sta Γ Θ as' G' M' ρ σ H' ∧ Le G G' ∧ as <+: as' ∧ RepL Γ as' G' ds vs ∧ PostS Γ Θ W D (k ds M')) r := by
  cases r with
  | ok d M => exact fun as' G' H' v s e p x => ⟨d, M, as', G', s, e, p, x, h⟩
  | ex c xs M => exact fun as' G' H' d s _ _ x => h as' G' σ H' d s x
  | bad => exact h
end
end DL
set_option maxRecDepth 100000
namespace DL
open PySem L2
section
variable {X : Cx}
theorem PE.imp {e : Expr} {t t' : TE} (h : PE X e t) (i : ∀ σ H Q, t' σ H Q → t σ H Q) : PE X e t' := ⟨fun pins s σ H Q I w => h.run pins s σ H Q I (i _ _ _ w)⟩
theorem PT.imp {e : Expr} {t t' : TT} (h : PT X e t) (i : ∀ σ H Q, t' σ H Q → t σ H Q) : PT X e t' := ⟨fun pins s σ H Q I w => h.run pins s σ H Q I (i _ _ _ w)⟩
theorem PW.imp {e : Expr} {t t' : TT} (h : PW X e t) (i : ∀ σ H Q, t' σ H Q → t σ H Q) : PW X e t' := ⟨fun wh pins s σ H Q I w => h.run wh pins s σ H Q I (i _ _ _ w)⟩
theorem PA.imp {es : List Expr} {t t' : TA} (h : PA X es t) (i : ∀ σ H Q, t' σ H Q → t σ H Q) : PA X es t' := ⟨fun pos pins s σ H Q I w => h.run pos pins s σ H Q I (i _ _ _ w)⟩
theorem PS.imp {st : Stmt} {t t' : TS} (h : PS X st t) (i : ∀ D σ H, t' D σ H → t D σ H) : PS X st t' := ⟨fun pins s σ H D I w => h.run pins s σ H D I (i _ _ _ w)⟩
theorem PSs.imp {st : List Stmt} {t t' : TS} (h : PSs X st t) (i : ∀ D σ H, t' D σ H → t D σ H) : PSs X st t' := ⟨fun pins s σ H D I w => h.run pins s σ H D I (i _ _ _ w)⟩
theorem PE.or {e : Expr} {t u : TE} (h : PE X e t) (k : PE X e u) : PE X e (fun σ H Q => t σ H Q ∨ u σ H Q) := ⟨fun pins s σ H Q I w => w.elim (h.run pins s σ H Q I) (k.run pins s σ H Q I)⟩
theorem PS.or {e : Stmt} {t u : TS} (h : PS X e t) (k : PS X e u) : PS X e (fun D σ H => t D σ H ∨ u D σ H) := ⟨fun pins s σ H D I w => w.elim (h.run pins s σ H D I) (k.run pins s σ H D I)⟩
theorem PI.or {tg e : Expr} {t u : TI} (h : PI X tg e t) (k : PI X tg e u) : PI X tg e (fun σ H Q => t σ H Q ∨ u σ H Q) := ⟨fun pins s σ H Q I w => w.elim (h.run pins s σ H Q I) (k.run pins s σ H Q I)⟩
theorem OpR.or {f : Value → Value → Sem Value} {r r' : R2} (h : OpR X f r) (k : OpR X f r') : OpR X f (fun x y H Q => r x y H Q ∨ r' x y H Q) :=
  fun pins s σ H x y v u Q I rx ry w => w.elim (h pins s σ H x y v u Q I rx ry) (k pins s σ H x y v u Q I rx ry)
theorem CallR.or {f : Value} {r r' : List V → Hp → VK → Prop} (h : CallR X f r) (k : CallR X f r') : CallR X f (fun x H Q => r x H Q ∨ r' x H Q) :=
  fun pins s σ H xs us Q I rx w => w.elim (h pins s σ H xs us Q I rx) (k pins s σ H xs us Q I rx)
end

/-! ### what data say of values -/
section
variable {Γ : Gam} {as : List Addr} {G : Hp}
theorem rep_int {i : Int} {v : V} : Rep Γ as G (.int i) v ↔ v = .int i := Iff.rfl
end

/-! ### names and constants -/
def dVar (i : Nat) : FE := fun ρ M => match ρ[i]? with
  | some (.d x) => .ok x M
  | _ => .bad
def dC (d : D) : FE := fun _ M => .ok d M
section
variable {X : Cx} {Γ : Gam} {W : WX}
theorem Sta.at_d {Θ : Ent} {as : List Addr} {G H : Hp} {M : List MO} {ρ : List Sl} {σ : L2.St} (S : Sta Γ Θ as G M ρ σ H) {i : Nat} {x : D} (h : ρ[i]? = some (.d x)) : ∃ v, σ[i]? = some (some v) ∧ Rep Γ as G x v := by
  have hl : i < σ.length := by rw [← S.slen]; exact (List.getElem?_eq_some_iff.mp h).1
  obtain ⟨v, e, r⟩ := S.env i _ _ h (List.getElem?_eq_getElem hl)
  exact ⟨v, by rw [List.getElem?_eq_getElem hl, e], r⟩
theorem q_var {e : Expr} {i : Nat} (h : PE X e (tVar i)) : PE X e (tE Γ W (dVar i)) := PE.imp h fun σ H Q ⟨Θ, as, G, M, ρ, S, q⟩ => by
  unfold dVar at q
  split at q
  · rename_i x e
    obtain ⟨v, h1, r⟩ := S.at_d e
    exact ⟨v, h1, q _ _ _ _ S (Le.refl _) (List.prefix_refl _) r⟩
  · exact q.elim
theorem q_c {e : Expr} {v : V} {d : D} (hr : ∀ as G, Rep Γ as G d v) (h : PE X e (tC v)) : PE X e (tE Γ W (dC d)) := PE.imp h fun σ H Q ⟨Θ, as, G, M, ρ, S, q⟩ =>
  q _ _ _ _ S (Le.refl _) (List.prefix_refl _) (hr _ _)
theorem q_int {i j pos} : PE X (.Constant (.int i) j pos) (tE Γ W (dC (.int i))) := q_c (fun _ _ => rfl) pe_int
theorem q_bl {b j pos} : PE X (.Constant (.bool b) j pos) (tE Γ W (dC (.bl b))) := q_c (fun _ _ => rfl) pe_bl
theorem q_non {j pos} : PE X (.Constant .none j pos) (tE Γ W (dC .non)) := q_c (fun _ _ => rfl) pe_non
theorem q_str {x j pos} : PE X (.Constant (.str x) j pos) (tE Γ W (dC (.str x))) := q_c (fun _ _ => rfl) pe_str
end

/-! ### operators -/
def d2 (g : D → D → List MO → R D) (fa fb : FE) : FE := fun ρ M => (fa ρ M).bind fun a M => (fb ρ M).bind fun b M => g a b M
def d1 (g : D → List MO → R D) (fa : FE) : FE := fun ρ M => (fa ρ M).bind fun a M => g a M
/-- r keeps g -/
def Keeps2 (Γ : Gam) (W : WX) (r : L2.St → R2) (g : D → D → List MO → R D) : Prop :=
  ∀ Θ ρ σ as G M H a b x y Q, Sta Γ Θ as G M ρ σ H → Rep Γ as G a x → Rep Γ as G b y → PostE Γ Θ W ρ σ as G Q (g a b M) → r σ x y H Q
def Keeps1 (Γ : Gam) (W : WX) (r : V → Hp → VK → Prop) (g : D → List MO → R D) : Prop :=
  ∀ Θ ρ σ as G M H a x Q, Sta Γ Θ as G M ρ σ H → Rep Γ as G a x → PostE Γ Θ W ρ σ as G Q (g a M) → r x H Q
def KeepsA (Γ : Gam) (W : WX) (r : List V → Hp → VK → Prop) (g : List D → List MO → R D) : Prop :=
  ∀ Θ ρ σ as G M H ds vs Q, Sta Γ Θ as G M ρ σ H → RepL Γ as G ds vs → PostE Γ Θ W ρ σ as G Q (g ds M) → r vs H Q
section
variable {X : Cx} {Γ : Gam} {W : WX}
theorem run2 {r : L2.St → R2} {g : D → D → List MO → R D} {fa fb : FE} (k : Keeps2 Γ W r g) {σ : L2.St} {H : Hp} {Q : VK} (h : tE Γ W (d2 g fa fb) σ H Q) :
    tE Γ W fa σ H fun x H1 => tE Γ W fb σ H1 fun y H2 => r σ x y H2 Q := by
  obtain ⟨Θ, as, G, M, ρ, S, q⟩ := h
  refine ⟨Θ, as, G, M, ρ, S, (PostE.bindE q).imp (Le.refl _) (List.prefix_refl _) ?_⟩
  rintro x H1 ⟨a, M1, as1, G1, S1, e1, p1, ra, q1⟩
  refine ⟨Θ, as1, G1, M1, ρ, S1, (PostE.bindE q1).imp (Le.refl _) (List.prefix_refl _) ?_⟩
  rintro y H2 ⟨b, M2, as2, G2, S2, e2, p2, rb, q2⟩
  exact k Θ ρ σ as2 G2 M2 H2 a b x y Q S2 (ra.mono e2 p2) rb q2
theorem q_op {op : Operator} {a b : Expr} {pos : Pos} {r : R2} {g : D → D → List MO → R D} {fa fb : FE} (ho : OpR X (binaryOp op) r) (k : Keeps2 Γ W (fun _ => r) g) (ha : PE X a (tE Γ W fa)) (hb : PE X b (tE Γ W fb)) :
    PE X (.BinOp a op b pos) (tE Γ W (d2 g fa fb)) := PE.imp (pe_op ho ha hb) fun _ _ _ h => run2 k h
theorem q_cmp {op : CmpOp} {a b : Expr} {pos : Pos} {r : R2} {g : D → D → List MO → R D} {fa fb : FE} (ho : OpR X (compareOp op) r) (k : Keeps2 Γ W (fun _ => r) g) (ha : PE X a (tE Γ W fa)) (hb : PE X b (tE Γ W fb)) (hm : behindInMarks op b = false) :
    PE X (.Compare a [op] [b] pos) (tE Γ W (d2 g fa fb)) := PE.imp (pe_cmpR ho ha hb hm) fun _ _ _ h => run2 k h
/-- a value that is a bool, as a test -/
def dB (f : FE) : FT := fun ρ M => (f ρ M).bind fun d M => match d with
  | .bl b => .ok b M
  | _ => .bad
theorem run_B {f : FE} {σ : L2.St} {H : Hp} {Q : Bool → Hp → Prop} (h : tT Γ W (dB f) σ H Q) : tE Γ W f σ H fun x H1 => ∃ k, x = .bl k ∧ Q k H1 := by
  obtain ⟨Θ, as, G, M, ρ, S, q⟩ := h
  refine ⟨Θ, as, G, M, ρ, S, (PostT.bindE q).imp (Le.refl _) (List.prefix_refl _) ?_⟩
  rintro x H1 ⟨d, M1, as1, G1, S1, e1, p1, ra, q1⟩
  split at q1
  · cases ra
    exact ⟨_, rfl, q1 _ _ _ S1 (Le.refl _) (List.prefix_refl _)⟩
  · exact q1.elim
theorem q_cmpT {op : CmpOp} {a b : Expr} {pos : Pos} {r : R2} {g : D → D → List MO → R D} {fa fb : FE} (ho : OpR X (compareOp op) r) (k : Keeps2 Γ W (fun _ => r) g) (ha : PE X a (tE Γ W fa)) (hb : PE X b (tE Γ W fb)) (hm : behindInMarks op b = false) :
    PT X (.Compare a [op] [b] pos) (tT Γ W (dB (d2 g fa fb))) := PT.imp (pt_cmpR ho ha hb hm) fun _ _ _ h => run2 (Q := fun x H1 => ∃ k, x = .bl k ∧ _) k (by
      obtain ⟨Θ, as, G, M, ρ, S, q⟩ := h
      exact ⟨Θ, as, G, M, ρ, S, (PostT.bindE q).imp (Le.refl _) (List.prefix_refl _) (by
        rintro x H1 ⟨d, M1, as1, G1, S1, e1, p1, ra, q1⟩
        split at q1
        · cases ra
          exact ⟨_, rfl, q1 _ _ _ S1 (Le.refl _) (List.prefix_refl _)⟩
        · exact q1.elim)⟩)
theorem q_val {e : Expr} {f : FE} (h : PE X e (tE Γ W f)) (he : ∀ whole, isTrue e X.env whole = (do let v ← whole; standAt e.pos; holding [v] (truthy v)) := by intro _; rfl) : PT X e (tT Γ W (dB f)) := PT.imp (pt_val h he) fun _ _ _ w => run_B w
/-! and, or, not, if -/
def dAnd (f g : FT) : FT := fun ρ M => (f ρ M).bind fun c M => if c = true then g ρ M else .ok false M
def dOr (f g : FT) : FT := fun ρ M => (f ρ M).bind fun c M => if c = true then .ok true M else g ρ M
def dNot (f : FT) : FT := fun ρ M => (f ρ M).bind fun c M => .ok (!c) M
def dAndV (f g : FE) : FE := fun ρ M => (f ρ M).bind fun d M => match d with
  | .bl c => if c = true then g ρ M else .ok (.bl false) M
  | _ => .bad
def dOrV (f g : FE) : FE := fun ρ M => (f ρ M).bind fun d M => match d with
  | .bl c => if c = true then .ok (.bl true) M else g ρ M
  | _ => .bad
def dNotV (f : FE) : FE := fun ρ M => (f ρ M).bind fun d M => match d with
  | .bl c => .ok (.bl (!c)) M
  | _ => .bad
def dIf (c : FT) (f g : FE) : FE := fun ρ M => (c ρ M).bind fun c M => if c = true then f ρ M else g ρ M
theorem q_and1 {a : Expr} {f : FT} {pos : Pos} (h : PT X a (tT Γ W f)) : PW X (.BoolOp .And [a] pos) (tT Γ W f) := pw_and1 h
theorem q_or1 {a : Expr} {f : FT} {pos : Pos} (h : PT X a (tT Γ W f)) : PW X (.BoolOp .Or [a] pos) (tT Γ W f) := pw_or1 h
theorem q_and {a b : Expr} {rest : List Expr} {f g : FT} {pos : Pos} (ha : PT X a (tT Γ W f)) (hb : PW X (.BoolOp .And (b :: rest) pos) (tT Γ W g)) : PW X (.BoolOp .And (a :: b :: rest) pos) (tT Γ W (dAnd f g)) := PW.imp (pw_and ha hb) fun σ H Q ⟨Θ, as, G, M, ρ, S, q⟩ => by
  refine ⟨Θ, as, G, M, ρ, S, (PostT.bindT q).imp (Le.refl _) (List.prefix_refl _) ?_⟩
  rintro c H1 ⟨M1, as1, G1, S1, e1, p1, q1⟩
  cases c with
  | true => rw [if_pos rfl] at q1 ⊢; exact ⟨Θ, as1, G1, M1, ρ, S1, q1⟩
  | false => rw [if_neg (by decide)] at q1 ⊢; exact q1 _ _ _ S1 (Le.refl _) (List.prefix_refl _)
theorem q_or {a b : Expr} {rest : List Expr} {f g : FT} {pos : Pos} (ha : PT X a (tT Γ W f)) (hb : PW X (.BoolOp .Or (b :: rest) pos) (tT Γ W g)) : PW X (.BoolOp .Or (a :: b :: rest) pos) (tT Γ W (dOr f g)) := PW.imp (pw_or ha hb) fun σ H Q ⟨Θ, as, G, M, ρ, S, q⟩ => by
  refine ⟨Θ, as, G, M, ρ, S, (PostT.bindT q).imp (Le.refl _) (List.prefix_refl _) ?_⟩
  rintro c H1 ⟨M1, as1, G1, S1, e1, p1, q1⟩
  cases c with
  | true => rw [if_pos rfl] at q1 ⊢; exact q1 _ _ _ S1 (Le.refl _) (List.prefix_refl _)
  | false => rw [if_neg (by decide)] at q1 ⊢; exact ⟨Θ, as1, G1, M1, ρ, S1, q1⟩
theorem q_not {a : Expr} {f : FT} {pos : Pos} (h : PT X a (tT Γ W f)) : PT X (.UnaryOp .Not a pos) (tT Γ W (dNot f)) := PT.imp (pt_not h) fun σ H Q ⟨Θ, as, G, M, ρ, S, q⟩ => by
  refine ⟨Θ, as, G, M, ρ, S, (PostT.bindT q).imp (Le.refl _) (List.prefix_refl _) ?_⟩
  rintro c H1 ⟨M1, as1, G1, S1, e1, p1, q1⟩
  exact q1 _ _ _ S1 (Le.refl _) (List.prefix_refl _)
theorem q_oneV {op} {a : Expr} {f : FE} {pos : Pos} (h : PE X a (tE Γ W f)) : PE X (.BoolOp op [a] pos) (tE Γ W f) := pe_one h
theorem q_andV {a b : Expr} {rest : List Expr} {f g : FE} {pos : Pos} (ha : PE X a (tE Γ W f)) (hb : PE X (.BoolOp .And (b :: rest) pos) (tE Γ W g)) : PE X (.BoolOp .And (a :: b :: rest) pos) (tE Γ W (dAndV f g)) := PE.imp (pe_and ha hb) fun σ H Q ⟨Θ, as, G, M, ρ, S, q⟩ => by
  refine ⟨Θ, as, G, M, ρ, S, (PostE.bindE q).imp (Le.refl _) (List.prefix_refl _) ?_⟩
  rintro x H1 ⟨d, M1, as1, G1, S1, e1, p1, r, q1⟩
  split at q1
  · rename_i c
    cases r
    refine ⟨c, rfl, ?_⟩
    cases c with
    | true => rw [if_pos rfl] at q1 ⊢; exact ⟨Θ, as1, G1, M1, ρ, S1, q1⟩
    | false => rw [if_neg (by decide)] at q1 ⊢; exact q1 _ _ _ _ S1 (Le.refl _) (List.prefix_refl _) rfl
  · exact q1.elim
theorem q_orV {a b : Expr} {rest : List Expr} {f g : FE} {pos : Pos} (ha : PE X a (tE Γ W f)) (hb : PE X (.BoolOp .Or (b :: rest) pos) (tE Γ W g)) : PE X (.BoolOp .Or (a :: b :: rest) pos) (tE Γ W (dOrV f g)) := PE.imp (pe_or ha hb) fun σ H Q ⟨Θ, as, G, M, ρ, S, q⟩ => by
  refine ⟨Θ, as, G, M, ρ, S, (PostE.bindE q).imp (Le.refl _) (List.prefix_refl _) ?_⟩
  rintro x H1 ⟨d, M1, as1, G1, S1, e1, p1, r, q1⟩
  split at q1
  · rename_i c
    cases r
    refine ⟨c, rfl, ?_⟩
    cases c with
    | true => rw [if_pos rfl] at q1 ⊢; exact q1 _ _ _ _ S1 (Le.refl _) (List.prefix_refl _) rfl
    | false => rw [if_neg (by decide)] at q1 ⊢; exact ⟨Θ, as1, G1, M1, ρ, S1, q1⟩
  · exact q1.elim
theorem q_notV {a : Expr} {f : FE} {pos : Pos} (h : PE X a (tE Γ W f)) : PE X (.UnaryOp .Not a pos) (tE Γ W (dNotV f)) := PE.imp (pe_not h) fun σ H Q ⟨Θ, as, G, M, ρ, S, q⟩ => by
  refine ⟨Θ, as, G, M, ρ, S, (PostE.bindE q).imp (Le.refl _) (List.prefix_refl _) ?_⟩
  rintro x H1 ⟨d, M1, as1, G1, S1, e1, p1, r, q1⟩
  split at q1
  · cases r
    exact ⟨_, rfl, q1 _ _ _ _ S1 (Le.refl _) (List.prefix_refl _) rfl⟩
  · exact q1.elim
theorem q_if {c a b : Expr} {fc : FT} {f g : FE} {pos : Pos} (hc : PT X c (tT Γ W fc)) (ha : PE X a (tE Γ W f)) (hb : PE X b (tE Γ W g)) : PE X (.IfExp c a b pos) (tE Γ W (dIf fc f g)) := PE.imp (pe_ifExp hc ha hb) fun σ H Q ⟨Θ, as, G, M, ρ, S, q⟩ => by
  refine ⟨Θ, as, G, M, ρ, S, (PostE.bindT q).imp (Le.refl _) (List.prefix_refl _) ?_⟩
  rintro c H1 ⟨M1, as1, G1, S1, e1, p1, q1⟩
  cases c with
  | true => rw [if_pos rfl] at q1 ⊢; exact ⟨Θ, as1, G1, M1, ρ, S1, q1⟩
  | false => rw [if_neg (by decide)] at q1 ⊢; exact ⟨Θ, as1, G1, M1, ρ, S1, q1⟩
/-! arguments -/
def aNil : FA := fun _ M => .ok [] M
def aCons (f : FE) (g : FA) : FA := fun ρ M => (f ρ M).bind fun d M => (g ρ M).bind fun ds M => .ok (d :: ds) M
theorem qa_nil : PA X [] (tA Γ W aNil) := PA.imp pa_nil fun σ H Q ⟨Θ, as, G, M, ρ, S, q⟩ => q _ _ _ _ S (Le.refl _) (List.prefix_refl _) RepL.nil
theorem qa_cons {e : Expr} {es : List Expr} {f : FE} {g : FA} (he : PE X e (tE Γ W f)) (hr : PA X es (tA Γ W g)) (hs : starEach (e :: es) X.env = (false, eval e X.env) :: starEach es X.env := by rfl) : PA X (e :: es) (tA Γ W (aCons f g)) :=
  PA.imp (pa_cons he hr hs) fun σ H Q ⟨Θ, as, G, M, ρ, S, q⟩ => by
    refine ⟨Θ, as, G, M, ρ, S, (PostA.bindE q).imp (Le.refl _) (List.prefix_refl _) ?_⟩
    rintro x H1 ⟨d, M1, as1, G1, S1, e1, p1, r, q1⟩
    refine ⟨Θ, as1, G1, M1, ρ, S1, (PostA.bindA q1).imp (Le.refl _) (List.prefix_refl _) ?_⟩
    rintro xs H2 ⟨ds, M2, as2, G2, S2, e2, p2, rs, q2⟩
    exact q2 _ _ _ _ S2 (Le.refl _) (List.prefix_refl _) (RepL.cons (r.mono e2 p2) rs)
theorem runA {r : List V → Hp → VK → Prop} {g : List D → List MO → R D} {fa : FA} (k : KeepsA Γ W r g) {σ : L2.St} {H : Hp} {Q : VK} (h : tE Γ W (fun ρ M => (fa ρ M).bind g) σ H Q) :
    tA Γ W fa σ H fun vs H1 => r vs H1 Q := by
  obtain ⟨Θ, as, G, M, ρ, S, q⟩ := h
  refine ⟨Θ, as, G, M, ρ, S, (PostE.bindA q).imp (Le.refl _) (List.prefix_refl _) ?_⟩
  rintro xs H1 ⟨ds, M1, as1, G1, S1, e1, p1, r, q1⟩
  exact k Θ ρ σ as1 G1 M1 H1 ds xs Q S1 r q1
/-- a built-in function, a built-in class called -/
def dCB (g : List D → List MO → R D) (fa : FA) : FE := fun ρ M => (fa ρ M).bind g
theorem q_callB {x : Str} {p pos : Pos} {e : Expr} {es : List Expr} {fa : FA} {id : String} {r : List V → Hp → VK → Prop} {g : List D → List MO → R D} (hc : CallR X (.builtin id) r) (k : KeepsA Γ W r g) (hg : Gl X x) (hm : X.mg x = none) (hv : bootBuiltins x = some (.builtin id)) (ha : PA X (e :: es) (tA Γ W fa)) (hn : x ≠ "__name__" := by decide) (hdb : (x == ("__debug__" : Str)) = false := by decide)
    (he : starEach (e :: es) X.env = (false, eval e X.env) :: starEach es X.env := by rfl) (hpl : (backTo pos (starEach es X.env)).any (·.1) = false := by rfl) : PE X (.Call (.Name x p) (e :: es) [] pos) (tE Γ W (dCB g fa)) :=
  PE.imp (pe_callB hc hg hm hv ha hn hdb he hpl) fun _ _ _ h => runA k h
theorem q_callTy {x : Str} {p pos : Pos} {e : Expr} {es : List Expr} {fa : FA} {T : String} {r : List V → Hp → VK → Prop} {g : List D → List MO → R D} (hc : CallR X (.type T) r) (k : KeepsA Γ W r g) (hg : Gl X x) (hm : X.mg x = none) (hv : bootBuiltins x = some (.type T)) (ha : PA X (e :: es) (tA Γ W fa)) (hn : x ≠ "__name__" := by decide) (hdb : (x == ("__debug__" : Str)) = false := by decide)
    (he : starEach (e :: es) X.env = (false, eval e X.env) :: starEach es X.env := by rfl) (hpl : (backTo pos (starEach es X.env)).any (·.1) = false := by rfl) : PE X (.Call (.Name x p) (e :: es) [] pos) (tE Γ W (dCB g fa)) :=
  PE.imp (pe_callTy hc hg hm hv ha hn hdb he hpl) fun _ _ _ h => runA k h
end
end DL
set_option maxRecDepth 100000
namespace DL
open PySem PySem.Spec PyProof.Rows L2

section
variable {Γ : Gam} {Θ : Ent} {as as' : List Addr} {G G' H H' : Hp} {M M' : List MO} {ρ : List Sl} {σ : L2.St}
/-- the entry that is now -/
abbrev now (H : Hp) (as : List Addr) (G : Hp) : Ent := ⟨H, as, G, (· ∈ as), none⟩
theorem St2.now (S : St2 Γ Θ as G M H) : St2 Γ (DL.now H as G) as G M H :=
  ⟨S.sub, Le.refl _, List.prefix_refl _, fun _ h => h, fun _ _ h _ => h, fun _ o h => ⟨o, h⟩, fun _ _ h => .inl h, S.len, S.nd, S.cel, fun _ h => .inl h, S.ain⟩
theorem St2.old (S : St2 Γ Θ as G M H) {a : Addr} (h : H a = none) : Θ.H a = none := by
  cases e : Θ.H a with
  | none => rfl
  | some o =>
    obtain ⟨o', z⟩ := S.pres a o e
    rw [h] at z; cases z
theorem Owns.inH (S : Sta Γ Θ as G M ρ σ H) {i : Nat} {a : Addr} (o : Owns ρ σ i a) : ∃ u, H a = some u := by
  obtain ⟨h, e⟩ := o
  rcases h with ⟨xs, h⟩ | ⟨c, ns, xs, h⟩
  · obtain ⟨b, vs, e1, e2, _⟩ := S.env i _ _ h e
    cases e1
    exact ⟨_, e2⟩
  · obtain ⟨b, dx, vs, e1, e2, _⟩ := S.env i _ _ h e
    cases e1
    exact ⟨_, e2⟩
/-- behind a call -/
theorem St2.after (S : St2 Γ Θ as G M H) (C : St2 Γ (DL.now H as G) as' G' M' H') : St2 Γ Θ as' G' M' H' where
  sub := C.sub
  grow := S.grow.trans C.grow
  ext := S.ext.trans C.ext
  esub := S.esub
  fr := fun a o h hm => C.fr a o (S.fr a o h hm) fun ha => by
    rcases S.cfr a ha with q | q
    · exact hm (S.esub a q)
    · rw [q] at h; cases h
  pres := fun a o h => by
    obtain ⟨o', e⟩ := S.pres a o h
    exact C.pres a o' e
  gfr := fun a o h => by
    rcases C.gfr a o h with q | q | q
    · exact S.gfr a o q
    · exact .inr (.inl (S.old q))
    · rcases S.cfr a q with q | q
      · exact .inr (.inr (S.esub a q))
      · exact .inr (.inl q)
  len := C.len
  nd := C.nd
  cel := C.cel
  cfr := fun a h => by
    rcases C.cfr a h with q | q
    · exact S.cfr a q
    · exact .inr (S.old q)
  ain := C.ain
theorem RepS.mono {s : Sl} {ov : Option V} (hG : Le G G') (ha : as <+: as') (hs : ∀ a, (∃ xs, s = .own xs) ∨ (∃ c ns xs, s = .obj c ns xs) → ov = some (.ref a) → H' a = H a) (h : RepS Γ as G H s ov) : RepS Γ as' G' H' s ov := by
  cases s with
  | mt => trivial
  | d x => obtain ⟨v, e, r⟩ := h; exact ⟨v, e, r.mono hG ha⟩
  | own xs => obtain ⟨a, vs, e, q, r⟩ := h; exact ⟨a, vs, e, (hs a (.inl ⟨_, rfl⟩) e).trans q, r.mono hG ha⟩
  | obj c ns xs => obtain ⟨a, dx, vs, e, q, l, r⟩ := h; exact ⟨a, dx, vs, e, (hs a (.inr ⟨_, _, _, rfl⟩) e).trans q, l, r.mono hG ha⟩
  | exn c xs => obtain ⟨a, d, e, q, r⟩ := h; exact ⟨a, d, e, q, r.mono hG ha⟩
theorem Sta.after (S : Sta Γ Θ as G M ρ σ H) (C : St2 Γ (DL.now H as G) as' G' M' H') : Sta Γ Θ as' G' M' ρ σ H' := by
  have st : ∀ i a, Owns ρ σ i a → H' a = H a := fun i a o => by
    obtain ⟨u, e⟩ := Owns.inH S o
    rw [e]
    exact C.fr a u e (S.own i a o).2.1
  refine ⟨S.toSt2.after C, S.slen, fun i s ov h1 h2 => ?_, fun i a o => ?_, S.odj, S.slf⟩
  · refine RepS.mono C.grow C.ext (fun a hs e => ?_) (S.env i s ov h1 h2)
    subst e
    refine st i a ⟨?_, h2⟩
    rcases hs with ⟨xs, e⟩ | ⟨c, ns, xs, e⟩
    · exact .inl ⟨xs, e ▸ h1⟩
    · exact .inr ⟨c, ns, xs, e ▸ h1⟩
  · obtain ⟨h1, h2, h3⟩ := S.own i a o
    obtain ⟨u, e⟩ := Owns.inH S o
    refine ⟨?_, fun ha => ?_, h3⟩
    · cases z : G' a with
      | none => rfl
      | some w =>
        rcases C.gfr a w z with q | q | q
        · exact absurd (h1.symm.trans q) (by simp)
        · exact absurd (e.symm.trans q) (by simp)
        · exact absurd q h2
    · rcases C.cfr a ha with q | q
      · exact h2 q
      · exact absurd (e.symm.trans q) (by simp)
/-- a value goes into a slot -/
theorem Sta.set (S : Sta Γ Θ as G M ρ σ H) {d : D} {v : V} (i : Nat) (r : Rep Γ as G d v) : Sta Γ Θ as G M (ρ.set i (.d d)) (σ.set i (some v)) H := by
  have ow : ∀ j a, Owns (ρ.set i (.d d)) (σ.set i (some v)) j a → Owns ρ σ j a := fun j a ⟨h, e⟩ => by
    by_cases hj : i = j
    · subst hj
      rcases h with ⟨xs, h⟩ | ⟨c, ns, xs, h⟩ <;> (rw [List.getElem?_set_self'] at h; cases q : ρ[i]? <;> rw [q] at h <;> simp at h)
    · rw [List.getElem?_set_ne hj] at e
      rw [List.getElem?_set_ne hj] at h
      exact ⟨h, e⟩
  refine ⟨S.toSt2, by simp [S.slen], fun j s ov h1 h2 => ?_, fun j a o => S.own j a (ow j a o), fun j k a o1 o2 => S.odj j k a (ow j a o1) (ow k a o2), fun j c ns xs a h1 h2 => ?_⟩
  rotate_left
  · by_cases hj : i = j
    · subst hj
      rw [List.getElem?_set_self'] at h1
      cases q : ρ[i]? <;> rw [q] at h1 <;> simp at h1
    · rw [List.getElem?_set_ne hj] at h1 h2
      exact S.slf j c ns xs a h1 h2
  by_cases hj : i = j
  · subst hj
    rw [List.getElem?_set_self'] at h1 h2
    cases q : ρ[i]? with
    | none => rw [q] at h1; simp at h1
    | some z =>
      cases q2 : σ[i]? with
      | none => rw [q2] at h2; simp at h2
      | some z2 =>
        rw [q] at h1; rw [q2] at h2
        simp at h1 h2
        subst h1; subst h2
        exact ⟨v, rfl, r⟩
  · rw [List.getElem?_set_ne hj] at h1 h2
    exact S.env j s ov h1 h2
/-- a new thing that stands for good -/
theorem St2.lay (S : St2 Γ Θ as G M H) {p : Addr} {o : HO} (n : H p = none) : St2 Γ (DL.now H as G) as (upd G p o) M (upd H p o) := by
  have gp : G p = none := S.sub.free n
  have ap : p ∉ as ∨ True := .inr trivial
  refine ⟨fun a u h => ?_, Le.new gp, List.prefix_refl _, fun _ h => h, fun a u h _ => Le.new n a u h, fun a u h => ⟨u, Le.new n a u h⟩, fun a u h => ?_, S.len, S.nd, fun k a m h1 h2 h3 => ?_, fun _ h => .inl h, fun a h => by
    obtain ⟨o, e⟩ := S.ain a h
    exact ⟨o, Le.new n a o e⟩⟩
  · by_cases e : a = p
    · subst e; rw [upd_same] at h ⊢; exact h
    · rw [upd_ne e] at h ⊢; exact S.sub a u h
  · by_cases e : a = p
    · subst e; exact .inr (.inl n)
    · rw [upd_ne e] at h; exact .inl h
  · obtain ⟨c1, ⟨u, c2⟩, c3⟩ := S.cel k a m h1 h2 h3
    have e : a ≠ p := ne_of_none c2 n
    exact ⟨by rw [upd_ne e]; exact c1, ⟨u, by rw [upd_ne e]; exact c2⟩, c3.mono (Le.new gp) (List.prefix_refl _) (upd_ne e)⟩
/-- a new thing that is not tracked by the data -/
theorem St2.lay0 (S : St2 Γ Θ as G M H) {p : Addr} {o : HO} (n : H p = none) : St2 Γ (DL.now H as G) as G M (upd H p o) := by
  refine ⟨fun a u h => Le.new n a u (S.sub a u h), Le.refl _, List.prefix_refl _, fun _ h => h, fun a u h _ => Le.new n a u h, fun a u h => ⟨u, Le.new n a u h⟩, fun a u h => .inl h, S.len, S.nd, fun k a m h1 h2 h3 => ?_, fun _ h => .inl h, fun a h => by
    obtain ⟨o, e⟩ := S.ain a h
    exact ⟨o, Le.new n a o e⟩⟩
  obtain ⟨c1, ⟨u, c2⟩, c3⟩ := S.cel k a m h1 h2 h3
  have e : a ≠ p := ne_of_none c2 n
  exact ⟨c1, ⟨u, by rw [upd_ne e]; exact c2⟩, c3.mono (Le.refl _) (List.prefix_refl _) (upd_ne e)⟩
end

/-! ### displays -/
def szOk (n : Nat) : Bool := decide (n ≤ 16777216)
theorem szOk_le {n : Nat} (h : szOk n = true) : n ≤ sizeLine := by
  rw [sizeLine_eq]
  exact of_decide_eq_true h
def dTup (fa : FA) : FE := fun ρ M => (fa ρ M).bind fun ds M => if szOk ds.length then .ok (.tup ds) M else .bad
def dLst (fa : FA) : FE := fun ρ M => (fa ρ M).bind fun ds M => if szOk ds.length then .ok (.lst ds) M else .bad
section
variable {X : Cx} {Γ : Gam} {W : WX}
theorem Sta.lay {Θ : Ent} {as : List Addr} {G H : Hp} {M : List MO} {ρ : List Sl} {σ : L2.St} (S : Sta Γ Θ as G M ρ σ H) {p : Addr} {o : HO} (n : H p = none) : Sta Γ Θ as (upd G p o) M ρ σ (upd H p o) := S.after (S.toSt2.lay n)
theorem keepsNewTup {Θ : Ent} {as : List Addr} {G H : Hp} {M : List MO} {ρ : List Sl} {σ : L2.St} {ds : List D} {vs : List V} {Q : VK} (S : Sta Γ Θ as G M ρ σ H) (r : RepL Γ as G ds vs) (q : PostE Γ Θ W ρ σ as G Q (.ok (.tup ds) M)) {p : Addr} (n : H p = none) : Q (.ref p) (upd H p (.tup vs)) :=
  q _ _ _ _ (S.lay n) (Le.new (S.sub.free n)) (List.prefix_refl _) ⟨p, vs, rfl, .inl (.inl upd_same), r.mono (Le.new (S.sub.free n)) (List.prefix_refl _)⟩
theorem keepsNewLst {Θ : Ent} {as : List Addr} {G H : Hp} {M : List MO} {ρ : List Sl} {σ : L2.St} {ds : List D} {vs : List V} {Q : VK} (S : Sta Γ Θ as G M ρ σ H) (r : RepL Γ as G ds vs) (q : PostE Γ Θ W ρ σ as G Q (.ok (.lst ds) M)) {p : Addr} (n : H p = none) : Q (.ref p) (upd H p (.lst vs)) :=
  q _ _ _ _ (S.lay n) (Le.new (S.sub.free n)) (List.prefix_refl _) ⟨p, vs, rfl, upd_same, r.mono (Le.new (S.sub.free n)) (List.prefix_refl _)⟩
theorem q_tup {es : List Expr} {x1} {pos : Pos} {fa : FA} (h : PA X es (tA Γ W fa)) : PE X (.Tuple es x1 pos) (tE Γ W (dTup fa)) := PE.imp (pe_tup h) fun σ H Q ⟨Θ, as, G, M, ρ, S, q⟩ => by
  refine ⟨Θ, as, G, M, ρ, S, (PostE.bindA q).imp (Le.refl _) (List.prefix_refl _) ?_⟩
  rintro vs H1 ⟨ds, M1, as1, G1, S1, e1, p1, r, q1⟩
  split at q1
  · rename_i hz
    exact ⟨by rw [← r.length]; exact szOk_le hz, fun p n => keepsNewTup S1 r q1 n⟩
  · exact q1.elim
theorem q_lst {es : List Expr} {pos : Pos} {fa : FA} (h : PA X es (tA Γ W fa)) : PE X (.List es pos) (tE Γ W (dLst fa)) := PE.imp (pe_lst h) fun σ H Q ⟨Θ, as, G, M, ρ, S, q⟩ => by
  refine ⟨Θ, as, G, M, ρ, S, (PostE.bindA q).imp (Le.refl _) (List.prefix_refl _) ?_⟩
  rintro vs H1 ⟨ds, M1, as1, G1, S1, e1, p1, r, q1⟩
  split at q1
  · rename_i hz
    exact ⟨by rw [← r.length]; exact szOk_le hz, fun p n => keepsNewLst S1 r q1 n⟩
  · exact q1.elim
end

/-! ### defs -/
abbrev FN := List D → List MO → R D
def PostC (Γ : Gam) (Θ : Ent) (Q : VK) (E : XK) : R D → Prop
  | .ok d M => ∀ as' G' H' v, St2 Γ Θ as' G' M H' → Rep Γ as' G' d v → Q v H'
  | .ex c xs M => ∀ as' G' H' d, St2 Γ Θ as' G' M H' → XP Γ as' G' c xs d → E (.ref (Γ.eA c)) (some d) H'
  | .bad => False
def spF (Γ : Gam) (n : Nat) (F : FN) : Sp := fun vs H Q E => ∃ as G M ds, St2 Γ (DL.now H as G) as G M H ∧ RepL Γ as G ds vs ∧ ds.length = n ∧ PostC Γ (DL.now H as G) Q E (F ds M)
/-- a def's body, run at data -/
def start0 (n : Nat) (ds : List D) : List Sl := ds.map .d ++ List.replicate (n - ds.length) .mt
def runF (n : Nat) (f : FS) : FN := fun ds M => match f (start0 n ds) M with
  | .nx _ M => .ok .non M
  | .rt d M => .ok d M
  | .ex c xs _ M => .ex c xs M
  | _ => .bad
section
variable {Γ : Gam}
theorem RepL.iget : ∀ {as : List Addr} {G : Hp} {ds : List D} {vs : List V} {i : Nat} {v : V}, RepL Γ as G ds vs → vs[i]? = some v → ∃ d, ds[i]? = some d ∧ Rep Γ as G d v := fun {as G ds vs i v} r e => by
  have hi : i < ds.length := by rw [r.length]; exact (List.getElem?_eq_some_iff.mp e).1
  obtain ⟨w, e2, q⟩ := r.get (List.getElem?_eq_getElem hi)
  rw [e] at e2
  cases e2
  exact ⟨_, List.getElem?_eq_getElem hi, q⟩
theorem sta_start {as : List Addr} {G H : Hp} {M : List MO} {ds : List D} {vs : List V} {N : List Str} (S : St2 Γ (DL.now H as G) as G M H) (r : RepL Γ as G ds vs) : Sta Γ (DL.now H as G) as G M (start0 N.length ds) (L2.start N vs) H := by
  have noown : ∀ i a, ¬ Owns (start0 N.length ds) (L2.start N vs) i a := fun i a ⟨h, e⟩ => by
    have key : ∀ s, (start0 N.length ds)[i]? = some s → (∃ d, s = .d d) ∨ s = .mt := fun s hs => by
      unfold start0 at hs
      by_cases hi : i < (ds.map Sl.d).length
      · rw [List.getElem?_append_left hi, List.getElem?_map] at hs
        cases q : ds[i]? with
        | none => rw [q] at hs; simp at hs
        | some d => rw [q] at hs; exact .inl ⟨d, (Option.some.inj hs).symm⟩
      · rw [List.getElem?_append_right (Nat.le_of_not_lt hi), List.getElem?_replicate] at hs
        split at hs
        · exact .inr (Option.some.inj hs).symm
        · cases hs
    rcases h with ⟨xs, h⟩ | ⟨c, ns, xs, h⟩
    · rcases key _ h with ⟨d, e⟩ | e <;> cases e
    · rcases key _ h with ⟨d, e⟩ | e <;> cases e
  refine ⟨S, by simp [start0, L2.start, r.length], fun i s ov h1 h2 => ?_, fun i a o => absurd o (noown i a), fun i j a o => absurd o (noown i a), fun i c ns xs a h1 h2 => absurd ⟨.inr ⟨c, ns, xs, h1⟩, h2⟩ (noown i a)⟩
  unfold start0 at h1
  unfold L2.start at h2
  by_cases hi : i < vs.length
  · rw [List.getElem?_append_left (by simpa using hi), List.getElem?_map] at h2
    rw [List.getElem?_append_left (by simpa [r.length] using hi), List.getElem?_map] at h1
    rw [List.getElem?_eq_getElem hi] at h2
    have hi' : i < ds.length := by rw [r.length]; exact hi
    obtain ⟨w, e2, q⟩ := r.get (List.getElem?_eq_getElem hi')
    rw [List.getElem?_eq_getElem hi] at e2
    rw [List.getElem?_eq_getElem hi'] at h1
    simp at h1 h2 e2
    subst h1; subst h2
    exact ⟨_, rfl, by rw [e2]; exact q⟩
  · rw [List.getElem?_append_right (by simpa [r.length] using hi), List.getElem?_replicate] at h1
    split at h1
    · cases h1; trivial
    · cases h1
variable {P : Program} {w : World} {K : PySem.W.Frag} {mg : Str → Option Value} {base : Heap}
/-- a def of the text, with any defaults -/
structure Fn1 (K : PySem.W.Frag) (x qual : Str) (st : Stmt) (f : Addr) (fd : FuncData) : Prop where
  ex : ∃ (oc : Value) (od : Option Addr) (dV kV doc pm : Value) (an : Option Addr) (cdv ct : Value) (osl : Array (Option Value)),
    fd = PySem.W.fnOf x qual (defArgs st) (defBody st) (defScope st) dV kV doc pm an cdv ct ∧ K.lookup f = some ⟨oc, od, .func fd, osl⟩ ∧ PySem.W.codeIn K cdv qual = true
  kp : PySem.W.keepIn K (.ref f) = true
theorem Fn1.okX {x qual : Str} {st : Stmt} {f : Addr} {fd : FuncData} {N ps : List Str} {k : Nat} {sp : Sp} (F : Fn1 K x qual st f fd) (S : FnScope N ps (defScope st)) (len : ∀ vs H Q E, sp vs H Q E → vs.length = ps.length)
    (hbody : ∀ (cdv : Value) (A : Around) (outer : List Env) (s : Shared) (H : Hp) (vs : List V) (Q : VK) (E : XK), Room k (A.deeper (envOfC qual (defScope st) s.heap.objs.size f cdv)) → sp vs H Q E →
      ∃ t, PSs (cxOf (L2.CX P w) P w K mg base N qual (defScope st) f cdv A outer s H E) (defBody st) t ∧ t { nx := fun _ H' => Q .non H', rt := Q } (L2.start N vs) H) : FnOk P w K mg base (L2.CX P w) (k + 1) f fd ps sp := by
  obtain ⟨oc, od, dV, kV, doc, pm, an, cdv, ct, osl, rfl, lk, hcd⟩ := F.ex
  exact fn_of lk hcd S len fun A outer s H vs Q E hr hsp => hbody cdv A outer s H vs Q E hr hsp
/-- THE RULE of a def -/
theorem fn_ok {x qual : Str} {st : Stmt} {f : Addr} {fd : FuncData} {N ps : List Str} {k : Nat} {fb : FS} (F : Fn1 K x qual st f fd) (S : FnScope N ps (defScope st))
    (hbody : ∀ (cdv : Value) (A : Around) (outer : List Env) (s : Shared) (H : Hp) (E : XK), Room k (A.deeper (envOfC qual (defScope st) s.heap.objs.size f cdv)) →
      Takes (cxOf (L2.CX P w) P w K mg base N qual (defScope st) f cdv A outer s H E) (fun cls d _ H => E cls d H) →
      PSs (cxOf (L2.CX P w) P w K mg base N qual (defScope st) f cdv A outer s H E) (defBody st) (tS Γ (fun cls d _ H => E cls d H) fb)) :
    FnOk P w K mg base (L2.CX P w) (k + 1) f fd ps (spF Γ ps.length (runF N.length fb)) := by
  refine F.okX S (fun vs H Q E h => ?_) (fun cdv A outer s H vs Q E hr h => ⟨_, hbody cdv A outer s H E hr (takes_of rfl rfl rfl rfl), ?_⟩)
  · obtain ⟨as, G, M, ds, _, r, l, _⟩ := h
    rw [← r.length]; exact l
  · obtain ⟨as, G, M, ds, S2, r, l, q⟩ := h
    refine ⟨DL.now H as G, as, G, M, start0 N.length ds, sta_start S2 r, ?_⟩
    unfold runF at q
    cases e : fb (start0 N.length ds) M with
    | nx ρ M' => rw [e] at q; exact fun as' G' σ' H' s' => q as' G' H' _ s'.toSt2 rfl
    | rt d M' => rw [e] at q; exact fun as' G' H' v s' rv => q as' G' H' v s' rv
    | ex c xs ρ M' => rw [e] at q; exact fun as' G' σ' H' d s' x => q as' G' H' d s'.toSt2 x
    | bk ρ M' => rw [e] at q; exact q.elim
    | ct ρ M' => rw [e] at q; exact q.elim
    | bad => rw [e] at q; exact q.elim
end

/-! ### calls -/
def dCall (F : FN) (ddv : List D) (fa : FA) : FE := fun ρ M => (fa ρ M).bind fun ds M => F (ds ++ ddv) M
section
variable {X : Cx} {Γ : Gam} {W : WX}
/-- what a def promises, at a caller's state -/
theorem sp_of {Θ : Ent} {as : List Addr} {G H : Hp} {M : List MO} {ρ : List Sl} {σ : L2.St} {n : Nat} {F : FN} {ds : List D} {vs : List V} {Q : VK} (S : Sta Γ Θ as G M ρ σ H) (r : RepL Γ as G ds vs) (l : ds.length = n) (q : PostE Γ Θ W ρ σ as G Q (F ds M)) : spF Γ n F vs H Q (WE W σ) := by
  refine ⟨as, G, M, ds, S.toSt2.now, r, l, ?_⟩
  cases e : F ds M with
  | ok d M' => rw [e] at q; exact fun as' G' H' v C x => q as' G' H' v (S.after C) C.grow C.ext x
  | ex c xs M' => rw [e] at q; exact fun as' G' H' d C x => q as' G' H' d (S.after C) C.grow C.ext x
  | bad => rw [e] at q; exact q.elim
/-- as spF, but any number of arguments is told at the call -/
theorem keepsCall {n : Nat} {F : FN} {ddv : List D} {dvs : List V} (hdd : ∀ as G, RepL Γ as G ddv dvs) {σ : L2.St} {H : Hp} {Q : VK} {fa : FA} (h : tE Γ W (dCall (fun ds M => if ds.length = n then F ds M else .bad) ddv fa) σ H Q) :
    tA Γ W fa σ H fun vs H1 => spF Γ n F (vs ++ dvs) H1 Q (WE W σ) := by
  obtain ⟨Θ, as, G, M, ρ, S, q⟩ := h
  refine ⟨Θ, as, G, M, ρ, S, (PostE.bindA q).imp (Le.refl _) (List.prefix_refl _) ?_⟩
  rintro vs H1 ⟨ds, M1, as1, G1, S1, e1, p1, r, q1⟩
  dsimp only at q1
  split at q1
  · rename_i hl
    exact sp_of S1 (r.append (hdd _ _)) hl q1
  · exact q1.elim
abbrev lenIs (n : Nat) (F : FN) : FN := fun ds M => if ds.length = n then F ds M else .bad
theorem q_call {x : Str} {p pos : Pos} {e : Expr} {es : List Expr} {fa : FA} {k n : Nat} {f : Addr} {fd : FuncData} {ps : List Str} {F : FN} {ds : List Value} {dvs : List V} {ddv : List D}
    (Fo : FnOk X.prog X.w X.K X.mg X.base (L2.CX X.prog X.w) k f fd ps (spF Γ n F)) (hr : Room k X.A) (hg : Gl X x) (hm : X.mg x = some (.ref f)) (hk : PySem.W.keepIn X.K (.ref f) = true) (hb : Binds X.K fd ps ds) (hd : Vals dvs ds) (hdd : ∀ as G, RepL Γ as G ddv dvs) (tk : Takes X W)
    (ha : PA X (e :: es) (tA Γ W fa)) (hdb : (x == ("__debug__" : Str)) = false := by decide) (he : starEach (e :: es) X.env = (false, eval e X.env) :: starEach es X.env := by rfl) (hpl : (backTo pos (starEach es X.env)).any (·.1) = false := by rfl) :
    PE X (.Call (.Name x p) (e :: es) [] pos) (tE Γ W (dCall (lenIs n F) ddv fa)) :=
  PE.imp (pe_callSD Fo hr hg hm hk hb hd (fun σ => passAt tk σ) ha hdb he hpl) fun _ _ _ h => keepsCall hdd h
/-- o.m(e, ..), o data: an instance of the class of number c -/
def dMeth (c : Nat) (F : FN) (ddv : List D) (fo : FE) (fa : FA) : FE := fun ρ M => (fo ρ M).bind fun d M => match d with
  | .ins c' xs => if c' = c then (fa ρ M).bind fun ds M => F (.ins c' xs :: (ds ++ ddv)) M else .bad
  | .cel j => match M[j]? with
    | some (.obj c' _ _) => if c' = c then (fa ρ M).bind fun ds M => F (.cel j :: (ds ++ ddv)) M else .bad
    | _ => .bad
  | _ => .bad
end
end DL
set_option maxRecDepth 100000
namespace DL
open PySem PySem.Spec PyProof.Rows L2

/-! ### fields by name -/
def putN {α : Type} (f : Str) (d : α) : List Str → List α → List Str × List α
  | n :: ns, x :: xs => if n = f then (n :: ns, d :: xs) else (n :: (putN f d ns xs).1, x :: (putN f d ns xs).2)
  | _, _ => ([f], [d])
theorem putN_zip {f : Str} {y : V} : ∀ {ns : List Str} {vs : List V}, vs.length = ns.length → putF f y (ns.zip vs) = (putN f y ns vs).1.zip (putN f y ns vs).2
  | [], [], _ => rfl
  | n :: ns, v :: vs, h => by
    show (if n = f then (n, y) :: ns.zip vs else (n, v) :: putF f y (ns.zip vs)) = _
    unfold putN
    by_cases e : n = f
    · rw [if_pos e, if_pos e]; rfl
    · rw [if_neg e, if_neg e, putN_zip (by simpa using h)]; rfl
theorem putN_len {α : Type} {f : Str} {d : α} : ∀ {ns : List Str} {xs : List α}, xs.length = ns.length → (putN f d ns xs).2.length = (putN f d ns xs).1.length
  | [], [], _ => rfl
  | n :: ns, x :: xs, h => by
    unfold putN
    by_cases e : n = f
    · rw [if_pos e]; exact h
    · rw [if_neg e]; simpa using putN_len (f := f) (d := d) (ns := ns) (xs := xs) (by simpa using h)
theorem putN_rep {Γ : Gam} {as : List Addr} {G : Hp} {f : Str} {d : D} {v : V} (r : Rep Γ as G d v) : ∀ {ns : List Str} {xs : List D} {vs : List V}, RepL Γ as G xs vs → vs.length = ns.length → (putN f d ns xs).1 = (putN f v ns vs).1 ∧ RepL Γ as G (putN f d ns xs).2 (putN f v ns vs).2
  | [], [], vs, h, l => by cases h; exact ⟨rfl, RepL.cons r RepL.nil⟩
  | [], x :: xs, vs, h, l => by
    obtain ⟨w, ws, rfl, _, _⟩ := h
    simp at l
  | n :: ns, [], vs, h, l => by cases h; simp at l
  | n :: ns, x :: xs, vs, h, l => by
    obtain ⟨w, ws, rfl, rw', t⟩ := h
    unfold putN
    by_cases e : n = f
    · rw [if_pos e, if_pos e]; exact ⟨rfl, RepL.cons r t⟩
    · rw [if_neg e, if_neg e]
      obtain ⟨h1, h2⟩ := putN_rep r (ns := ns) t (by simpa using l)
      exact ⟨by rw [h1], RepL.cons rw' h2⟩
theorem zip_look {Γ : Gam} {as : List Addr} {G : Hp} {f : Str} {d : D} : ∀ {ns : List Str} {xs : List D} {vs : List V}, RepL Γ as G xs vs → (ns.zip xs).lookup f = some d → ∃ v, (ns.zip vs).lookup f = some v ∧ Rep Γ as G d v
  | [], xs, vs, h, e => by simp at e
  | n :: ns, [], vs, h, e => by simp at e
  | n :: ns, x :: xs, vs, h, e => by
    obtain ⟨w, ws, rfl, r, t⟩ := h
    rw [List.zip_cons_cons, List.lookup_cons] at e
    rw [List.zip_cons_cons, List.lookup_cons]
    cases q : f == n with
    | true => rw [q] at e; cases e; exact ⟨w, rfl, r⟩
    | false => rw [q] at e; exact zip_look t e

/-- what the text says of the classes whose instances are data -/
structure GOk (Γ : Gam) : Prop where
  cls : ∀ c f, f ∈ cn c → Cls Γ.K (Γ.cA c) ∧ NoAttr Γ.K (Γ.cA c) f
theorem look_mem {α : Type} {f : Str} {d : α} : ∀ {ns : List Str} {xs : List α}, (ns.zip xs).lookup f = some d → f ∈ ns
  | [], xs, e => by simp at e
  | n :: ns, [], e => by simp at e
  | n :: ns, x :: xs, e => by
    rw [List.zip_cons_cons, List.lookup_cons] at e
    cases q : f == n with
    | true => rw [beq_iff_eq.mp q]; exact List.mem_cons_self
    | false => rw [q] at e; exact List.mem_cons_of_mem _ (look_mem e)

def fldOf (f : Str) (M : List MO) : D → Option D
  | .ins c xs => ((cn c).zip xs).lookup f
  | .cel n => match M[n]? with
    | some (.obj c ns xs) => if f ∈ cn c then (ns.zip xs).lookup f else none
    | _ => none
  | _ => none
def ofOpt (o : Option D) (M : List MO) : R D := match o with
  | some d => .ok d M
  | none => .bad
def dFld (f : Str) (fo : FE) : FE := fun ρ M => (fo ρ M).bind fun d M => ofOpt (fldOf f M d) M
/-- self.f where self is being made -/
def dFldO (i : Nat) (f : Str) : FE := fun ρ M => match ρ[i]? with
  | some (.obj c ns xs) => if f ∈ cn c then ofOpt ((ns.zip xs).lookup f) M else .bad
  | _ => .bad
section
variable {X : Cx} {Γ : Gam} {W : WX}
theorem q_fld {o : Expr} {f : Str} {pos : Pos} {fo : FE} (T : GOk Γ) (hK : Γ.K = X.K) (ho : PE X o (tE Γ W fo)) (hb : attributeBase o f X.env (eval o X.env) = eval o X.env := by rfl) : PE X (.Attribute o f pos) (tE Γ W (dFld f fo)) := PE.imp (pe_fld ho hb) fun σ H Q ⟨Θ, as, G, M, ρ, S, q⟩ => by
  refine ⟨Θ, as, G, M, ρ, S, (PostE.bindE q).imp (Le.refl _) (List.prefix_refl _) ?_⟩
  rintro v H1 ⟨d, M1, as1, G1, S1, e1, p1, r, q1⟩
  unfold ofOpt at q1
  split at q1
  · rename_i y hy
    unfold fldOf at hy
    cases d with
    | ins c xs =>
      obtain ⟨a, dx, vs, e, g, l, rl⟩ := r
      obtain ⟨w, hw, rw'⟩ := zip_look rl hy
      obtain ⟨c1, c2⟩ := T.cls c f (look_mem hy)
      rw [hK] at c1 c2
      exact ⟨a, _, dx, _, w, e, S1.sub _ _ g, c1, c2, hw, q1 _ _ _ _ S1 (Le.refl _) (List.prefix_refl _) rw'⟩
    | cel n =>
      obtain ⟨a, ea, ev⟩ := r
      dsimp only at hy
      split at hy
      · rename_i c ns xs em
        split at hy
        · rename_i hf
          obtain ⟨c1, c2⟩ := T.cls c f hf
          rw [hK] at c1 c2
          obtain ⟨_, _, dx, vs, g, l, rl⟩ := S1.cel n a _ ea em (by simp)
          obtain ⟨w, hw, rw'⟩ := zip_look rl hy
          exact ⟨a, _, dx, _, w, ev, g, c1, c2, hw, q1 _ _ _ _ S1 (Le.refl _) (List.prefix_refl _) rw'⟩
        · cases hy
      · cases hy
    | _ => cases hy
  · exact q1.elim
theorem q_fldO {o : Expr} {f : Str} {pos : Pos} {i : Nat} (T : GOk Γ) (hK : Γ.K = X.K) (ho : PE X o (tVar i)) (hb : attributeBase o f X.env (eval o X.env) = eval o X.env := by rfl) : PE X (.Attribute o f pos) (tE Γ W (dFldO i f)) := PE.imp (pe_fld ho hb) fun σ H Q ⟨Θ, as, G, M, ρ, S, q⟩ => by
  unfold dFldO at q
  split at q
  · rename_i c ns xs hi
    split at q
    · rename_i hf
      unfold ofOpt at q
      split at q
      · rename_i y hy
        have hl : i < σ.length := by rw [← S.slen]; exact (List.getElem?_eq_some_iff.mp hi).1
        obtain ⟨a, dx, vs, e, g, l, rl⟩ := S.env i _ _ hi (List.getElem?_eq_getElem hl)
        obtain ⟨w, hw, rw'⟩ := zip_look rl hy
        obtain ⟨c1, c2⟩ := T.cls c f hf
        rw [hK] at c1 c2
        exact ⟨.ref a, by rw [List.getElem?_eq_getElem hl, e], a, _, dx, _, w, rfl, g, c1, c2, hw, q _ _ _ _ S (Le.refl _) (List.prefix_refl _) rw'⟩
      · exact q.elim
    · exact q.elim
  · exact q.elim

/-! ### methods -/
/-- o.m(e, ..), what is raised is wished for at the slots -/
def tMethW (C : Addr) (m : Str) (sp : Sp) (dvs : List V) (E : L2.St → XK) (ta : TE) (t : TA) : TE := fun σ H Q => ta σ H fun x H1 => ∃ a dx fs, x = .ref a ∧ H1 a = some (.ins C dx fs) ∧ fs.lookup m = none ∧
  t σ H1 fun vs H2 => sp (x :: (vs ++ dvs)) H2 Q (E σ)
section
variable {CX : CXT} {k : Nat} {f C : Addr} {fd : FuncData} {ps : List Str} {sp : Sp} {dvs : List V} {ds : List Value} {E : L2.St → XK} {x m : Str} {p pos apos : Pos} {e o : Expr} {es : List Expr} {ta : TE} {t : TA}
theorem pe_methW {pl : Sem Bool} (he : PE X o ta) (c : Cls X.K C) (hm : Meth X.K C m f) (F : FnOk X.prog X.w X.K X.mg X.base CX k f fd ps sp) (hr : Room k X.A) (hb : Binds X.K fd ps ds) (hd : Vals dvs ds) (hx : ∀ σ, PassesAt CX X σ (E σ)) (ha : PA X (e :: es) t)
    (hst : starEach (e :: es) X.env = (false, eval e X.env) :: starEach es X.env := by rfl) (hpl : (backTo pos (starEach es X.env)).any (·.1) = false := by rfl)
    (ht : eval (.Call (.Attribute o m apos) (e :: es) [] pos) X.env = (do
      let ov ← eval o X.env
      standAt apos.atName
      let (f, first) ← holding [ov] (getMethod ov m pl)
      callWith pos f first (backTo pos (starEach (e :: es) X.env)) (backToKw pos (keywordEach [] X.env))) := by rfl) :
    PE X (.Call (.Attribute o m apos) (e :: es) [] pos) (tMethW C m sp dvs E ta t) :=
  ⟨fun pins s σ H Q I h => PySem.W.methodCall_KW (pl := pl) (thn (he.run pins s σ H _ I h) fun u s1 ⟨x, H1, I1, rx, a, dx, fs, ex, ea, l, q⟩ => by
    cases ex
    cases rx
    exact getmeth_ok I1 ea c hm l (PySem.W.callWith_K (first := [.ref a]) (h₀ := X.base) I.ok.mod.kin hm.kp (thn (ha.run pos pins s1 σ H1 _ I1 q) fun us s2 ⟨vs, H2, I2, r, q2⟩ =>
      ⟨I2.kIn, run_fnSD (us := .ref a :: us) (vs := .ref a :: vs) F hr hb hd (hx σ) I2 (.cons rfl r) q2⟩) hst hpl)) ht⟩
theorem pe_methW0 {pl : Sem Bool} (he : PE X o ta) (c : Cls X.K C) (hm : Meth X.K C m f) (F : FnOk X.prog X.w X.K X.mg X.base CX k f fd ps sp) (hr : Room k X.A) (hb : Binds X.K fd ps ds) (hd : Vals dvs ds) (hx : ∀ σ, PassesAt CX X σ (E σ))
    (ht : eval (.Call (.Attribute o m apos) [] [] pos) X.env = (do
      let ov ← eval o X.env
      standAt apos.atName
      let (f, first) ← holding [ov] (getMethod ov m pl)
      callWith pos f first (backTo pos (starEach [] X.env)) (backToKw pos (keywordEach [] X.env))) := by rfl) :
    PE X (.Call (.Attribute o m apos) [] [] pos) (tMethW C m sp dvs E ta tNil) :=
  ⟨fun pins s σ H Q I h => PySem.W.methodCall_KW (pl := pl) (thn (he.run pins s σ H _ I h) fun u s1 ⟨x, H1, I1, rx, a, dx, fs, ex, ea, l, q⟩ => by
    cases ex
    cases rx
    exact getmeth_ok I1 ea c hm l (PySem.W.callWith_K0 (first := [.ref a]) I1.kIn hm.kp (run_fnSD (us := [.ref a]) (vs := [.ref a]) F hr hb hd (hx σ) I1 (.cons rfl .nil) q))) ht⟩
end
theorem zip_nolook {α : Type} {m : Str} : ∀ {ns : List Str} {xs : List α}, m ∉ ns → (ns.zip xs).lookup m = none
  | [], xs, _ => by simp
  | n :: ns, [], _ => by simp
  | n :: ns, x :: xs, h => by
    rw [List.zip_cons_cons, List.lookup_cons]
    have e : (m == n) = false := by
      cases q : m == n with
      | false => rfl
      | true => exact absurd (by rw [beq_iff_eq.mp q]; exact List.mem_cons_self) h
    rw [e]
    exact zip_nolook fun z => h (List.mem_cons_of_mem _ z)
/-- which cells hold an instance of class c whose own attributes don't hide m -/
def isIns (c : Nat) (m : Str) (M : List MO) : D → Bool
  | .ins c' _ => c' = c && !(cn c).contains m
  | .cel j => match M[j]? with
    | some (.obj c' ns _) => c' = c && !ns.contains m
    | _ => false
  | _ => false
theorem isIns_at {c : Nat} {m : Str} {Θ : Ent} {as : List Addr} {G H : Hp} {M : List MO} (S : St2 Γ Θ as G M H) {d : D} {v : V} (r : Rep Γ as G d v) (h : isIns c m M d = true) : ∃ a dx fs, v = .ref a ∧ H a = some (.ins (Γ.cA c) dx fs) ∧ fs.lookup m = none := by
  cases d with
  | ins c' xs =>
    obtain ⟨a, dx, vs, e, g, l, _⟩ := r
    unfold isIns at h
    simp only [Bool.and_eq_true, decide_eq_true_eq, Bool.not_eq_true'] at h
    obtain ⟨rfl, h2⟩ := h
    exact ⟨a, dx, _, e, S.sub _ _ g, zip_nolook fun z => by rw [List.contains_iff_mem.mpr z] at h2; cases h2⟩
  | cel j =>
    obtain ⟨a, ea, ev⟩ := r
    unfold isIns at h
    dsimp only at h
    split at h
    · rename_i c' ns xs em
      simp only [Bool.and_eq_true, decide_eq_true_eq, Bool.not_eq_true'] at h
      obtain ⟨rfl, h2⟩ := h
      obtain ⟨_, _, dx, vs, g, l, rl⟩ := S.cel j a _ ea em (by simp)
      exact ⟨a, dx, _, ev, g, zip_nolook fun z => by rw [List.contains_iff_mem.mpr z] at h2; cases h2⟩
    · cases h
  | _ => cases h
def dMethC (c : Nat) (m : Str) (F : FN) (ddv : List D) (fo : FE) (fa : FA) : FE := fun ρ M => (fo ρ M).bind fun d M => if isIns c m M d then (fa ρ M).bind fun ds M => F (d :: (ds ++ ddv)) M else .bad
theorem keepsMeth {c : Nat} {m : Str} {n : Nat} {F : FN} {ddv : List D} {dvs : List V} (hdd : ∀ as G, RepL Γ as G ddv dvs) {fo : FE} {fa : FA} {σ : L2.St} {H : Hp} {Q : VK} (h : tE Γ W (dMethC c m (lenIs n F) ddv fo fa) σ H Q) :
    tMethW (Γ.cA c) m (spF Γ n F) dvs (WE W) (tE Γ W fo) (tA Γ W fa) σ H Q := by
  obtain ⟨Θ, as, G, M, ρ, S, q⟩ := h
  refine ⟨Θ, as, G, M, ρ, S, (PostE.bindE q).imp (Le.refl _) (List.prefix_refl _) ?_⟩
  rintro v H1 ⟨d, M1, as1, G1, S1, e1, p1, r, q1⟩
  split at q1
  · rename_i hc
    obtain ⟨a, dx, fs, ev, g, hl⟩ := isIns_at S1.toSt2 r hc
    refine ⟨a, dx, fs, ev, g, hl, Θ, as1, G1, M1, ρ, S1, (PostE.bindA q1).imp (Le.refl _) (List.prefix_refl _) ?_⟩
    rintro vs H2 ⟨ds, M2, as2, G2, S2, e2, p2, rs, q2⟩
    dsimp only [lenIs] at q2
    split at q2
    · rename_i hz
      exact sp_of S2 (RepL.cons (r.mono e2 p2) (rs.append (hdd _ _))) hz q2
    · exact q2.elim
  · exact q1.elim
theorem q_meth {c : Nat} {k n : Nat} {f : Addr} {fd : FuncData} {ps : List Str} {F : FN} {dvs : List V} {ddv : List D} {ds : List Value} {m : Str} {pos apos : Pos} {e o : Expr} {es : List Expr} {fo : FE} {fa : FA} {pl : Sem Bool} (he : PE X o (tE Γ W fo)) (cl : Cls X.K (Γ.cA c)) (hm : Meth X.K (Γ.cA c) m f) (Fo : FnOk X.prog X.w X.K X.mg X.base (L2.CX X.prog X.w) k f fd ps (spF Γ n F))
    (hr : Room k X.A) (hb : Binds X.K fd ps ds) (hd : Vals dvs ds) (hdd : ∀ as G, RepL Γ as G ddv dvs) (tk : Takes X W) (ha : PA X (e :: es) (tA Γ W fa))
    (hst : starEach (e :: es) X.env = (false, eval e X.env) :: starEach es X.env := by rfl) (hpl : (backTo pos (starEach es X.env)).any (·.1) = false := by rfl)
    (ht : eval (.Call (.Attribute o m apos) (e :: es) [] pos) X.env = (do
      let ov ← eval o X.env
      standAt apos.atName
      let (f, first) ← holding [ov] (getMethod ov m pl)
      callWith pos f first (backTo pos (starEach (e :: es) X.env)) (backToKw pos (keywordEach [] X.env))) := by rfl) :
    PE X (.Call (.Attribute o m apos) (e :: es) [] pos) (tE Γ W (dMethC c m (lenIs n F) ddv fo fa)) := PE.imp (pe_methW he cl hm Fo hr hb hd (fun σ => passAt tk σ) ha hst hpl ht) fun _ _ _ h => keepsMeth hdd h
theorem keepsMeth0 {c : Nat} {m : Str} {n : Nat} {F : FN} {ddv : List D} {dvs : List V} (hdd : ∀ as G, RepL Γ as G ddv dvs) {fo : FE} {σ : L2.St} {H : Hp} {Q : VK} (h : tE Γ W (dMethC c m (lenIs n F) ddv fo aNil) σ H Q) :
    tMethW (Γ.cA c) m (spF Γ n F) dvs (WE W) (tE Γ W fo) tNil σ H Q := by
  obtain ⟨Θ, as, G, M, ρ, S, q⟩ := h
  refine ⟨Θ, as, G, M, ρ, S, (PostE.bindE q).imp (Le.refl _) (List.prefix_refl _) ?_⟩
  rintro v H1 ⟨d, M1, as1, G1, S1, e1, p1, r, q1⟩
  split at q1
  · rename_i hc
    obtain ⟨a, dx, fs, ev, g, hl⟩ := isIns_at S1.toSt2 r hc
    have q2 : PostE Γ Θ W ρ σ as1 G1 Q (lenIs n F (d :: ([] ++ ddv)) M1) := q1
    dsimp only [lenIs] at q2
    split at q2
    · rename_i hz
      exact ⟨a, dx, fs, ev, g, hl, sp_of S1 (RepL.cons r (RepL.nil.append (hdd _ _))) hz q2⟩
    · exact q2.elim
  · exact q1.elim
theorem q_meth0 {c : Nat} {k n : Nat} {f : Addr} {fd : FuncData} {ps : List Str} {F : FN} {dvs : List V} {ddv : List D} {ds : List Value} {m : Str} {pos apos : Pos} {o : Expr} {fo : FE} {pl : Sem Bool} (he : PE X o (tE Γ W fo)) (cl : Cls X.K (Γ.cA c)) (hm : Meth X.K (Γ.cA c) m f) (Fo : FnOk X.prog X.w X.K X.mg X.base (L2.CX X.prog X.w) k f fd ps (spF Γ n F))
    (hr : Room k X.A) (hb : Binds X.K fd ps ds) (hd : Vals dvs ds) (hdd : ∀ as G, RepL Γ as G ddv dvs) (tk : Takes X W)
    (ht : eval (.Call (.Attribute o m apos) [] [] pos) X.env = (do
      let ov ← eval o X.env
      standAt apos.atName
      let (f, first) ← holding [ov] (getMethod ov m pl)
      callWith pos f first (backTo pos (starEach [] X.env)) (backToKw pos (keywordEach [] X.env))) := by rfl) :
    PE X (.Call (.Attribute o m apos) [] [] pos) (tE Γ W (dMethC c m (lenIs n F) ddv fo aNil)) := PE.imp (pe_methW0 he cl hm Fo hr hb hd (fun σ => passAt tk σ) ht) fun _ _ _ h => keepsMeth0 hdd h
end
end DL
set_option maxRecDepth 100000
namespace DL
open PySem PySem.Spec PyProof.Rows L2

/-! ### an instance that is data: made by its __init__ -/
/-- the entry of an __init__: self at x may change -/
abbrev nowI (H : Hp) (as : List Addr) (G : Hp) (x : Addr) : Ent := ⟨H, as, G, fun a => a ∈ as ∨ a = x, some x⟩
def PostI (Γ : Gam) (Θ : Ent) (c : Nat) (x : Addr) (Q : VK) (E : XK) : R (List D) → Prop
  | .ok xs M => ∀ as' G' H' dx vs, St2 Γ Θ as' G' M H' → G' x = none → x ∉ as' → H' x = some (.ins (Γ.cA c) dx ((cn c).zip vs)) → vs.length = (cn c).length → RepL Γ as' G' xs vs → Q .non H'
  | .ex e xs M => ∀ as' G' H' d, St2 Γ Θ as' G' M H' → XP Γ as' G' e xs d → E (.ref (Γ.eA e)) (some d) H'
  | .bad => False
def spI (Γ : Gam) (c n : Nat) (F : List D → List MO → R (List D)) : Sp := fun vs H Q E => ∃ as G M ds x dx ws, vs = .ref x :: ws ∧ St2 Γ (DL.now H as G) as G M H ∧ H x = some (.ins (Γ.cA c) dx []) ∧ G x = none ∧ x ∉ as ∧
  RepL Γ as G ds ws ∧ ds.length = n ∧ PostI Γ (nowI H as G x) c x Q E (F ds M)
def runI (c n : Nat) (f : FS) (ds : List D) (M : List MO) : R (List D) := match f (.obj c [] [] :: start0 n ds) M with
  | .nx ρ M => match ρ[0]? with
    | some (Sl.obj c' ns xs) => if c' = c ∧ ns = cn c then .ok xs M else .bad
    | _ => .bad
  | .ex e xs _ M => .ex e xs M
  | _ => .bad
section
variable {Γ : Gam}
theorem sta_startI {as : List Addr} {G H : Hp} {M : List MO} {ds : List D} {vs : List V} {N : List Str} {c : Nat} {x dx : Addr} {p : Str} (S : St2 Γ (DL.now H as G) as G M H) (r : RepL Γ as G ds vs) (hx : H x = some (.ins (Γ.cA c) dx [])) (gx : G x = none) (ax : x ∉ as) :
    Sta Γ (nowI H as G x) as G M (.obj c [] [] :: start0 N.length ds) (L2.start (p :: N) (.ref x :: vs)) H := by
  have S0 := sta_start (N := N) S r
  have es : L2.start (p :: N) (.ref x :: vs) = some (.ref x) :: L2.start N vs := by simp [L2.start]
  rw [es]
  have ow : ∀ i a, Owns (.obj c [] [] :: start0 N.length ds) (some (.ref x) :: L2.start N vs) i a → i = 0 ∧ a = x := fun i a ⟨h, e⟩ => by
    cases i with
    | zero => simp at e; exact ⟨rfl, e.symm⟩
    | succ i =>
      exfalso
      simp only [List.getElem?_cons_succ] at h e
      have o : Owns (start0 N.length ds) (L2.start N vs) i a := ⟨h, e⟩
      have key : ∀ s, (start0 N.length ds)[i]? = some s → (∃ d, s = .d d) ∨ s = .mt := fun s hs => by
        unfold start0 at hs
        by_cases hi : i < (ds.map Sl.d).length
        · rw [List.getElem?_append_left hi, List.getElem?_map] at hs
          cases q : ds[i]? with
          | none => rw [q] at hs; simp at hs
          | some d => rw [q] at hs; exact .inl ⟨d, (Option.some.inj hs).symm⟩
        · rw [List.getElem?_append_right (Nat.le_of_not_lt hi), List.getElem?_replicate] at hs
          split at hs
          · exact .inr (Option.some.inj hs).symm
          · cases hs
      rcases h with ⟨xs, h⟩ | ⟨c, ns, xs, h⟩ <;> rcases key _ h with ⟨d, e⟩ | e <;> cases e
  refine ⟨⟨S.sub, Le.refl _, List.prefix_refl _, fun _ h => .inl h, fun _ _ h _ => h, fun _ o h => ⟨o, h⟩, fun _ _ h => .inl h, S.len, S.nd, S.cel, fun _ h => .inl h, S.ain⟩, by simp [S0.slen], fun i s ov h1 h2 => ?_, fun i a o => ?_, fun i j a o1 o2 => ?_, fun i c ns xs a h1 h2 => ?_⟩
  · cases i with
    | zero =>
      simp at h1 h2
      subst h1; subst h2
      exact ⟨x, dx, [], rfl, hx, rfl, RepL.nil⟩
    | succ i => exact S0.env i s ov (by simpa using h1) (by simpa using h2)
  · obtain ⟨rfl, rfl⟩ := ow i a o
    exact ⟨gx, ax, .inr (.inr rfl)⟩
  · rw [(ow i a o1).1, (ow j a o2).1]
  · rw [(ow i a ⟨.inr ⟨c, ns, xs, h1⟩, h2⟩).2]
variable {P : Program} {w : World} {K : PySem.W.Frag} {mg : Str → Option Value} {base : Heap}
theorem init_ok {x qual p : Str} {st : Stmt} {f : Addr} {fd : FuncData} {N ps : List Str} {k c : Nat} {fb : FS} (F : Fn1 K x qual st f fd) (S : FnScope (p :: N) (p :: ps) (defScope st))
    (hbody : ∀ (cdv : Value) (A : Around) (outer : List Env) (s : Shared) (H : Hp) (E : XK), Room k (A.deeper (envOfC qual (defScope st) s.heap.objs.size f cdv)) →
      Takes (cxOf (L2.CX P w) P w K mg base (p :: N) qual (defScope st) f cdv A outer s H E) (fun cls d _ H => E cls d H) →
      PSs (cxOf (L2.CX P w) P w K mg base (p :: N) qual (defScope st) f cdv A outer s H E) (defBody st) (tS Γ (fun cls d _ H => E cls d H) fb)) :
    FnOk P w K mg base (L2.CX P w) (k + 1) f fd (p :: ps) (spI Γ c ps.length (runI c N.length fb)) := by
  refine F.okX S (fun vs H Q E h => ?_) (fun cdv A outer s H vs Q E hr h => ⟨_, hbody cdv A outer s H E hr (takes_of rfl rfl rfl rfl), ?_⟩)
  · obtain ⟨as, G, M, ds, x, dx, ws, rfl, _, _, _, _, r, l, _⟩ := h
    simp [← r.length, l]
  · obtain ⟨as, G, M, ds, x, dx, ws, rfl, S2, hx, gx, ax, r, l, q⟩ := h
    refine ⟨nowI H as G x, as, G, M, _, sta_startI S2 r hx gx ax, ?_⟩
    unfold runI at q
    cases e : fb (.obj c [] [] :: start0 N.length ds) M with
    | nx ρ M' =>
      rw [e] at q
      dsimp only at q
      split at q
      · rename_i c' ns xs h0
        split at q
        · rename_i hc
          obtain ⟨rfl, rfl⟩ := hc
          intro as' G' σ' H' s'
          have hl : 0 < σ'.length := by rw [← s'.slen]; exact (List.getElem?_eq_some_iff.mp h0).1
          obtain ⟨a, dx', vs, e1, e2, e3, e4⟩ := s'.env 0 _ _ h0 (List.getElem?_eq_getElem hl)
          have ow : Owns ρ σ' 0 a := ⟨.inr ⟨_, _, _, h0⟩, by rw [List.getElem?_eq_getElem hl, e1]⟩
          obtain ⟨o1, o2, o3⟩ := s'.own 0 a ow
          have ex : x = a := Option.some.inj (s'.slf 0 _ _ _ a h0 (by rw [List.getElem?_eq_getElem hl, e1]))
          subst ex
          exact q as' G' H' dx' vs s'.toSt2 o1 o2 e2 e3 e4
        · exact q.elim
      · exact q.elim
    | rt d M' => rw [e] at q; exact q.elim
    | ex c xs ρ M' => rw [e] at q; exact fun as' G' σ' H' d s' x => q as' G' H' d s'.toSt2 x
    | bk ρ M' => rw [e] at q; exact q.elim
    | ct ρ M' => rw [e] at q; exact q.elim
    | bad => rw [e] at q; exact q.elim
end

section
variable {Γ : Gam} {Θ : Ent} {as as' : List Addr} {G G' H H' H1 : Hp} {M M' : List MO}
/-- what stood as one's own stands for good -/
theorem St2.freeze (S : St2 Γ Θ as G M H) {x : Addr} {o : HO} (g : G x = none) (h : H x = some o) (e : Θ.H x = none ∨ Θ.mu x) (a : x ∉ as) : St2 Γ Θ as (upd G x o) M H where
  sub := fun b u hb => by
    by_cases q : b = x
    · subst q; rw [upd_same] at hb; rw [h, hb]
    · rw [upd_ne q] at hb; exact S.sub b u hb
  grow := S.grow.trans (Le.new g)
  ext := S.ext
  esub := S.esub
  fr := S.fr
  pres := S.pres
  gfr := fun b u hb => by
    by_cases q : b = x
    · subst q; exact .inr e
    · rw [upd_ne q] at hb; exact S.gfr b u hb
  len := S.len
  nd := S.nd
  cel := fun k b m h1 h2 h3 => by
    obtain ⟨c1, c2, c3⟩ := S.cel k b m h1 h2 h3
    have q : b ≠ x := fun z => a (by rw [← z]; exact List.mem_of_getElem? h1)
    exact ⟨by rw [upd_ne q]; exact c1, c2, c3.mono (Le.new g) (List.prefix_refl _) rfl⟩
  cfr := S.cfr
  ain := S.ain
/-- behind an __init__ -/
theorem St2.made {x dx : Addr} {u v : HO} (nx : H x = none) (nd : H dx = none) (ne : dx ≠ x) (C : St2 Γ (nowI (upd (upd H dx u) x v) as G x) as' G' M' H') : St2 Γ (DL.now H as G) as' G' M' H' := by
  have up : ∀ a o, H a = some o → (upd (upd H dx u) x v) a = some o := fun a o h => by rw [upd_ne (ne_of_none h nx), upd_ne (ne_of_none h nd)]; exact h
  have dn : ∀ a, (upd (upd H dx u) x v) a = none → H a = none := fun a h => by
    cases q : H a with
    | none => rfl
    | some o => rw [up a o q] at h; cases h
  refine ⟨C.sub, C.grow, C.ext, fun _ h => h, fun a o h ha => C.fr a o (up a o h) fun z => ?_, fun a o h => C.pres a o (up a o h), fun a o h => ?_, C.len, C.nd, C.cel, fun a h => ?_, C.ain⟩
  · rcases z with z | z
    · exact ha z
    · exact ne_of_none h nx z
  · rcases C.gfr a o h with q | q | q | q
    · exact .inl q
    · exact .inr (.inl (dn a q))
    · exact .inr (.inr q)
    · exact .inr (.inl (by rw [q]; exact nx))
  · rcases C.cfr a h with q | q
    · exact .inl q
    · exact .inr (dn a q)
end

section
variable {X : Cx} {Γ : Gam} {W : WX}
/-- C(..): what is raised is wished for at the slots -/
def tMakeW (C : Addr) (sp : Sp) (dvs : List V) (E : L2.St → XK) (t : TA) : TE := fun σ H Q => t σ H fun vs H1 => ∀ x dx, H1 x = none → H1 dx = none → dx ≠ x →
  sp (.ref x :: (vs ++ dvs)) (upd (upd H1 dx (.own x)) x (.ins C dx [])) (fun v H2 => v = .non ∧ Q (.ref x) H2) (E σ)
section
variable {CX : CXT} {k : Nat} {f C : Addr} {fd : FuncData} {ps : List Str} {sp : Sp} {dvs : List V} {ds : List Value} {E : L2.St → XK} {x : Str} {p pos : Pos} {e : Expr} {es : List Expr} {t : TA}
theorem run_makeW {pins : List (Addr × Obj)} {σ : L2.St} {H : Hp} {s : Shared} {Q : VK} {us : List Value} {vs : List V} (M : Mk X.K C f) (F : FnOk X.prog X.w X.K X.mg X.base CX k f fd ps sp) (hr : Room (k + 1) X.A) (hb : Binds X.K fd ps ds) (hd : Vals dvs ds)
    (hx : ∀ σ, PassesAt CX X σ (E σ)) (I : Inv X pins σ H s) (r : Vals vs us)
    (h : ∀ x dx, H x = none → H dx = none → dx ≠ x → sp (.ref x :: (vs ++ dvs)) (upd (upd H dx (.own x)) x (.ins C dx [])) (fun v H2 => v = .non ∧ Q (.ref x) H2) (E σ)) :
    wpAny (model X.prog X.w) X.A (call (.ref C) us) (EP X pins σ Q) X.xe s := by
  generalize hz : s.heap.objs.size = z at *
  have hq := h (z + 1) z (I.hok.fresh (by rw [hz]; exact Nat.le_succ z)) (I.hok.fresh (by rw [hz]; exact Nat.le_refl z)) (Nat.ne_of_lt (Nat.lt_succ_self z))
  have I2 := Inv.made (C := C) I
  rw [hz] at I2
  have r2 : Vals (V.ref (z + 1) :: (vs ++ dvs)) (Value.ref (z + 1) :: (us ++ ds)) := .cons rfl (r.append hd)
  have hl : (Value.ref (z + 1) :: us ++ ds).length = ps.length := (r2.length.symm.trans (F.len _ _ _ _ hq))
  refine wpAny_call (make_map (f := f) I.kIn M.makes M.init (beq_iff_eq.mp M.fn) ?_)
  rw [hz]
  refine codeAny_mono (F.run _ X.stack _ _ ⟨Value.ref (z + 1) :: us, []⟩ (Value.ref (z + 1) :: (us ++ ds)) _ _ (E σ) (hr.make C us []) (I2.env0.make C us []) (hb _ (Value.ref (z + 1) :: us) I2.kIn hl) r2 hq) fun r s' hq' => ?_
  match r, hq' with
  | .error e, hq' => exact hx σ pins _ _ e s' I2 hq'
  | .ok (.ret u), hq' =>
    obtain ⟨v, H', I3, rv, ev, q3⟩ := I2.after hq'
    cases ev
    exact ⟨rv, .ref (z + 1), H', I3, rfl, q3⟩
theorem pe_makeW (M : Mk X.K C f) (F : FnOk X.prog X.w X.K X.mg X.base CX k f fd ps sp) (hr : Room (k + 1) X.A) (hg : Gl X x) (hm : X.mg x = some (.ref C)) (hb : Binds X.K fd ps ds) (hd : Vals dvs ds) (hx : ∀ σ, PassesAt CX X σ (E σ))
    (ha : PA X (e :: es) t) (hdb : (x == ("__debug__" : Str)) = false := by decide) (he : starEach (e :: es) X.env = (false, eval e X.env) :: starEach es X.env := by rfl) (hpl : (backTo pos (starEach es X.env)).any (·.1) = false := by rfl) :
    PE X (.Call (.Name x p) (e :: es) [] pos) (tMakeW C sp dvs E t) :=
  ⟨fun pins s σ H Q I h => wpAny_Call_Name_kw (ld_glob I hg hm (PySem.W.callWith_K (h₀ := X.base) I.ok.mod.kin M.kp (thn (ha.run pos pins s σ H _ I h) fun us s1 ⟨vs, H1, I1, r, q⟩ => ⟨I1.kIn, run_makeW M F hr hb hd hx I1 r q⟩) he hpl) hdb)⟩
end
def dMake (c n : Nat) (F : List D → List MO → R (List D)) (ddv : List D) (fa : FA) : FE := fun ρ M => (fa ρ M).bind fun ds M => if (ds ++ ddv).length = n then (F (ds ++ ddv) M).bind fun xs M => .ok (.ins c xs) M else .bad
theorem q_make {c n k : Nat} {f : Addr} {fd : FuncData} {ps : List Str} {F : List D → List MO → R (List D)} {dvs : List V} {ddv : List D} {ds : List Value} {x : Str} {p pos : Pos} {e : Expr} {es : List Expr} {fa : FA} (Mm : Mk X.K (Γ.cA c) f) (Fo : FnOk X.prog X.w X.K X.mg X.base (L2.CX X.prog X.w) k f fd ps (spI Γ c n F)) (hr : Room (k + 1) X.A) (hg : Gl X x) (hm : X.mg x = some (.ref (Γ.cA c)))
    (hb : Binds X.K fd ps ds) (hd : Vals dvs ds) (hdd : ∀ as G, RepL Γ as G ddv dvs) (tk : Takes X W) (ha : PA X (e :: es) (tA Γ W fa))
    (hdb : (x == ("__debug__" : Str)) = false := by decide) (he : starEach (e :: es) X.env = (false, eval e X.env) :: starEach es X.env := by rfl) (hpl : (backTo pos (starEach es X.env)).any (·.1) = false := by rfl) :
    PE X (.Call (.Name x p) (e :: es) [] pos) (tE Γ W (dMake c n F ddv fa)) := PE.imp (pe_makeW Mm Fo hr hg hm hb hd (fun σ => passAt tk σ) ha hdb he hpl) fun σ H Q ⟨Θ, as, G, M, ρ, S, q⟩ => by
  refine ⟨Θ, as, G, M, ρ, S, (PostE.bindA q).imp (Le.refl _) (List.prefix_refl _) ?_⟩
  rintro vs H1 ⟨ds, M1, as1, G1, S1, e1, p1, r, q1⟩ x dx nx ndx ne
  split at q1
  · rename_i hl
    have hx : (upd H1 dx (.own x)) x = none := by rw [upd_ne (Ne.symm ne)]; exact nx
    have C1 : St2 Γ (DL.now H1 as1 G1) as1 G1 M1 (upd (upd H1 dx (.own x)) x (.ins (Γ.cA c) dx [])) := (S1.toSt2.lay0 ndx).after ((S1.toSt2.lay0 (o := .own x) ndx).lay0 hx)
    have gx : G1 x = none := S1.sub.free nx
    have ax : x ∉ as1 := fun z => by
      obtain ⟨o, h⟩ := S1.ain x z
      rw [nx] at h; cases h
    refine ⟨as1, G1, M1, ds ++ ddv, x, dx, vs ++ dvs, rfl, C1.now, upd_same, gx, ax, r.append (hdd _ _), hl, ?_⟩
    cases eF : F (ds ++ ddv) M1 with
    | ok xs M' =>
      rw [eF] at q1
      intro as' G' H' dx' ws C2 g2 a2 h2 l2 r2
      have C3 : St2 Γ (DL.now H1 as1 G1) as' G' M' H' := St2.made nx ndx ne C2
      have C4 := C3.freeze g2 h2 (.inl nx) a2
      exact ⟨rfl, q1 _ _ _ _ (S1.after C4) (C2.grow.trans (Le.new g2)) C2.ext ⟨x, dx', ws, rfl, upd_same, l2, r2.mono (Le.new g2) (List.prefix_refl _)⟩⟩
    | ex e' xs M' =>
      rw [eF] at q1
      exact fun as' G' H' d C2 z => q1 as' G' H' d (S1.after (St2.made nx ndx ne C2)) C2.grow C2.ext z
    | bad => rw [eF] at q1; exact q1.elim
  · exact q1.elim
end
end DL
set_option maxRecDepth 100000
namespace DL
open PySem PySem.Spec PyProof.Rows L2

section
variable {X : Cx} {Γ : Gam} {W : WX}
/-! ### blocks -/
def dNext : FS := fun ρ M => .nx ρ M
def dSeq (f g : FS) : FS := fun ρ M => match f ρ M with
  | .nx ρ M => g ρ M
  | r => r
theorem q_nil : PSs X [] (tS Γ W dNext) := PSs.imp pss_nil fun D σ H ⟨Θ, as, G, M, ρ, S, q⟩ => q _ _ _ _ S
theorem q_pass {pos : Pos} : PS X (.Pass pos) (tS Γ W dNext) := PS.imp ps_pass fun D σ H ⟨Θ, as, G, M, ρ, S, q⟩ => q _ _ _ _ S
theorem q_seq {st : Stmt} {rest : List Stmt} {f g : FS} (h1 : PS X st (tS Γ W f)) (h2 : PSs X rest (tS Γ W g)) : PSs X (st :: rest) (tS Γ W (dSeq f g)) := PSs.imp (pss_cons h1 h2) fun D σ H ⟨Θ, as, G, M, ρ, S, q⟩ => by
  refine ⟨Θ, as, G, M, ρ, S, ?_⟩
  unfold dSeq at q
  cases e : f ρ M with
  | nx ρ' M' => rw [e] at q; exact fun as' G' σ' H' s' => ⟨Θ, as', G', M', ρ', s', q⟩
  | rt d M' => rw [e] at q; exact q
  | bk ρ' M' => rw [e] at q; exact q
  | ct ρ' M' => rw [e] at q; exact q
  | ex c xs ρ' M' => rw [e] at q; exact q
  | bad => rw [e] at q; exact q.elim
theorem q_one {st : Stmt} {f : FS} (h1 : PS X st (tS Γ W f)) : PSs X [st] (tS Γ W f) := pss_one h1
def dBreak : FS := fun ρ M => .bk ρ M
def dCont : FS := fun ρ M => .ct ρ M
theorem q_break {pos : Pos} : PS X (.Break pos) (tS Γ W dBreak) := PS.imp ps_break fun D σ H ⟨Θ, as, G, M, ρ, S, q⟩ => q _ _ _ _ S
theorem q_cont {pos : Pos} : PS X (.Continue pos) (tS Γ W dCont) := PS.imp ps_continue fun D σ H ⟨Θ, as, G, M, ρ, S, q⟩ => q _ _ _ _ S
def dRet (f : FE) : FS := fun ρ M => (f ρ M).sbind ρ fun d M => .rt d M
theorem q_ret {e : Expr} {f : FE} {pos : Pos} (h : PE X e (tE Γ W f)) : PS X (.Return (some e) pos) (tS Γ W (dRet f)) := PS.imp (ps_ret h) fun D σ H ⟨Θ, as, G, M, ρ, S, q⟩ => by
  refine ⟨Θ, as, G, M, ρ, S, (PostS.bindE q).imp (Le.refl _) (List.prefix_refl _) ?_⟩
  rintro v H1 ⟨d, M1, as1, G1, S1, e1, p1, r, q1⟩
  exact q1 _ _ _ _ S1.toSt2 r
def dRetN : FS := fun ρ M => .rt .non M
theorem q_retN {pos : Pos} : PS X (.Return none pos) (tS Γ W dRetN) := PS.imp ps_retN fun D σ H ⟨Θ, as, G, M, ρ, S, q⟩ => q _ _ _ _ S.toSt2 rfl
def dDrop (f : FE) : FS := fun ρ M => (f ρ M).sbind ρ fun _ M => .nx ρ M
theorem q_expr {e : Expr} {f : FE} {pos : Pos} (h : PE X e (tE Γ W f)) (hs : swapsWith e none pos.line X.env = pure false := by rfl) : PS X (.Expr e pos) (tS Γ W (dDrop f)) := PS.imp (ps_expr h hs) fun D σ H ⟨Θ, as, G, M, ρ, S, q⟩ => by
  refine ⟨Θ, as, G, M, ρ, S, (PostS.bindE q).imp (Le.refl _) (List.prefix_refl _) ?_⟩
  rintro v H1 ⟨d, M1, as1, G1, S1, e1, p1, r, q1⟩
  exact q1 _ _ _ _ S1
def dIfS (c : FT) (f g : FS) : FS := fun ρ M => (c ρ M).sbind ρ fun b M => if b = true then f ρ M else g ρ M
theorem q_ifS {c : Expr} {a b : List Stmt} {fc : FT} {f g : FS} {pos : Pos} (hc : PT X c (tT Γ W fc)) (ha : PSs X a (tS Γ W f)) (hb : PSs X b (tS Γ W g)) : PS X (.If c a b pos) (tS Γ W (dIfS fc f g)) := PS.imp (ps_if hc ha hb) fun D σ H ⟨Θ, as, G, M, ρ, S, q⟩ => by
  refine ⟨Θ, as, G, M, ρ, S, (PostS.bindT q).imp (Le.refl _) (List.prefix_refl _) ?_⟩
  rintro c H1 ⟨M1, as1, G1, S1, q1⟩
  cases c with
  | true => rw [if_pos rfl] at q1 ⊢; exact ⟨Θ, as1, G1, M1, ρ, S1, q1⟩
  | false => rw [if_neg (by decide)] at q1 ⊢; exact ⟨Θ, as1, G1, M1, ρ, S1, q1⟩
/-- what is never come to -/
def dNever : FS := fun _ _ => .bad
theorem q_never {st : Stmt} : PS X st (tS Γ W dNever) := PS.imp ps_never fun D σ H ⟨Θ, as, G, M, ρ, S, q⟩ => q
theorem q_nevers {sts : List Stmt} : PSs X sts (tS Γ W dNever) := PSs.imp pss_never fun D σ H ⟨Θ, as, G, M, ρ, S, q⟩ => q

/-! ### targets -/
abbrev TGt := D → List Sl → List MO → Option (List Sl × List MO)
abbrev TGts := List D → List Sl → List MO → Option (List Sl × List MO)
def tG (Γ : Gam) (f : TGt) : TG := fun v σ H Q => ∃ Θ as G M ρ d ρ' M', Sta Γ Θ as G M ρ σ H ∧ Rep Γ as G d v ∧ f d ρ M = some (ρ', M') ∧ ∀ as' G' σ' H', Sta Γ Θ as' G' M' ρ' σ' H' → Le G G' → as <+: as' → Q σ' H'
def tGs (Γ : Gam) (f : TGts) : TGs := fun vs σ H Q => ∃ Θ as G M ρ ds ρ' M', Sta Γ Θ as G M ρ σ H ∧ RepL Γ as G ds vs ∧ f ds ρ M = some (ρ', M') ∧ ∀ as' G' σ' H', Sta Γ Θ as' G' M' ρ' σ' H' → Le G G' → as <+: as' → Q σ' H'
theorem PG.imp {tg : Expr} {t t' : TG} (h : PG X tg t) (i : ∀ v σ H Q, t' v σ H Q → t v σ H Q) : PG X tg t' := ⟨fun pins s σ H v u Q I r w => h.run pins s σ H v u Q I r (i _ _ _ _ w)⟩
theorem PGs.imp {tg : List Expr} {t t' : TGs} (h : PGs X tg t) (i : ∀ v σ H Q, t' v σ H Q → t v σ H Q) : PGs X tg t' := ⟨fun pins s σ H v u Q I r w => h.run pins s σ H v u Q I r (i _ _ _ _ w)⟩
def gN (i : Nat) : TGt := fun d ρ M => some (ρ.set i (.d d), M)
theorem qg_name {i : Nat} {e : Expr} (h : PG X e (gName i)) : PG X e (tG Γ (gN i)) := PG.imp h fun v σ H Q ⟨Θ, as, G, M, ρ, d, ρ', M', S, r, e, q⟩ => by
  cases e
  exact q _ _ _ _ (S.set i r) (Le.refl _) (List.prefix_refl _)
def gsNil : TGts := fun ds ρ M => match ds with
  | [] => some (ρ, M)
  | _ => none
def gsCons (f : TGt) (g : TGts) : TGts := fun ds ρ M => match ds with
  | d :: ds => (f d ρ M).bind fun p => g ds p.1 p.2
  | [] => none
theorem qgs_nil : PGs X [] (tGs Γ gsNil) := PGs.imp pgs_nil fun v σ H Q ⟨Θ, as, G, M, ρ, ds, ρ', M', S, r, e, q⟩ => by
  unfold gsNil at e
  cases ds with
  | nil => cases e; cases r; exact ⟨rfl, q _ _ _ _ S (Le.refl _) (List.prefix_refl _)⟩
  | cons _ _ => cases e
theorem qgs_cons {e : Expr} {es : List Expr} {f : TGt} {g : TGts} (h1 : PG X e (tG Γ f)) (h2 : PGs X es (tGs Γ g))
    (hs : (assignEach (e :: es) X.env).map (·.2) = assign e X.env :: (assignEach es X.env).map (·.2) := by rfl) : PGs X (e :: es) (tGs Γ (gsCons f g)) := PGs.imp (pgs_cons h1 h2 hs) fun vs σ H Q ⟨Θ, as, G, M, ρ, ds, ρ', M', S, r, e, q⟩ => by
  cases ds with
  | nil => cases e
  | cons d ds =>
    obtain ⟨v, ws, rfl, r1, r2⟩ := r
    unfold gsCons at e
    dsimp only at e
    cases e1 : f d ρ M with
    | none => rw [e1] at e; cases e
    | some p =>
      rw [e1] at e
      exact ⟨v, ws, rfl, Θ, as, G, M, ρ, d, p.1, p.2, S, r1, e1, fun as' G' σ' H' S' eG pa => ⟨Θ, as', G', p.2, p.1, ds, ρ', M', S', r2.mono eG pa, e, fun as2 G2 σ2 H2 S2 e2 p2 => q as2 G2 σ2 H2 S2 (eG.trans e2) (pa.trans p2)⟩⟩
/-- (a, b, ..) = a tuple -/
def gTupT (n : Nat) (g : TGts) : TGt := fun d ρ M => match d with
  | .tup ds => if ds.length = n then g ds ρ M else none
  | _ => none
theorem qg_tup {es : List Expr} {k : Nat} {pos : Pos} {g : TGts} {n : Nat} (hK : Γ.K = X.K) (hc : X.calm = true) (h : PGs X es (tGs Γ g))
    (hn : (assignEach es X.env).length = n := by rfl) (hst : (assignEach es X.env).findIdx? (·.1) = none := by rfl) : PG X (.Tuple es k pos) (tG Γ (gTupT n g)) := PG.imp (pg_tup hc h hn hst) fun v σ H Q ⟨Θ, as, G, M, ρ, d, ρ', M', S, r, e, q⟩ => by
  unfold gTupT at e
  split at e
  · rename_i ds
    split at e
    · rename_i hl
      obtain ⟨a, vs, ev, st, rl⟩ := r
      rw [hK] at st
      exact ⟨a, vs, ev, S.sub.st st, rl.length.symm.trans hl, Θ, as, G, M, ρ, ds, ρ', M', S, rl, e, q⟩
    · cases e
  · cases e
/-- target = value -/
def dAsg (f : FE) (g : TGt) : FS := fun ρ M => (f ρ M).sbind ρ fun d M => match g d ρ M with
  | some p => .nx p.1 p.2
  | none => .bad
theorem run_asg {f : FE} {g : TGt} {D : Ends} {σ : L2.St} {H : Hp} (h : tS Γ W (dAsg f g) D σ H) : tE Γ W f σ H fun x H1 => tG Γ g x σ H1 D.nx := by
  obtain ⟨Θ, as, G, M, ρ, S, q⟩ := h
  refine ⟨Θ, as, G, M, ρ, S, (PostS.bindE q).imp (Le.refl _) (List.prefix_refl _) ?_⟩
  rintro v H1 ⟨d, M1, as1, G1, S1, e1, p1, r, q1⟩
  split at q1
  · rename_i p hp
    exact ⟨Θ, as1, G1, M1, ρ, d, p.1, p.2, S1, r, hp, fun as' G' σ' H' s' _ _ => q1 as' G' σ' H' s'⟩
  · exact q1.elim
theorem q_asg {tg e : Expr} {f : FE} {g : TGt} {pos : Pos} (he : PE X e (tE Γ W f)) (hg : PG X tg (tG Γ g)) (hs : swapsWithSole [tg] e pos.line X.env = pure false := by rfl) (hw : swappedStores [tg] e X.env = pure none := by rfl)
    (h1 : (assignEach [tg] X.env).map (·.2) = [assign tg X.env] := by rfl) : PS X (.Assign [tg] e pos) (tS Γ W (dAsg f g)) := PS.imp (ps_asg he hg hs hw h1) fun _ _ _ h => run_asg h
def dSet (i : Nat) (f : FE) : FS := fun ρ M => (f ρ M).sbind ρ fun d M => .nx (ρ.set i (.d d)) M
theorem q_set {st : Stmt} {i : Nat} {f : FE} (h : PS X st (tAsg (tE Γ W f) (gName i))) : PS X st (tS Γ W (dSet i f)) := PS.imp h fun D σ H ⟨Θ, as, G, M, ρ, S, q⟩ => by
  refine ⟨Θ, as, G, M, ρ, S, (PostS.bindE q).imp (Le.refl _) (List.prefix_refl _) ?_⟩
  rintro v H1 ⟨d, M1, as1, G1, S1, e1, p1, r, q1⟩
  exact q1 _ _ _ _ (S1.set i r)
/-- a, b = x, y -/
def dPar (i j : Nat) (fa : FA) : FS := fun ρ M => (fa ρ M).sbind ρ fun ds M => match ds with
  | [a, b] => .nx ((ρ.set i (.d a)).set j (.d b)) M
  | _ => .bad
theorem q_par {st : Stmt} {i j : Nat} {fa : FA} (h : PS X st (tPar i j (tA Γ W fa))) : PS X st (tS Γ W (dPar i j fa)) := PS.imp h fun D σ H ⟨Θ, as, G, M, ρ, S, q⟩ => by
  refine ⟨Θ, as, G, M, ρ, S, (PostS.bindA q).imp (Le.refl _) (List.prefix_refl _) ?_⟩
  rintro vs H1 ⟨ds, M1, as1, G1, S1, e1, p1, r, q1⟩
  split at q1
  · obtain ⟨v, ws, rfl, r1, w, us, rfl, r2, rfl⟩ := r
    exact ⟨v, w, rfl, q1 _ _ _ _ ((S1.set i r1).set j r2)⟩
  · exact q1.elim
def dPar3 (i j l : Nat) (fa : FA) : FS := fun ρ M => (fa ρ M).sbind ρ fun ds M => match ds with
  | [a, b, c] => .nx (((ρ.set i (.d a)).set j (.d b)).set l (.d c)) M
  | _ => .bad
theorem q_par3 {st : Stmt} {i j l : Nat} {fa : FA} (h : PS X st (tPar3 i j l (tA Γ W fa))) : PS X st (tS Γ W (dPar3 i j l fa)) := PS.imp h fun D σ H ⟨Θ, as, G, M, ρ, S, q⟩ => by
  refine ⟨Θ, as, G, M, ρ, S, (PostS.bindA q).imp (Le.refl _) (List.prefix_refl _) ?_⟩
  rintro vs H1 ⟨ds, M1, as1, G1, S1, e1, p1, r, q1⟩
  split at q1
  · obtain ⟨v, ws, rfl, r1, w, us, rfl, r2, z, ts, rfl, r3, rfl⟩ := r
    exact ⟨v, w, z, rfl, q1 _ _ _ _ (((S1.set i r1).set j r2).set l r3)⟩
  · exact q1.elim

/-! ### while -/
def whileN (c : FT) (b : FS) : Nat → FS
  | 0, _, _ => .bad
  | n + 1, ρ, M => (c ρ M).sbind ρ fun k M => if k = true then (match b ρ M with
    | .nx ρ M => whileN c b n ρ M
    | .ct ρ M => whileN c b n ρ M
    | .bk ρ M => .nx ρ M
    | r => r) else .nx ρ M
theorem whileN_more {c : FT} {b : FS} : ∀ {n : Nat} {ρ : List Sl} {M : List MO} {r : RS}, whileN c b n ρ M = r → r ≠ .bad → whileN c b (n + 1) ρ M = r
  | 0, ρ, M, r, h, hr => absurd h.symm hr
  | n + 1, ρ, M, r, h, hr => by
    rw [whileN] at h ⊢
    cases e : c ρ M with
    | ok k M1 =>
      rw [e] at h
      simp only [R.sbind_ok] at h ⊢
      cases k with
      | false => simpa using h
      | true =>
        simp only [if_true] at h ⊢
        cases e2 : b ρ M1 with
        | nx ρ' M' => rw [e2] at h; exact whileN_more h hr
        | ct ρ' M' => rw [e2] at h; exact whileN_more h hr
        | bk ρ' M' => rw [e2] at h; exact h
        | rt d M' => rw [e2] at h; exact h
        | ex c xs ρ' M' => rw [e2] at h; exact h
        | bad => rw [e2] at h; exact absurd h.symm hr
    | ex c xs M1 => rw [e] at h; exact h
    | bad => rw [e] at h; exact absurd h.symm hr
theorem whileN_le {c : FT} {b : FS} {n m : Nat} (hm : n ≤ m) {ρ : List Sl} {M : List MO} {r : RS} (h : whileN c b n ρ M = r) (hr : r ≠ .bad) : whileN c b m ρ M = r := by
  induction hm with
  | refl => exact h
  | step _ ih => exact whileN_more ih hr
open Classical in
noncomputable def dWhile (c : FT) (b : FS) : FS := fun ρ M => if h : ∃ n, whileN c b n ρ M ≠ .bad then whileN c b h.choose ρ M else .bad
theorem dWhile_eq {c : FT} {b : FS} {n : Nat} {ρ : List Sl} {M : List MO} {r : RS} (h : whileN c b n ρ M = r) (hr : r ≠ .bad) : dWhile c b ρ M = r := by
  have hx : ∃ n, whileN c b n ρ M ≠ .bad := ⟨n, by rw [h]; exact hr⟩
  unfold dWhile
  rw [dif_pos hx]
  have q := hx.choose_spec
  have h1 := whileN_le (Nat.le_max_left hx.choose n) (r := whileN c b hx.choose ρ M) rfl q
  have h2 := whileN_le (Nat.le_max_right hx.choose n) h hr
  exact h1.symm.trans h2
theorem q_while {c : Expr} {body : List Stmt} {fc : FT} {fb : FS} {pos : Pos} (hp : PassesOwn (model X.prog X.w) X.A X.env X.xe) (hc : PT X c (tT Γ W fc)) (hb : PSs X body (tS Γ W fb)) : PS X (.While c body [] pos) (tS Γ W (dWhile fc fb)) := PS.imp (ps_while hp hc hb) fun D σ H ⟨Θ, as, G, M, ρ, S, q⟩ => by
  have ex : ∃ n, PostS Γ Θ W D (whileN fc fb n ρ M) := by
    unfold dWhile at q
    split at q
    · exact ⟨_, q⟩
    · exact q.elim
  obtain ⟨n, q⟩ := ex
  refine ⟨fun m σ H => ∃ as G M ρ, Sta Γ Θ as G M ρ σ H ∧ PostS Γ Θ W D (whileN fc fb m ρ M), ⟨n, as, G, M, ρ, S, q⟩, ?_⟩
  rintro m σ H ⟨as, G, M, ρ, S, q⟩
  cases m with
  | zero => exact q.elim
  | succ m =>
    rw [whileN] at q
    refine ⟨Θ, as, G, M, ρ, S, (PostS.bindT q).imp (Le.refl _) (List.prefix_refl _) ?_⟩
    rintro k H1 ⟨M1, as1, G1, S1, q1⟩
    cases k with
    | false => rw [if_neg (by decide)] at q1 ⊢; exact q1 _ _ _ _ S1
    | true =>
      rw [if_pos rfl] at q1 ⊢
      refine ⟨fun σ' H' => ∃ as G M ρ, Sta Γ Θ as G M ρ σ' H' ∧ PostS Γ Θ W D (whileN fc fb m ρ M), fun σ' H' z => ⟨m, Nat.lt_succ_self m, z⟩, Θ, as1, G1, M1, ρ, S1, ?_⟩
      cases e2 : fb ρ M1 with
      | nx ρ' M' => rw [e2] at q1; exact fun as' G' σ' H' s' => ⟨as', G', M', ρ', s', q1⟩
      | ct ρ' M' => rw [e2] at q1; exact fun as' G' σ' H' s' => ⟨as', G', M', ρ', s', q1⟩
      | bk ρ' M' => rw [e2] at q1; exact q1
      | rt d M' => rw [e2] at q1; exact q1
      | ex c xs ρ' M' => rw [e2] at q1; exact q1
      | bad => rw [e2] at q1; exact q1.elim

/-! ### what is walked -/
/-- the walk J yields the data ds -/
structure SimIt (Γ : Gam) (J : It) (as : List Addr) (G : Hp) (ds : List DL.D) : Prop where
  go : ∀ i H, Le G H → i < ds.length → J.go i H
  stop : ∀ i H, Le G H → ds.length ≤ i → J.stop i H
  yld : ∀ i H x H' d, Le G H → ds[i]? = some d → J.yld i H x H' → (H' = H ∧ Rep Γ as G d x) ∨ ∃ p vs ds', x = .ref p ∧ H p = none ∧ H' = upd H p (.tup vs) ∧ d = .tup ds' ∧ RepL Γ as G ds' vs
def PostJ (Γ : Gam) (Θ : Ent) (W : WX) (ρ : List Sl) (σ : L2.St) (as : List Addr) (G : Hp) (R : It → Hp → Prop) : DL.R (List DL.D) → Prop
  | .ok ds M => ∀ as' G' H' J, Sta Γ Θ as' G' M ρ σ H' → Le G G' → as <+: as' → SimIt Γ J as' G' ds → R J H'
  | .ex c xs M => ∀ as' G' H' d, Sta Γ Θ as' G' M ρ σ H' → Le G G' → as <+: as' → XP Γ as' G' c xs d → W (.ref (Γ.eA c)) (some d) σ H'
  | .bad => False
def tI (Γ : Gam) (W : WX) (f : FA) : TI := fun σ H R => ∃ Θ as G M ρ, Sta Γ Θ as G M ρ σ H ∧ PostJ Γ Θ W ρ σ as G R (f ρ M)
theorem PI.imp {tg e : Expr} {t t' : TI} (h : PI X tg e t) (i : ∀ σ H R, t' σ H R → t σ H R) : PI X tg e t' := ⟨fun pins s σ H R I w => h.run pins s σ H R I (i _ _ _ w)⟩
theorem PostJ.bindE {Θ : Ent} {ρ : List Sl} {σ : L2.St} {as : List Addr} {G : Hp} {Rr : It → Hp → Prop} {r : DL.R DL.D} {k : DL.D → List MO → DL.R (List DL.D)} (h : PostJ Γ Θ W ρ σ as G Rr (r.bind k)) :
    PostE Γ Θ W ρ σ as G (fun v H' => ∃ d M' as' G', Sta Γ Θ as' G' M' ρ σ H' ∧ Le G G' ∧ as <+: as' ∧ Rep Γ as' G' d v ∧ PostJ Γ Θ W ρ σ as' G' Rr (k d M')) r := by
  cases r with
  | ok d M =>
    intro as' G' H' v s e p x
    refine ⟨d, M, as', G', s, e, p, x, ?_⟩
    have h' : PostJ Γ Θ W ρ σ as G Rr (k d M) := h
    cases q : k d M with
    | ok ds M2 => rw [q] at h'; exact fun a2 G2 H2 J s2 e2 p2 z => h' a2 G2 H2 J s2 (e.trans e2) (p.trans p2) z
    | ex c xs M2 => rw [q] at h'; exact fun a2 G2 H2 J s2 e2 p2 z => h' a2 G2 H2 J s2 (e.trans e2) (p.trans p2) z
    | bad => rw [q] at h'; exact h'
  | ex c xs M => exact h
  | bad => exact h
theorem PostJ.bindA {Θ : Ent} {ρ : List Sl} {σ : L2.St} {as : List Addr} {G : Hp} {Rr : It → Hp → Prop} {r : DL.R (List DL.D)} {k : List DL.D → List MO → DL.R (List DL.D)} (h : PostJ Γ Θ W ρ σ as G Rr (r.bind k)) :
    PostA Γ Θ W ρ σ as G (fun vs H' => ∃ ds M' as' G', Sta Γ Θ as' G' M' ρ σ H' ∧ Le G G' ∧ as <+: as' ∧ RepL Γ as' G' ds vs ∧ PostJ Γ Θ W ρ σ as' G' Rr (k ds M')) r := by
  cases r with
  | ok d M =>
    intro as' G' H' v s e p x
    refine ⟨d, M, as', G', s, e, p, x, ?_⟩
    have h' : PostJ Γ Θ W ρ σ as G Rr (k d M) := h
    cases q : k d M with
    | ok ds M2 => rw [q] at h'; exact fun a2 G2 H2 J s2 e2 p2 z => h' a2 G2 H2 J s2 (e.trans e2) (p.trans p2) z
    | ex c xs M2 => rw [q] at h'; exact fun a2 G2 H2 J s2 e2 p2 z => h' a2 G2 H2 J s2 (e.trans e2) (p.trans p2) z
    | bad => rw [q] at h'; exact h'
  | ex c xs M => exact h
  | bad => exact h
theorem sq_fun {K : PySem.W.Frag} {H : Hp} {a : Addr} {xs ys : List V} : True := trivial
/-- a list or a tuple -/
def iSeq (f : FE) : FA := fun ρ M => (f ρ M).bind fun d M => match d with
  | .lst xs => .ok xs M
  | .rol xs => .ok xs M
  | .tup xs => .ok xs M
  | _ => .bad
def iRange1 (f : FE) : FA := fun ρ M => (f ρ M).bind fun d M => match d with
  | .int j => if -(2 ^ 62) ≤ j ∧ j < 2 ^ 62 then .ok ((List.range j.toNat).map fun (i : Nat) => .int (i : Int)) M else .bad
  | _ => .bad
def iRange2 (fa : FA) : FA := fun ρ M => (fa ρ M).bind fun ds M => match ds with
  | [.int i, .int j] => if -(2 ^ 62) ≤ i ∧ i < 2 ^ 62 ∧ -(2 ^ 62) ≤ j ∧ j < 2 ^ 62 then .ok ((List.range (j - i).toNat).map fun (k : Nat) => .int (i + (k : Int))) M else .bad
  | _ => .bad

/-! ### for -/
/-- the entry, later -/
def Ent.late (Θ : Ent) (as : List Addr) (G : Hp) : Ent := ⟨Θ.H, as, G, fun a => Θ.mu a ∨ a ∈ as, Θ.sf⟩
theorem Sta.late {Θ : Ent} {as : List Addr} {G H : Hp} {M : List MO} {ρ : List Sl} {σ : L2.St} (S : Sta Γ Θ as G M ρ σ H) : Sta Γ (Θ.late as G) as G M ρ σ H :=
  ⟨⟨S.sub, Le.refl _, List.prefix_refl _, fun _ h => .inr h, fun a o h n => S.fr a o h fun z => n (.inl z), S.pres, fun _ _ h => .inl h, S.len, S.nd, S.cel, fun _ h => .inl h, S.ain⟩, S.slen, S.env,
    fun i a o => ⟨(S.own i a o).1, (S.own i a o).2.1, (S.own i a o).2.2.elim .inl fun z => .inr (.inl z)⟩, S.odj, S.slf⟩
theorem St2.ofLate {Θ : Ent} {as as' : List Addr} {G G' H H' : Hp} {M M' : List MO} (S : St2 Γ Θ as G M H) (C : St2 Γ (Θ.late as G) as' G' M' H') : St2 Γ Θ as' G' M' H' where
  sub := C.sub
  grow := S.grow.trans C.grow
  ext := S.ext.trans C.ext
  esub := S.esub
  fr := fun a o h n => C.fr a o h fun z => z.elim n fun z => by
    rcases S.cfr a z with q | q
    · exact n (S.esub a q)
    · exact absurd (h.symm.trans q) (by simp)
  pres := C.pres
  gfr := fun a o h => by
    rcases C.gfr a o h with q | q | q | q
    · exact S.gfr a o q
    · exact .inr (.inl q)
    · exact .inr (.inr q)
    · rcases S.cfr a q with q | q
      · exact .inr (.inr (S.esub a q))
      · exact .inr (.inl q)
  len := C.len
  nd := C.nd
  cel := C.cel
  cfr := fun a h => by
    rcases C.cfr a h with q | q
    · exact S.cfr a q
    · exact .inr q
  ain := C.ain
theorem Sta.ofLate {Θ : Ent} {as as' : List Addr} {G G' H H' : Hp} {M M' : List MO} {ρ' : List Sl} {σ' : L2.St} (S : St2 Γ Θ as G M H) (C : Sta Γ (Θ.late as G) as' G' M' ρ' σ' H') : Sta Γ Θ as' G' M' ρ' σ' H' :=
  ⟨S.ofLate C.toSt2, C.slen, C.env, fun i a o => ⟨(C.own i a o).1, (C.own i a o).2.1, (C.own i a o).2.2.elim .inl fun z => z.elim .inr fun z => absurd (C.ext.subset z) (C.own i a o).2.1⟩, C.odj, C.slf⟩
theorem PostS.late {Θ : Ent} {as : List Addr} {G H : Hp} {M : List MO} {D : Ends} {r : RS} (S : St2 Γ Θ as G M H) (h : PostS Γ Θ W D r) : PostS Γ (Θ.late as G) W D r := by
  cases r with
  | nx ρ M => exact fun a g σ H s => h a g σ H (Sta.ofLate S s)
  | bk ρ M => exact fun a g σ H s => h a g σ H (Sta.ofLate S s)
  | ct ρ M => exact fun a g σ H s => h a g σ H (Sta.ofLate S s)
  | rt d M => exact fun a g H v s x => h a g H v (St2.ofLate S s) x
  | ex c xs ρ M => exact fun a g σ H d s x => h a g σ H d (Sta.ofLate S s) x
  | bad => exact h
def forL (t : TGt) (b : FS) : List DL.D → FS
  | [], ρ, M => .nx ρ M
  | d :: ds, ρ, M => match t d ρ M with
    | none => .bad
    | some p => match b p.1 p.2 with
      | .nx ρ M => forL t b ds ρ M
      | .ct ρ M => forL t b ds ρ M
      | .bk ρ M => .nx ρ M
      | r => r
def dFor (fi : FA) (t : TGt) (b : FS) : FS := fun ρ M => (fi ρ M).sbind ρ fun ds M => forL t b ds ρ M
theorem q_for {tg iter : Expr} {body : List Stmt} {fi : FA} {t : TGt} {fb : FS} {pos : Pos} (hp : PassesOwn (model X.prog X.w) X.A X.env X.xe) (hc : X.calm = true) (hi : PI X tg iter (tI Γ W fi)) (hg : PG X tg (tG Γ t)) (hb : PSs X body (tS Γ W fb))
    (hs : ∀ x, foldedSetIterable iter X.env x = pure x := by intro _; rfl) : PS X (.For tg iter body [] pos) (tS Γ W (dFor fi t fb)) := PS.imp (ps_for hp hc hi hg hb hs) fun D σ H ⟨Θ, as, G, M, ρ, S, q⟩ => by
  refine ⟨Θ, as, G, M, ρ, S, ?_⟩
  unfold dFor at q
  cases e : fi ρ M with
  | bad => rw [e] at q; exact q.elim
  | ex c xs M1 => rw [e] at q; exact fun as' G' H' d s _ _ x => q as' G' σ H' d s x
  | ok ds M1 =>
    rw [e] at q
    intro as1 G1 H1 J S1 e1 p1 sim
    have q : PostS Γ Θ W D (forL t fb ds ρ M1) := q
    refine ⟨fun i m σ H => m = ds.length - i ∧ ∃ as2 G2 M2 ρ2, Sta Γ (Θ.late as1 G1) as2 G2 M2 ρ2 σ H ∧ PostS Γ (Θ.late as1 G1) W D (forL t fb (ds.drop i) ρ2 M2), ⟨_, rfl, as1, G1, M1, ρ, S1.late, q.late S1.toSt2⟩, ?_⟩
    rintro i m σ2 H2 ⟨rfl, as2, G2, M2, ρ2, S2, q2⟩
    have e2 : Le G1 G2 := S2.grow
    have p2 : as1 <+: as2 := S2.ext
    have le : Le G1 H2 := e2.trans S2.sub
    by_cases hi : i < ds.length
    · right
      refine ⟨sim.go i H2 le hi, fun σ' H' => ∃ as3 G3 M3 ρ3, Sta Γ (Θ.late as1 G1) as3 G3 M3 ρ3 σ' H' ∧ PostS Γ (Θ.late as1 G1) W D (forL t fb (ds.drop (i + 1)) ρ3 M3), fun σ' H' z => ⟨ds.length - (i + 1), by omega, rfl, z⟩, ?_⟩
      intro x H' hy
      have hd : ds[i]? = some ds[i] := List.getElem?_eq_getElem hi
      rw [List.drop_eq_getElem_cons hi, forL] at q2
      have step : ∃ as3 G3, Sta Γ (Θ.late as1 G1) as3 G3 M2 ρ2 σ2 H' ∧ Rep Γ as3 G3 ds[i] x := by
        rcases sim.yld i H2 x H' _ le hd hy with ⟨rfl, r⟩ | ⟨p, vs, ds', rfl, hn, rfl, hd', r⟩
        · exact ⟨as2, G2, S2, r.mono e2 p2⟩
        · have gp := S2.sub.free hn
          refine ⟨as2, upd G2 p (.tup vs), S2.lay hn, ?_⟩
          rw [hd']
          exact ⟨p, vs, rfl, .inl (.inl upd_same), r.mono (e2.trans (Le.new gp)) p2⟩
      obtain ⟨as3, G3, S3, r3⟩ := step
      cases et : t ds[i] ρ2 M2 with
      | none => rw [et] at q2; exact q2.elim
      | some pp =>
        rw [et] at q2
        refine ⟨_, as3, G3, M2, ρ2, ds[i], pp.1, pp.2, S3, r3, et, fun as4 G4 σ4 H4 S4 e4 p4 => ⟨_, as4, G4, pp.2, pp.1, S4, ?_⟩⟩
        dsimp only at q2
        cases eb : fb pp.1 pp.2 with
        | nx ρ' M' => rw [eb] at q2; exact fun as' G' σ' H' s' => ⟨as', G', M', ρ', s', q2⟩
        | ct ρ' M' => rw [eb] at q2; exact fun as' G' σ' H' s' => ⟨as', G', M', ρ', s', q2⟩
        | bk ρ' M' => rw [eb] at q2; exact q2
        | rt d M' => rw [eb] at q2; exact q2
        | ex c xs ρ' M' => rw [eb] at q2; exact q2
        | bad => rw [eb] at q2; exact q2.elim
    · left
      refine ⟨sim.stop i H2 le (Nat.le_of_not_lt hi), ?_⟩
      rw [List.drop_eq_nil_of_le (Nat.le_of_not_lt hi), forL] at q2
      exact q2 _ _ _ _ S2
end
end DL
set_option maxRecDepth 100000
namespace DL
open PySem PySem.Spec PyProof.Rows L2

/-! ### operators on data -/
def gOr2 (g g' : D → D → List MO → R D) : D → D → List MO → R D := fun a b M => match g a b M with
  | .bad => g' a b M
  | r => r
def intBitsOk (i j : Int) : Prop := (Builtin.Int.intBits i : Int) + (Builtin.Int.intBits j : Int) ≤ 134217728
instance (i j : Int) : Decidable (intBitsOk i j) := inferInstanceAs (Decidable (_ ≤ _))
def addI : D → D → List MO → R D
  | .int i, .int j, M => .ok (.int (i + j)) M
  | _, _, _ => .bad
def addS : D → D → List MO → R D
  | .str a, .str b, M => if szOk (a.length + b.length) then .ok (.str (a ++ b)) M else .bad
  | _, _, _ => .bad
def addL : D → D → List MO → R D
  | .lst a, .lst b, M => if szOk (a.length + b.length) then .ok (.lst (a ++ b)) M else .bad
  | _, _, _ => .bad
def subI : D → D → List MO → R D
  | .int i, .int j, M => .ok (.int (i - j)) M
  | _, _, _ => .bad
def mulI : D → D → List MO → R D
  | .int i, .int j, M => if intBitsOk i j then .ok (.int (i * j)) M else .bad
  | _, _, _ => .bad
def modI : D → D → List MO → R D
  | .int i, .int j, M => if j = 0 then .bad else .ok (.int (i.fmod j)) M
  | _, _, _ => .bad
def divOk (i j : Int) : Bool := decide (j ≠ 0) && !Builtin.divisionGoesByPylong i j
def divI : D → D → List MO → R D
  | .int i, .int j, M => if divOk i j then .ok (.int (i.fdiv j)) M else .bad
  | _, _, _ => .bad
def powI : D → D → List MO → R D
  | .int i, .int j, M => if 0 ≤ j ∧ j ≤ 1000000 ∧ i.natAbs < 2 ^ 64 then .ok (.int (i ^ j.toNat)) M else .bad
  | _, _, _ => .bad
def negI : D → List MO → R D
  | .int i, M => .ok (.int (-i)) M
  | _, _ => .bad
def ltI : D → D → List MO → R D
  | .int i, .int j, M => .ok (.bl (decide (i < j))) M
  | _, _, _ => .bad
def leI : D → D → List MO → R D
  | .int i, .int j, M => .ok (.bl (decide (i ≤ j))) M
  | _, _, _ => .bad
def gtI : D → D → List MO → R D
  | .int i, .int j, M => .ok (.bl (decide (j < i))) M
  | _, _, _ => .bad
def geI : D → D → List MO → R D
  | .int i, .int j, M => .ok (.bl (decide (j ≤ i))) M
  | _, _, _ => .bad
/-! data without instances and cells -/
mutual
def toPy : D → Option PyData
  | .non => some .none
  | .bl b => some (.bool b)
  | .int i => some (.int i)
  | .str s => some (.str s)
  | .tup xs => (toPys xs).map .tuple
  | .lst xs => (toPys xs).map .list
  | .rol xs => (toPys xs).map .list
  | .ins _ _ => none
  | .cel _ => none
def toPys : List D → Option (List PyData)
  | [] => some []
  | x :: xs => (toPy x).bind fun p => (toPys xs).bind fun ps => some (p :: ps)
end
def pyEq (a b : D) : Option Bool := match toPy a, toPy b with
  | some d, some e => if SeqAt.shaped d && SeqAt.shaped e then some (PyData.eqv d e) else none
  | _, _ => none
def eqD (a b : D) (M : List MO) : R D := match pyEq a b with
  | some k => .ok (.bl k) M
  | none => .bad
def neD (a b : D) (M : List MO) : R D := match pyEq a b with
  | some k => .ok (.bl (!k)) M
  | none => .bad
def isNonD : D → Bool
  | .non => true
  | _ => false
/-- is None -/
def isND : D → D → List MO → R D := fun a b M => match b with
  | .non => .ok (.bl (isNonD a)) M
  | _ => .bad
def notND : D → D → List MO → R D := fun a b M => match b with
  | .non => .ok (.bl (!isNonD a)) M
  | _ => .bad

section
variable {Γ : Gam} {W : WX} {X : Cx}
theorem k_or {r r' : L2.St → R2} {g g' : D → D → List MO → R D} (h : Keeps2 Γ W r g) (h' : Keeps2 Γ W r' g') : Keeps2 Γ W (fun σ x y H Q => r σ x y H Q ∨ r' σ x y H Q) (gOr2 g g') := by
  intro Θ ρ σ as G M H a b x y Q S ra rb q
  unfold gOr2 at q
  cases e : g a b M with
  | ok d M' => rw [e] at q; exact .inl (h Θ ρ σ as G M H a b x y Q S ra rb (by rw [e]; exact q))
  | ex c xs M' => rw [e] at q; exact .inl (h Θ ρ σ as G M H a b x y Q S ra rb (by rw [e]; exact q))
  | bad => rw [e] at q; exact .inr (h' Θ ρ σ as G M H a b x y Q S ra rb q)
theorem got {Θ : Ent} {ρ : List Sl} {σ : L2.St} {as : List Addr} {G H : Hp} {M : List MO} {d : D} {v : V} {Q : VK} (S : Sta Γ Θ as G M ρ σ H) (q : PostE Γ Θ W ρ σ as G Q (.ok d M)) (r : Rep Γ as G d v) : Q v H := q _ _ _ _ S (Le.refl _) (List.prefix_refl _) r
theorem k_I0 {h : Int → Int → V} {g : D → D → List MO → R D} (hg : ∀ a b M r, g a b M = r → r ≠ .bad → ∃ i j d, a = .int i ∧ b = .int j ∧ r = .ok d M ∧ ∀ as G, Rep Γ as G d (h i j)) : Keeps2 Γ W (fun _ => rI0 h) g := by
  intro Θ ρ σ as G M H a b x y Q S ra rb q
  have hb : g a b M ≠ .bad := fun z => by rw [z] at q; exact q
  obtain ⟨i, j, d, rfl, rfl, e, rd⟩ := hg a b M _ rfl hb
  cases ra; cases rb
  rw [e] at q
  exact ⟨i, j, rfl, rfl, got S q (rd _ _)⟩
theorem k_I {C : Int → Int → Prop} {h : Int → Int → V} {g : D → D → List MO → R D} (hg : ∀ a b M r, g a b M = r → r ≠ .bad → ∃ i j d, a = .int i ∧ b = .int j ∧ C i j ∧ r = .ok d M ∧ ∀ as G, Rep Γ as G d (h i j)) : Keeps2 Γ W (fun _ => rI C h) g := by
  intro Θ ρ σ as G M H a b x y Q S ra rb q
  have hb : g a b M ≠ .bad := fun z => by rw [z] at q; exact q
  obtain ⟨i, j, d, rfl, rfl, hc, e, rd⟩ := hg a b M _ rfl hb
  cases ra; cases rb
  rw [e] at q
  exact ⟨i, j, rfl, rfl, hc, got S q (rd _ _)⟩
theorem k_addI : Keeps2 Γ W (fun _ => rI0 fun i j => .int (i + j)) addI := k_I0 fun a b M r h hr => by
  subst h
  unfold addI at hr ⊢
  split at hr
  · exact ⟨_, _, _, rfl, rfl, rfl, fun _ _ => rfl⟩
  · exact absurd rfl hr
theorem k_subI : Keeps2 Γ W (fun _ => rI0 fun i j => .int (i - j)) subI := k_I0 fun a b M r h hr => by
  subst h
  unfold subI at hr ⊢
  split at hr
  · exact ⟨_, _, _, rfl, rfl, rfl, fun _ _ => rfl⟩
  · exact absurd rfl hr
theorem k_ltI : Keeps2 Γ W (fun _ => rI0 fun i j => .bl (decide (i < j))) ltI := k_I0 fun a b M r h hr => by
  subst h
  unfold ltI at hr ⊢
  split at hr
  · exact ⟨_, _, _, rfl, rfl, rfl, fun _ _ => rfl⟩
  · exact absurd rfl hr
theorem k_leI : Keeps2 Γ W (fun _ => rI0 fun i j => .bl (decide (i ≤ j))) leI := k_I0 fun a b M r h hr => by
  subst h
  unfold leI at hr ⊢
  split at hr
  · exact ⟨_, _, _, rfl, rfl, rfl, fun _ _ => rfl⟩
  · exact absurd rfl hr
theorem k_gtI : Keeps2 Γ W (fun _ => rI0 fun i j => .bl (decide (j < i))) gtI := k_I0 fun a b M r h hr => by
  subst h
  unfold gtI at hr ⊢
  split at hr
  · exact ⟨_, _, _, rfl, rfl, rfl, fun _ _ => rfl⟩
  · exact absurd rfl hr
theorem k_geI : Keeps2 Γ W (fun _ => rI0 fun i j => .bl (decide (j ≤ i))) geI := k_I0 fun a b M r h hr => by
  subst h
  unfold geI at hr ⊢
  split at hr
  · exact ⟨_, _, _, rfl, rfl, rfl, fun _ _ => rfl⟩
  · exact absurd rfl hr
theorem k_mulI : Keeps2 Γ W (fun _ => rI CMulX fun i j => .int (i * j)) mulI := k_I fun a b M r h hr => by
  subst h
  unfold mulI at hr ⊢
  split at hr
  · split at hr
    · rename_i hc
      rw [if_pos hc]
      exact ⟨_, _, _, rfl, rfl, hc, rfl, fun _ _ => rfl⟩
    · exact absurd rfl hr
  · exact absurd rfl hr
theorem k_modI : Keeps2 Γ W (fun _ => rI (fun _ j => j ≠ 0) fun i j => .int (i.fmod j)) modI := k_I fun a b M r h hr => by
  subst h
  unfold modI at hr ⊢
  split at hr
  · split at hr
    · exact absurd rfl hr
    · rename_i hc
      rw [if_neg hc]
      exact ⟨_, _, _, rfl, rfl, hc, rfl, fun _ _ => rfl⟩
  · exact absurd rfl hr
def CDivO (i j : Int) : Prop := divOk i j = true
theorem op_divO : OpR X (binaryOp .FloorDiv) (rI CDivO fun i j => .int (i.fdiv j)) := opI fun i j _ _ _ _ _ hc q => by
  unfold CDivO divOk at hc
  simp only [Bool.and_eq_true, decide_eq_true_eq, Bool.not_eq_true'] at hc
  exact floordiv_int hc.1 q (.inl hc.2)
theorem k_divI : Keeps2 Γ W (fun _ => rI CDivO fun i j => .int (i.fdiv j)) divI := k_I fun a b M r h hr => by
  subst h
  unfold divI at hr ⊢
  split at hr
  · split at hr
    · rename_i hc
      rw [if_pos hc]
      exact ⟨_, _, _, rfl, rfl, hc, rfl, fun _ _ => rfl⟩
    · exact absurd rfl hr
  · exact absurd rfl hr
theorem k_powI : Keeps2 Γ W (fun _ => rI CPow fun i j => .int (i ^ j.toNat)) powI := k_I fun a b M r h hr => by
  subst h
  unfold powI at hr ⊢
  split at hr
  · split at hr
    · rename_i hc
      rw [if_pos hc]
      exact ⟨_, _, _, rfl, rfl, hc, rfl, fun _ _ => rfl⟩
    · exact absurd rfl hr
  · exact absurd rfl hr
theorem k_addS : Keeps2 Γ W (fun _ x y H Q => ∃ i j, x = .str i ∧ y = .str j ∧ i.length + j.length ≤ sizeLine ∧ Q (.str (i ++ j)) H) addS := by
  intro Θ ρ σ as G M H a b x y Q S ra rb q
  unfold addS at q
  split at q
  · split at q
    · rename_i hz
      cases ra; cases rb
      exact ⟨_, _, rfl, rfl, szOk_le hz, got S q rfl⟩
    · exact q.elim
  · exact q.elim
theorem k_addL : Keeps2 Γ W (fun _ => rCat) addL := by
  intro Θ ρ σ as G M H a b x y Q S ra rb q
  unfold addL at q
  split at q
  · split at q
    · rename_i hz
      obtain ⟨p, vs, rfl, g1, r1⟩ := ra
      obtain ⟨p', vs', rfl, g2, r2⟩ := rb
      exact ⟨p, p', vs, vs', rfl, rfl, S.sub _ _ g1, S.sub _ _ g2, by rw [← r1.length, ← r2.length]; exact szOk_le hz, fun l n => keepsNewLst S (r1.append r2) q n⟩
    · exact q.elim
  · exact q.elim
mutual
theorem dp_of (hK : Γ.K = X.K) {as : List Addr} {G H : Hp} (le : Le G H) : ∀ (d : D) (v : V) (p : PyData), Rep Γ as G d v → toPy d = some p → Dp X.K H v p
  | .non, _, _, r, e => by cases e; cases r; exact .non
  | .bl b, _, _, r, e => by cases e; cases r; exact .bl b
  | .int i, _, _, r, e => by cases e; cases r; exact .int i
  | .str s, _, _, r, e => by cases e; cases r; exact .str s
  | .tup xs, _, _, r, e => by
    obtain ⟨a, vs, rfl, s, rl⟩ := r
    rw [toPy] at e
    cases q : toPys xs with
    | none => rw [q] at e; cases e
    | some ps => rw [q] at e; cases e; rw [hK] at s; exact .tup (le.st s) (dps_of hK le xs vs ps rl q)
  | .lst xs, _, _, r, e => by
    obtain ⟨a, vs, rfl, s, rl⟩ := r
    rw [toPy] at e
    cases q : toPys xs with
    | none => rw [q] at e; cases e
    | some ps => rw [q] at e; cases e; exact .lst (.inl (.inl (le _ _ s))) (dps_of hK le xs vs ps rl q)
  | .rol xs, _, _, r, e => by
    obtain ⟨a, vs, rfl, s, rl⟩ := r
    rw [toPy] at e
    cases q : toPys xs with
    | none => rw [q] at e; cases e
    | some ps => rw [q] at e; cases e; rw [hK] at s; exact .lst (le.sl s) (dps_of hK le xs vs ps rl q)
  | .ins _ _, _, _, _, e => by cases e
  | .cel _, _, _, _, e => by cases e
theorem dps_of (hK : Γ.K = X.K) {as : List Addr} {G H : Hp} (le : Le G H) : ∀ (ds : List D) (vs : List V) (ps : List PyData), RepL Γ as G ds vs → toPys ds = some ps → DpAll X.K H vs ps
  | [], _, _, r, e => by cases e; cases r; exact .nil
  | d :: ds, _, _, r, e => by
    obtain ⟨v, ws, rfl, r1, r2⟩ := r
    rw [toPys] at e
    cases q : toPy d with
    | none => rw [q] at e; cases e
    | some p =>
      rw [q] at e
      cases q2 : toPys ds with
      | none => rw [q2] at e; cases e
      | some ps => rw [q2] at e; cases e; exact .cons (dp_of hK le d v p r1 q) (dps_of hK le ds ws ps r2 q2)
end
theorem k_eqD (hK : Γ.K = X.K) : Keeps2 Γ W (fun _ => rEqD X.K) eqD := by
  intro Θ ρ σ as G M H a b x y Q S ra rb q
  unfold eqD at q
  split at q
  · rename_i k hk
    unfold pyEq at hk
    split at hk
    · rename_i d e hd he
      split at hk
      · rename_i hs
        cases hk
        rw [Bool.and_eq_true] at hs
        exact ⟨d, e, dp_of hK S.sub a x d ra hd, dp_of hK S.sub b y e rb he, hs.1, hs.2, got S q rfl⟩
      · cases hk
    · cases hk
  · exact q.elim
theorem k_neD (hK : Γ.K = X.K) : Keeps2 Γ W (fun _ => rNeD X.K) neD := by
  intro Θ ρ σ as G M H a b x y Q S ra rb q
  unfold neD at q
  split at q
  · rename_i k hk
    unfold pyEq at hk
    split at hk
    · rename_i d e hd he
      split at hk
      · rename_i hs
        cases hk
        rw [Bool.and_eq_true] at hs
        exact ⟨d, e, dp_of hK S.sub a x d ra hd, dp_of hK S.sub b y e rb he, hs.1, hs.2, got S q rfl⟩
      · cases hk
    · cases hk
  · exact q.elim
theorem rep_non {as : List Addr} {G : Hp} {d : D} {v : V} (r : Rep Γ as G d v) : decide (v = .non) = isNonD d := by
  cases d with
  | non => cases r; rfl
  | bl b => cases r; rfl
  | int i => cases r; rfl
  | str s => cases r; rfl
  | tup xs => obtain ⟨a, vs, rfl, _⟩ := r; rfl
  | lst xs => obtain ⟨a, vs, rfl, _⟩ := r; rfl
  | rol xs => obtain ⟨a, vs, rfl, _⟩ := r; rfl
  | ins c xs => obtain ⟨a, dx, vs, rfl, _⟩ := r; rfl
  | cel n => obtain ⟨a, _, rfl⟩ := r; rfl
theorem k_isN : Keeps2 Γ W (fun _ x y H Q => y = .non ∧ Q (.bl (decide (x = .non))) H) isND := by
  intro Θ ρ σ as G M H a b x y Q S ra rb q
  unfold isND at q
  split at q
  · cases rb
    exact ⟨rfl, by rw [rep_non ra]; exact got S q rfl⟩
  · exact q.elim
theorem k_notN : Keeps2 Γ W (fun _ x y H Q => y = .non ∧ Q (.bl (!decide (x = .non))) H) notND := by
  intro Θ ρ σ as G M H a b x y Q S ra rb q
  unfold notND at q
  split at q
  · cases rb
    exact ⟨rfl, by rw [rep_non ra]; exact got S q rfl⟩
  · exact q.elim
theorem q_neg {a : Expr} {fa : FE} {pos : Pos} (ha : PE X a (tE Γ W fa)) : PE X (.UnaryOp .USub a pos) (tE Γ W (d1 negI fa)) := PE.imp (pe_un un_neg ha) fun σ H Q ⟨Θ, as, G, M, ρ, S, q⟩ => by
  refine ⟨Θ, as, G, M, ρ, S, (PostE.bindE q).imp (Le.refl _) (List.prefix_refl _) ?_⟩
  rintro x H1 ⟨d, M1, as1, G1, S1, e1, p1, r, q1⟩
  unfold negI at q1
  split at q1
  · cases r
    exact ⟨_, rfl, got S1 q1 rfl⟩
  · exact q1.elim

/-! ### built-in functions -/
def absD : List D → List MO → R D
  | [.int i], M => .ok (.int (if i < 0 then -i else i)) M
  | _, _ => .bad
def intD : List D → List MO → R D
  | [.int i], M => .ok (.int i) M
  | [.bl k], M => .ok (.int (if k then 1 else 0)) M
  | _, _ => .bad
def lenD : List D → List MO → R D
  | [.tup xs], M => .ok (.int xs.length) M
  | [.lst xs], M => .ok (.int xs.length) M
  | [.rol xs], M => .ok (.int xs.length) M
  | [.str s], M => if szOk s.length then .ok (.int s.length) M else .bad
  | _, _ => .bad
def listD : List D → List MO → R D
  | [.tup xs], M => .ok (.lst xs) M
  | [.lst xs], M => .ok (.lst xs) M
  | [.rol xs], M => .ok (.lst xs) M
  | _, _ => .bad
def tupleD : List D → List MO → R D
  | [.tup xs], M => .ok (.tup xs) M
  | [.lst xs], M => .ok (.tup xs) M
  | [.rol xs], M => .ok (.tup xs) M
  | _, _ => .bad
def bools : List D → Option (List Bool)
  | [] => some []
  | .bl b :: xs => (bools xs).map (b :: ·)
  | _ => none
def allD : List D → List MO → R D
  | [.lst xs], M => match bools xs with
    | some bs => .ok (.bl (bs.all id)) M
    | none => .bad
  | _, _ => .bad
def anyD : List D → List MO → R D
  | [.lst xs], M => match bools xs with
    | some bs => .ok (.bl (bs.any id)) M
    | none => .bad
  | _, _ => .bad
theorem one_rep {as : List Addr} {G : Hp} {d : D} {vs : List V} (r : RepL Γ as G [d] vs) : ∃ v, vs = [v] ∧ Rep Γ as G d v := by
  obtain ⟨v, ws, rfl, h, rfl⟩ := r
  exact ⟨v, rfl, h⟩
theorem ka_abs : KeepsA Γ W (fun xs H Q => ∃ i, xs = [.int i] ∧ Q (.int (if i < 0 then -i else i)) H) absD := by
  intro Θ ρ σ as G M H ds vs Q S r q
  unfold absD at q
  split at q
  · obtain ⟨v, rfl, h⟩ := one_rep r
    cases h
    exact ⟨_, rfl, got S q rfl⟩
  · exact q.elim
theorem ka_int : KeepsA Γ W (fun xs H Q => (∃ i, xs = [.int i] ∧ Q (.int i) H) ∨ ∃ k, xs = [.bl k] ∧ Q (.int (if k then 1 else 0)) H) intD := by
  intro Θ ρ σ as G M H ds vs Q S r q
  unfold intD at q
  split at q
  · obtain ⟨v, rfl, h⟩ := one_rep r
    cases h
    exact .inl ⟨_, rfl, got S q rfl⟩
  · obtain ⟨v, rfl, h⟩ := one_rep r
    cases h
    exact .inr ⟨_, rfl, got S q rfl⟩
  · exact q.elim
def rLenK (K : PySem.W.Frag) : List V → Hp → VK → Prop := fun xs H Q => (∃ p ys, xs = [.ref p] ∧ (SqL K H p ys ∨ SqT K H p ys) ∧ Q (.int ys.length) H) ∨ ∃ z : Str, xs = [.str z] ∧ z.length ≤ sizeLine ∧ Q (.int z.length) H
theorem call_lenK : CallR X (.builtin "len") (rLenK X.K) := CallR.or call_len_seq call_len_str
theorem ka_len (hK : Γ.K = X.K) : KeepsA Γ W (rLenK X.K) lenD := by
  intro Θ ρ σ as G M H ds vs Q S r q
  unfold lenD at q
  split at q
  · obtain ⟨v, rfl, a, ws, rfl, s, rl⟩ := one_rep r
    rw [hK] at s
    exact .inl ⟨a, ws, rfl, .inr (S.sub.st s), by rw [← rl.length]; exact got S q rfl⟩
  · obtain ⟨v, rfl, a, ws, rfl, s, rl⟩ := one_rep r
    exact .inl ⟨a, ws, rfl, .inl (.inl (.inl (S.sub _ _ s))), by rw [← rl.length]; exact got S q rfl⟩
  · obtain ⟨v, rfl, a, ws, rfl, s, rl⟩ := one_rep r
    rw [hK] at s
    exact .inl ⟨a, ws, rfl, .inl (S.sub.sl s), by rw [← rl.length]; exact got S q rfl⟩
  · obtain ⟨v, rfl, h⟩ := one_rep r
    cases h
    split at q
    · rename_i hz
      exact .inr ⟨_, rfl, szOk_le hz, got S q rfl⟩
    · exact q.elim
  · exact q.elim
theorem ka_list (hK : Γ.K = X.K) : KeepsA Γ W (fun xs H Q => ∃ p ys, xs = [.ref p] ∧ (SqL X.K H p ys ∨ SqT X.K H p ys) ∧ ∀ l, H l = none → Q (.ref l) (upd H l (.lst ys))) listD := by
  intro Θ ρ σ as G M H ds vs Q S r q
  unfold listD at q
  split at q
  · obtain ⟨v, rfl, a, ws, rfl, s, rl⟩ := one_rep r
    rw [hK] at s
    exact ⟨a, ws, rfl, .inr (S.sub.st s), fun l n => keepsNewLst S rl q n⟩
  · obtain ⟨v, rfl, a, ws, rfl, s, rl⟩ := one_rep r
    exact ⟨a, ws, rfl, .inl (.inl (.inl (S.sub _ _ s))), fun l n => keepsNewLst S rl q n⟩
  · obtain ⟨v, rfl, a, ws, rfl, s, rl⟩ := one_rep r
    rw [hK] at s
    exact ⟨a, ws, rfl, .inl (S.sub.sl s), fun l n => keepsNewLst S rl q n⟩
  · exact q.elim
theorem ka_tuple (hK : Γ.K = X.K) : KeepsA Γ W (fun xs H Q => ∃ p ys, xs = [.ref p] ∧ ((SqL X.K H p ys ∧ ∀ l, H l = none → Q (.ref l) (upd H l (.tup ys))) ∨ (SqT X.K H p ys ∧ Q (.ref p) H))) tupleD := by
  intro Θ ρ σ as G M H ds vs Q S r q
  unfold tupleD at q
  split at q
  · obtain ⟨v, rfl, a, ws, rfl, s, rl⟩ := one_rep r
    exact ⟨a, ws, rfl, .inr ⟨by rw [hK] at s; exact S.sub.st s, got S q ⟨a, ws, rfl, s, rl⟩⟩⟩
  · obtain ⟨v, rfl, a, ws, rfl, s, rl⟩ := one_rep r
    exact ⟨a, ws, rfl, .inl ⟨.inl (.inl (S.sub _ _ s)), fun l n => keepsNewTup S rl q n⟩⟩
  · obtain ⟨v, rfl, a, ws, rfl, s, rl⟩ := one_rep r
    rw [hK] at s
    exact ⟨a, ws, rfl, .inl ⟨S.sub.sl s, fun l n => keepsNewTup S rl q n⟩⟩
  · exact q.elim
theorem bools_rep {as : List Addr} {G : Hp} : ∀ {xs : List D} {vs : List V} {bs : List Bool}, RepL Γ as G xs vs → bools xs = some bs → vs = bs.map V.bl
  | [], _, _, r, e => by cases e; cases r; rfl
  | .bl b :: xs, _, _, r, e => by
    obtain ⟨v, ws, rfl, rfl, r2⟩ := r
    rw [bools] at e
    cases q : bools xs with
    | none => rw [q] at e; cases e
    | some cs => rw [q] at e; cases e; rw [bools_rep r2 q]; rfl
  | .non :: xs, _, _, _, e => by cases e
  | .int _ :: xs, _, _, _, e => by cases e
  | .str _ :: xs, _, _, _, e => by cases e
  | .tup _ :: xs, _, _, _, e => by cases e
  | .lst _ :: xs, _, _, _, e => by cases e
  | .rol _ :: xs, _, _, _, e => by cases e
  | .ins _ _ :: xs, _, _, _, e => by cases e
  | .cel _ :: xs, _, _, _, e => by cases e
theorem ka_all : KeepsA Γ W (rAll X.K) allD := by
  intro Θ ρ σ as G M H ds vs Q S r q
  unfold allD at q
  split at q
  · split at q
    · rename_i bs hb
      obtain ⟨v, rfl, a, ws, rfl, s, rl⟩ := one_rep r
      exact ⟨a, bs, rfl, by rw [← bools_rep rl hb]; exact .inl (.inl (S.sub _ _ s)), got S q rfl⟩
    · exact q.elim
  · exact q.elim
theorem ka_any : KeepsA Γ W (rAny X.K) anyD := by
  intro Θ ρ σ as G M H ds vs Q S r q
  unfold anyD at q
  split at q
  · split at q
    · rename_i bs hb
      obtain ⟨v, rfl, a, ws, rfl, s, rl⟩ := one_rep r
      exact ⟨a, bs, rfl, by rw [← bools_rep rl hb]; exact .inl (.inl (S.sub _ _ s)), got S q rfl⟩
    · exact q.elim
  · exact q.elim

/-! ### subscripts -/
def itemD : D → D → List MO → R D
  | .tup xs, .int i, M => ofOpt (atI xs i) M
  | .lst xs, .int i, M => ofOpt (atI xs i) M
  | .rol xs, .int i, M => ofOpt (atI xs i) M
  | .str s, .int i, M => if szOk s.length then (match atI s.cps.toList i with
    | some c => .ok (.str ⟨#[c]⟩) M
    | none => .bad) else .bad
  | _, _, _ => .bad
theorem atI_rep {as : List Addr} {G : Hp} {xs : List D} {vs : List V} {i : Int} {d : D} (r : RepL Γ as G xs vs) (e : atI xs i = some d) : ∃ v, atI vs i = some v ∧ Rep Γ as G d v := by
  unfold atI at e ⊢
  rw [← r.length]
  cases q : ixN xs.length i with
  | none => rw [q] at e; cases e
  | some j => rw [q] at e; exact r.get e
theorem k_item (hK : Γ.K = X.K) : Keeps2 Γ W (fun _ => rIx X.K) itemD := by
  intro Θ ρ σ as G M H a b x y Q S ra rb q
  unfold itemD at q
  split at q
  · obtain ⟨p, vs, rfl, s, rl⟩ := ra
    cases rb
    unfold ofOpt at q
    split at q
    · rename_i d e
      obtain ⟨v, ev, rv⟩ := atI_rep rl e
      rw [hK] at s
      exact .inr (.inl ⟨p, vs, _, v, rfl, rfl, S.sub.st s, ev, got S q rv⟩)
    · exact q.elim
  · obtain ⟨p, vs, rfl, s, rl⟩ := ra
    cases rb
    unfold ofOpt at q
    split at q
    · rename_i d e
      obtain ⟨v, ev, rv⟩ := atI_rep rl e
      exact .inl ⟨p, vs, _, v, rfl, rfl, .inl (.inl (S.sub _ _ s)), ev, got S q rv⟩
    · exact q.elim
  · obtain ⟨p, vs, rfl, s, rl⟩ := ra
    cases rb
    unfold ofOpt at q
    split at q
    · rename_i d e
      obtain ⟨v, ev, rv⟩ := atI_rep rl e
      rw [hK] at s
      exact .inl ⟨p, vs, _, v, rfl, rfl, S.sub.sl s, ev, got S q rv⟩
    · exact q.elim
  · cases ra; cases rb
    split at q
    · rename_i hz
      split at q
      · rename_i c e
        exact .inr (.inr ⟨_, _, c, rfl, rfl, szOk_le hz, e, got S q rfl⟩)
      · exact q.elim
    · exact q.elim
  · exact q.elim
theorem q_ix {a b : Expr} {fa fb : FE} {pos : Pos} (hK : Γ.K = X.K) (ha : PE X a (tE Γ W fa)) (hb : PE X b (tE Γ W fb)) (hs : PlainIx b) : PE X (.Subscript a b pos) (tE Γ W (d2 itemD fa fb)) := PE.imp (pe_ix ix_seq ha hb hs) fun _ _ _ h => run2 (k_item hK) h

/-! ### what is walked -/
theorem sim_list {as : List Addr} {G : Hp} {a : Addr} {vs : List V} {ds : List D} (h : SqL X.K G a vs) (r : RepL Γ as G ds vs) : SimIt Γ (Itl X.K a) as G ds where
  go := fun i H le hi => ⟨vs, _, le.sl h, List.getElem?_eq_getElem (by rw [← r.length]; exact hi)⟩
  stop := fun i H le hi => ⟨vs, le.sl h, by rw [← r.length]; exact hi⟩
  yld := fun i H x H' d le hd hy => .inl ⟨hy.1, by
    obtain ⟨v, e, rv⟩ := r.get hd
    have z := hy.2 vs (le.sl h)
    rw [e] at z
    cases z
    exact rv⟩
theorem sim_tup {as : List Addr} {G : Hp} {a : Addr} {vs : List V} {ds : List D} (h : SqT X.K G a vs) (r : RepL Γ as G ds vs) : SimIt Γ (Itt X.K a) as G ds where
  go := fun i H le hi => ⟨vs, _, le.st h, List.getElem?_eq_getElem (by rw [← r.length]; exact hi)⟩
  stop := fun i H le hi => ⟨vs, le.st h, by rw [← r.length]; exact hi⟩
  yld := fun i H x H' d le hd hy => .inl ⟨hy.1, by
    obtain ⟨v, e, rv⟩ := r.get hd
    have z := hy.2 vs (le.st h)
    rw [e] at z
    cases z
    exact rv⟩
theorem qi_seq {tg e : Expr} {f : FE} (hK : Γ.K = X.K) (h : PE X e (tE Γ W f)) : PI X tg e (tI Γ W (iSeq f)) := PI.imp (PI.or (pi_list h) (pi_tup h)) fun σ H Rr ⟨Θ, as, G, M, ρ, S, q⟩ => by
  unfold iSeq at q
  cases ef : f ρ M with
  | bad => rw [ef] at q; exact q.elim
  | ex c xs M1 =>
    rw [ef] at q
    exact .inl ⟨Θ, as, G, M, ρ, S, by rw [ef]; exact q⟩
  | ok d M1 =>
    rw [ef] at q
    simp only [R.bind_ok] at q
    split at q
    · refine .inl ⟨Θ, as, G, M, ρ, S, ?_⟩
      rw [ef]
      rintro as' G' H' v S' le p ⟨a, vs, rfl, s, rl⟩
      have h1 : SqL X.K G' a vs := .inl (.inl s)
      exact ⟨a, rfl, ⟨vs, S'.sub.sl h1⟩, q as' G' H' _ S' le p (sim_list h1 rl)⟩
    · refine .inl ⟨Θ, as, G, M, ρ, S, ?_⟩
      rw [ef]
      rintro as' G' H' v S' le p ⟨a, vs, rfl, s, rl⟩
      rw [hK] at s
      exact ⟨a, rfl, ⟨vs, S'.sub.sl s⟩, q as' G' H' _ S' le p (sim_list s rl)⟩
    · refine .inr ⟨Θ, as, G, M, ρ, S, ?_⟩
      rw [ef]
      rintro as' G' H' v S' le p ⟨a, vs, rfl, s, rl⟩
      rw [hK] at s
      exact ⟨a, rfl, ⟨vs, S'.sub.st s⟩, q as' G' H' _ S' le p (sim_tup s rl)⟩
    · exact q.elim
theorem sim_range {as : List Addr} {G : Hp} {lo : Int} {n : Nat} : SimIt Γ (Itr lo n) as G ((List.range n).map fun (k : Nat) => D.int (lo + (k : Int))) where
  go := fun i H le hi => (show i < n by simpa using hi)
  stop := fun i H le hi => (show n ≤ i by simpa using hi)
  yld := fun i H x H' d le hd hy => .inl ⟨hy.1, by
    rw [List.getElem?_map] at hd
    cases q : (List.range n)[i]? with
    | none => rw [q] at hd; cases hd
    | some k =>
      rw [q] at hd
      have e : k = i := by
        obtain ⟨h1, h2⟩ := List.getElem?_eq_some_iff.mp q
        rw [List.getElem_range] at h2
        exact h2.symm
      cases hd
      subst e
      exact hy.2⟩
theorem qi_range1 {tg a : Expr} {f : FE} {p pos : Pos} (hg : Gl X "range") (hm : X.mg "range" = none) (ha : PE X a (tE Γ W f)) (hs : starEach [a] X.env = [(false, eval a X.env)] := by rfl) : PI X tg (.Call (.Name "range" p) [a] [] pos) (tI Γ W (iRange1 f)) :=
  PI.imp (pi_range1 hg hm (pa_cons ha pa_nil hs) hs) fun σ H Rr ⟨Θ, as, G, M, ρ, S, q⟩ => by
    refine ⟨Θ, as, G, M, ρ, S, (PostJ.bindE q).imp (Le.refl _) (List.prefix_refl _) ?_⟩
    rintro x H1 ⟨d, M1, as1, G1, S1, e1, p1, r, q1⟩
    split at q1
    · split at q1
      · rename_i j hj
        cases r
        refine ⟨j, rfl, hj.1, hj.2, q1 _ _ _ _ S1 (Le.refl _) (List.prefix_refl _) ?_⟩
        have z := sim_range (Γ := Γ) (as := as1) (G := G1) (lo := 0) (n := j.toNat)
        simpa using z
      · exact q1.elim
    · exact q1.elim
end
end DL
set_option maxRecDepth 100000
namespace DL
open PySem PySem.Spec PyProof.Rows L2

/-! ### dicts of data -/
def valD (kvs : List (Key × D)) (k : Key) : Option D := (kvs.find? fun kv => decide (kv.1 = k)).map (·.2)
def putD (kvs : List (Key × D)) (k : Key) (v : D) : List (Key × D) :=
  if (kvs.any fun kv => decide (kv.1 = k)) = true then kvs.map (fun kv => if kv.1 = k then (kv.1, v) else kv) else kvs ++ [(k, v)]
def keyD : D → Option Key
  | .int i => some (.inl i)
  | .str s => some (.inr s)
  | _ => none
section
variable {Γ : Gam} {as : List Addr} {G : Hp}
theorem keyD_rep {d : D} {v : V} {k : Key} (r : Rep Γ as G d v) (e : keyD d = some k) : v = kV k := by
  cases d <;> first | (cases e; cases r; rfl) | cases e
theorem RepKV.length : ∀ {xs : List (Key × D)} {vs : List (Key × V)}, RepKV Γ as G xs vs → xs.length = vs.length
  | [], _, h => by cases h; rfl
  | x :: xs, _, h => by obtain ⟨v, ws, rfl, _, t⟩ := h; simp [RepKV.length t]
theorem RepKV.val : ∀ {xs : List (Key × D)} {vs : List (Key × V)} {k : Key} {d : D}, RepKV Γ as G xs vs → valD xs k = some d → ∃ v, valV vs k = some v ∧ Rep Γ as G d v
  | [], _, k, d, h, e => by cases e
  | x :: xs, _, k, d, h, e => by
    obtain ⟨v, ws, rfl, r, t⟩ := h
    unfold valD at e
    unfold valV
    rw [List.find?_cons] at e ⊢
    by_cases q : x.1 = k
    · simp only [q, decide_true] at e ⊢
      cases e
      exact ⟨v, rfl, r⟩
    · simp only [q, decide_false] at e ⊢
      exact RepKV.val t e
theorem RepKV.valNone : ∀ {xs : List (Key × D)} {vs : List (Key × V)} {k : Key}, RepKV Γ as G xs vs → valD xs k = none → valV vs k = none
  | [], _, k, h, e => by cases h; rfl
  | x :: xs, _, k, h, e => by
    obtain ⟨v, ws, rfl, r, t⟩ := h
    unfold valD at e
    unfold valV
    rw [List.find?_cons] at e ⊢
    by_cases q : x.1 = k
    · simp only [q, decide_true] at e; cases e
    · simp only [q, decide_false] at e ⊢
      exact RepKV.valNone t e
theorem RepKV.any : ∀ {xs : List (Key × D)} {vs : List (Key × V)} {k : Key}, RepKV Γ as G xs vs → (xs.any fun kv => decide (kv.1 = k)) = vs.any fun kv => decide (kv.1 = k)
  | [], _, k, h => by cases h; rfl
  | x :: xs, _, k, h => by
    obtain ⟨v, ws, rfl, r, t⟩ := h
    rw [List.any_cons, List.any_cons, RepKV.any t]
theorem RepKV.map {k : Key} {d : D} {v : V} (r : Rep Γ as G d v) : ∀ {xs : List (Key × D)} {vs : List (Key × V)}, RepKV Γ as G xs vs → RepKV Γ as G (xs.map fun kv => if kv.1 = k then (kv.1, d) else kv) (vs.map fun kv => if kv.1 = k then (kv.1, v) else kv)
  | [], _, h => by cases h; rfl
  | x :: xs, _, h => by
    obtain ⟨w, ws, rfl, rw', t⟩ := h
    rw [List.map_cons, List.map_cons]
    by_cases q : x.1 = k
    · simp only [q, if_true]; exact ⟨v, _, rfl, r, RepKV.map r t⟩
    · simp only [q, if_false]; exact ⟨w, _, rfl, rw', RepKV.map r t⟩
theorem RepKV.snoc {k : Key} {d : D} {v : V} (r : Rep Γ as G d v) : ∀ {xs : List (Key × D)} {vs : List (Key × V)}, RepKV Γ as G xs vs → RepKV Γ as G (xs ++ [(k, d)]) (vs ++ [(k, v)])
  | [], _, h => by cases h; exact ⟨v, [], rfl, r, rfl⟩
  | x :: xs, _, h => by
    obtain ⟨w, ws, rfl, rw', t⟩ := h
    exact ⟨w, _, rfl, rw', RepKV.snoc r t⟩
theorem RepKV.put {k : Key} {d : D} {v : V} {xs : List (Key × D)} {vs : List (Key × V)} (r : Rep Γ as G d v) (h : RepKV Γ as G xs vs) : RepKV Γ as G (putD xs k d) (putK vs k v) := by
  unfold putD putK
  rw [RepKV.any h]
  by_cases q : (vs.any fun kv => decide (kv.1 = k)) = true
  · rw [if_pos q, if_pos q]; exact h.map r
  · rw [if_neg q, if_neg q]; exact h.snoc r
end

/-! ### stores -/
section
variable {Γ : Gam} {Θ : Ent} {as : List Addr} {G H : Hp} {M : List MO} {ρ : List Sl} {σ : L2.St}
/-- a thing that changes gets a new content -/
theorem Sta.putCel (S : Sta Γ Θ as G M ρ σ H) {n : Nat} {a : Addr} {m m' : MO} {o : HO} (ea : as[n]? = some a) (em : M[n]? = some m) (hm : m ≠ .dead) (r : RepM Γ as G (upd H a o) a m') : Sta Γ Θ as G (M.set n m') ρ σ (upd H a o) := by
  obtain ⟨g, ⟨u, hu⟩, _⟩ := S.cel n a m ea em hm
  have gne : ∀ b w, G b = some w → b ≠ a := fun b w h e => by rw [e, g] at h; cases h
  have hn : n < M.length := (List.getElem?_eq_some_iff.mp em).1
  have own : ∀ i b, Owns ρ σ i b → b ≠ a := fun i b ob e => (S.own i b ob).2.1 (by rw [e]; exact List.mem_of_getElem? ea)
  refine ⟨⟨fun b w h => by rw [upd_ne (gne b w h)]; exact S.sub b w h, S.grow, S.ext, S.esub, fun b w h nm => ?_, fun b w h => ?_, S.gfr, by rw [List.length_set]; exact S.len, S.nd, fun k b mm h1 h2 h3 => ?_, S.cfr, fun b hb => ?_⟩, S.slen, fun i s ov h1 h2 => ?_, S.own, S.odj, S.slf⟩
  · have e : b ≠ a := fun e => by
      subst e
      rcases S.cfr b (List.mem_of_getElem? ea) with q | q
      · exact nm (S.esub b q)
      · rw [q] at h; cases h
    rw [upd_ne e]; exact S.fr b w h nm
  · by_cases e : b = a
    · subst e; exact ⟨o, upd_same⟩
    · rw [upd_ne e]; exact S.pres b w h
  · by_cases hk : n = k
    · subst hk
      rw [List.getElem?_set_self hn] at h2
      cases h2
      rw [ea] at h1
      cases h1
      exact ⟨g, ⟨o, upd_same⟩, r⟩
    · rw [List.getElem?_set_ne hk] at h2
      obtain ⟨c1, ⟨w, c2⟩, c3⟩ := S.cel k b mm h1 h2 h3
      have e : b ≠ a := fun e => by
        subst e
        have l1 := (List.getElem?_eq_some_iff.mp ea)
        have l2 := (List.getElem?_eq_some_iff.mp h1)
        exact hk ((List.getElem_inj S.nd).mp (l1.2.trans l2.2.symm))
      exact ⟨c1, ⟨w, by rw [upd_ne e]; exact c2⟩, c3.mono (Le.refl _) (List.prefix_refl _) (upd_ne e)⟩
  · by_cases e : b = a
    · subst e; exact ⟨o, upd_same⟩
    · rw [upd_ne e]; exact S.ain b hb
  · refine RepS.mono (Le.refl _) (List.prefix_refl _) (fun b hs e => ?_) (S.env i s ov h1 h2)
    subst e
    refine upd_ne (own i b ⟨?_, h2⟩)
    rcases hs with ⟨xs, e⟩ | ⟨c, ns, xs, e⟩
    · exact .inl ⟨xs, e ▸ h1⟩
    · exact .inr ⟨c, ns, xs, e ▸ h1⟩
/-- a slot's own thing gets a new content -/
theorem Sta.putOwn (S : Sta Γ Θ as G M ρ σ H) {i : Nat} {a : Addr} {s' : Sl} {o : HO} (ow : Owns ρ σ i a) (hs' : (∃ xs, s' = .own xs) ∨ ∃ c ns xs, s' = .obj c ns xs) (hsl : ∀ c ns xs, s' = .obj c ns xs → Θ.sf = some a) (r : RepS Γ as G (upd H a o) s' (some (.ref a))) : Sta Γ Θ as G M (ρ.set i s') σ (upd H a o) := by
  obtain ⟨g, aa, hmu⟩ := S.own i a ow
  have gne : ∀ b w, G b = some w → b ≠ a := fun b w h e => by rw [e, g] at h; cases h
  have hi : i < ρ.length := by
    rcases ow.1 with ⟨xs, h⟩ | ⟨c, ns, xs, h⟩ <;> exact (List.getElem?_eq_some_iff.mp h).1
  have ow' : ∀ j b, Owns (ρ.set i s') σ j b → Owns ρ σ j b := fun j b ⟨h, e⟩ => by
    by_cases hj : i = j
    · subst hj
      rw [ow.2] at e
      cases e
      exact ow
    · rw [List.getElem?_set_ne hj] at h
      exact ⟨h, e⟩
  have ne : ∀ j b, Owns ρ σ j b → j ≠ i → b ≠ a := fun j b ob hj e => hj (S.odj j i a (e ▸ ob) ow)
  refine ⟨⟨fun b w h => by rw [upd_ne (gne b w h)]; exact S.sub b w h, S.grow, S.ext, S.esub, fun b w h nm => ?_, fun b w h => ?_, S.gfr, S.len, S.nd, fun k b mm h1 h2 h3 => ?_, S.cfr, fun b hb => ?_⟩, by rw [List.length_set]; exact S.slen, fun j s ov h1 h2 => ?_, fun j b ob => S.own j b (ow' j b ob), fun j k b o1 o2 => S.odj j k b (ow' j b o1) (ow' k b o2), fun j c ns xs b h1 h2 => ?_⟩
  · have e : b ≠ a := fun e => by
      subst e
      rcases hmu with q | q
      · rw [q] at h; cases h
      · exact nm q
    rw [upd_ne e]; exact S.fr b w h nm
  · by_cases e : b = a
    · subst e; exact ⟨o, upd_same⟩
    · rw [upd_ne e]; exact S.pres b w h
  · obtain ⟨c1, ⟨w, c2⟩, c3⟩ := S.cel k b mm h1 h2 h3
    have e : b ≠ a := fun e => aa (by rw [← e]; exact List.mem_of_getElem? h1)
    exact ⟨c1, ⟨w, by rw [upd_ne e]; exact c2⟩, c3.mono (Le.refl _) (List.prefix_refl _) (upd_ne e)⟩
  · have e : b ≠ a := fun e => aa (e ▸ hb)
    rw [upd_ne e]; exact S.ain b hb
  · by_cases hj : i = j
    · subst hj
      rw [List.getElem?_set_self hi] at h1
      cases h1
      rw [ow.2] at h2
      cases h2
      exact r
    · rw [List.getElem?_set_ne hj] at h1
      refine RepS.mono (Le.refl _) (List.prefix_refl _) (fun b hs e => ?_) (S.env j s ov h1 h2)
      subst e
      refine upd_ne (ne j b ⟨?_, h2⟩ (Ne.symm hj))
      rcases hs with ⟨xs, e⟩ | ⟨c, ns, xs, e⟩
      · exact .inl ⟨xs, e ▸ h1⟩
      · exact .inr ⟨c, ns, xs, e ▸ h1⟩
  · by_cases hj : i = j
    · subst hj
      rw [List.getElem?_set_self hi] at h1
      cases h1
      rw [ow.2] at h2
      cases h2
      exact hsl c ns xs rfl
    · rw [List.getElem?_set_ne hj] at h1
      exact S.slf j c ns xs b h1 h2
/-- a new own list goes into a slot -/
theorem Sta.setOwn (S : Sta Γ Θ as G M ρ σ H) {p : Addr} {vs : List V} {xs : List D} (i : Nat) (hp : H p = some (.lst vs)) (r : RepL Γ as G xs vs) (g : G p = none) (pa : p ∉ as) (pe : Θ.H p = none) (po : ∀ j, ¬ Owns ρ σ j p) : Sta Γ Θ as G M (ρ.set i (.own xs)) (σ.set i (some (.ref p))) H := by
  have ow : ∀ j a, Owns (ρ.set i (.own xs)) (σ.set i (some (.ref p))) j a → (j = i ∧ a = p) ∨ (j ≠ i ∧ Owns ρ σ j a) := fun j a ⟨h, e⟩ => by
    by_cases hj : i = j
    · subst hj
      rw [List.getElem?_set_self'] at e
      cases q : σ[i]? <;> rw [q] at e <;> simp at e
      exact .inl ⟨rfl, e.symm⟩
    · rw [List.getElem?_set_ne hj] at e
      rw [List.getElem?_set_ne hj] at h
      exact .inr ⟨Ne.symm hj, h, e⟩
  refine ⟨S.toSt2, by simp [S.slen], fun j s ov h1 h2 => ?_, fun j a o => ?_, fun j k a o1 o2 => ?_, fun j c ns ys a h1 h2 => ?_⟩
  · by_cases hj : i = j
    · subst hj
      rw [List.getElem?_set_self'] at h1 h2
      cases q : ρ[i]? <;> rw [q] at h1 <;> simp at h1
      cases q2 : σ[i]? <;> rw [q2] at h2 <;> simp at h2
      subst h1; subst h2
      exact ⟨p, vs, rfl, hp, r⟩
    · rw [List.getElem?_set_ne hj] at h1 h2
      exact S.env j s ov h1 h2
  · rcases ow j a o with ⟨_, rfl⟩ | ⟨_, o'⟩
    · exact ⟨g, pa, .inl pe⟩
    · exact S.own j a o'
  · rcases ow j a o1 with ⟨h1, h2⟩ | ⟨h1, h2⟩ <;> rcases ow k a o2 with ⟨h3, h4⟩ | ⟨h3, h4⟩
    · rw [h1, h3]
    · exact absurd (h2 ▸ h4) (po k)
    · exact absurd (h4 ▸ h2) (po j)
    · exact S.odj j k a h2 h4
  · by_cases hj : i = j
    · subst hj
      rw [List.getElem?_set_self'] at h1
      cases q : ρ[i]? <;> rw [q] at h1 <;> simp at h1
    · rw [List.getElem?_set_ne hj] at h1 h2
      exact S.slf j c ns ys a h1 h2
/-- a new thing that changes -/
theorem St2.newCel {as' : List Addr} (S : St2 Γ Θ as G M H) {p : Addr} {o : HO} {m : MO} (hn : H p = none) (r : RepM Γ (as ++ [p]) G (upd H p o) p m) : St2 Γ (DL.now H as G) (as ++ [p]) G (M ++ [m]) (upd H p o) := by
  have gp : G p = none := S.sub.free hn
  have pa : p ∉ as := fun z => by
    obtain ⟨u, h⟩ := S.ain p z
    rw [hn] at h; cases h
  refine ⟨fun b u h => Le.new hn b u (S.sub b u h), Le.refl _, List.prefix_append _ _, fun _ h => h, fun b u h _ => Le.new hn b u h, fun b u h => ⟨u, Le.new hn b u h⟩, fun b u h => .inl h, by simp [S.len], ?_, fun k b mm h1 h2 h3 => ?_, fun b h => ?_, fun b h => ?_⟩
  · rw [List.nodup_append]
    refine ⟨S.nd, by simp, fun x hx y hy e => ?_⟩
    rw [List.mem_singleton] at hy
    subst hy; subst e
    exact pa hx
  · by_cases hk : k < as.length
    · rw [List.getElem?_append_left hk] at h1
      rw [List.getElem?_append_left (by rw [← S.len]; exact hk)] at h2
      obtain ⟨c1, ⟨u, c2⟩, c3⟩ := S.cel k b mm h1 h2 h3
      have e : b ≠ p := ne_of_none c2 hn
      exact ⟨c1, ⟨u, by rw [upd_ne e]; exact c2⟩, c3.mono (Le.refl _) (List.prefix_append _ _) (upd_ne e)⟩
    · rw [List.getElem?_append_right (Nat.le_of_not_lt hk)] at h1
      rw [List.getElem?_append_right (by rw [← S.len]; exact Nat.le_of_not_lt hk)] at h2
      have z : k - as.length = 0 := by
        have := (List.getElem?_eq_some_iff.mp h1).1
        simp at this
        omega
      rw [z] at h1
      rw [← S.len, z] at h2
      simp at h1 h2
      subst h1; subst h2
      exact ⟨gp, ⟨o, upd_same⟩, r⟩
  · rcases List.mem_append.mp h with q | q
    · exact .inl q
    · rw [List.mem_singleton.mp q]; exact .inr hn
  · rcases List.mem_append.mp h with q | q
    · obtain ⟨u, e⟩ := S.ain b q
      exact ⟨u, Le.new hn b u e⟩
    · rw [List.mem_singleton.mp q]; exact ⟨o, upd_same⟩
end
section
variable {X : Cx} {Γ : Gam} {W : WX}
/-! ### a new list, nobody else's -/
abbrev FO := FA
def PostO (Γ : Gam) (Θ : Ent) (W : WX) (ρ : List Sl) (σ : L2.St) (as : List Addr) (G : Hp) (Q : VK) : R (List D) → Prop
  | .ok xs M => ∀ as' G' H' p vs, Sta Γ Θ as' G' M ρ σ H' → Le G G' → as <+: as' → RepL Γ as' G' xs vs → H' p = some (.lst vs) → G' p = none → p ∉ as' → Θ.H p = none → (∀ i, ¬ Owns ρ σ i p) → Q (.ref p) H'
  | .ex c xs M => ∀ as' G' H' d, Sta Γ Θ as' G' M ρ σ H' → Le G G' → as <+: as' → XP Γ as' G' c xs d → W (.ref (Γ.eA c)) (some d) σ H'
  | .bad => False
def tO (Γ : Gam) (W : WX) (f : FO) : TE := fun σ H Q => ∃ Θ as G M ρ, Sta Γ Θ as G M ρ σ H ∧ PostO Γ Θ W ρ σ as G Q (f ρ M)
/-- it stands for good -/
def dL (f : FO) : FE := fun ρ M => (f ρ M).bind fun xs M => .ok (.lst xs) M
theorem run_ofO {f : FO} {σ : L2.St} {H : Hp} {Q : VK} (h : tE Γ W (dL f) σ H Q) : tO Γ W f σ H Q := by
  obtain ⟨Θ, as, G, M, ρ, S, q⟩ := h
  refine ⟨Θ, as, G, M, ρ, S, ?_⟩
  unfold dL at q
  cases ef : f ρ M with
  | bad => rw [ef] at q; exact q.elim
  | ex c xs M1 => rw [ef] at q; exact q
  | ok xs M1 =>
    rw [ef] at q
    intro as' G' H' p vs S' le pa r hp g na th no
    have S2 := S'.toSt2.freeze g hp (.inl th) na
    refine q as' (upd G' p (.lst vs)) H' (.ref p) ⟨S2, S'.slen, fun i s ov h1 h2 => ?_, fun i a o => ?_, S'.odj, S'.slf⟩ (le.trans (Le.new g)) pa ⟨p, vs, rfl, upd_same, r.mono (Le.new g) (List.prefix_refl _)⟩
    · exact RepS.mono (Le.new g) (List.prefix_refl _) (fun _ _ _ => rfl) (S'.env i s ov h1 h2)
    · obtain ⟨o1, o2, o3⟩ := S'.own i a o
      exact ⟨by rw [upd_ne (show a ≠ p from fun e => no i (e ▸ o))]; exact o1, o2, o3⟩
theorem q_ofO {e : Expr} {f : FO} (h : PE X e (tO Γ W f)) : PE X e (tE Γ W (dL f)) := PE.imp h fun _ _ _ h => run_ofO h
theorem q_setF {st : Stmt} {i : Nat} {f : FO} (h : PS X st (tAsg (tO Γ W f) (gName i))) : PS X st (tAsg (tE Γ W (dL f)) (gName i)) := PS.imp h fun _ _ _ h => run_ofO h
theorem newO {Θ : Ent} {as : List Addr} {G H : Hp} {M : List MO} {ρ : List Sl} {σ : L2.St} {ds : List D} {vs : List V} {Q : VK} (S : Sta Γ Θ as G M ρ σ H) (r : RepL Γ as G ds vs) (q : PostO Γ Θ W ρ σ as G Q (.ok ds M)) {p : Addr} (n : H p = none) : Q (.ref p) (upd H p (.lst vs)) := by
  refine q as G _ p vs (S.after (S.toSt2.lay0 n)) (Le.refl _) (List.prefix_refl _) r upd_same (S.sub.free n) (fun z => ?_) (S.toSt2.old n) fun i o => ?_
  · obtain ⟨u, h⟩ := S.ain p z
    rw [n] at h; cases h
  · obtain ⟨u, h⟩ := Owns.inH S o
    rw [n] at h; cases h
def oLst (fa : FA) : FO := fun ρ M => (fa ρ M).bind fun ds M => if szOk ds.length then .ok ds M else .bad
theorem PostO.bindA {Θ : Ent} {ρ : List Sl} {σ : L2.St} {as : List Addr} {G : Hp} {Q : VK} {r : R (List D)} {k : List D → List MO → R (List D)} (h : PostO Γ Θ W ρ σ as G Q (r.bind k)) :
    PostA Γ Θ W ρ σ as G (fun vs H' => ∃ ds M' as' G', Sta Γ Θ as' G' M' ρ σ H' ∧ Le G G' ∧ as <+: as' ∧ RepL Γ as' G' ds vs ∧ PostO Γ Θ W ρ σ as' G' Q (k ds M')) r := by
  cases r with
  | ok d M =>
    intro as' G' H' v s e p x
    refine ⟨d, M, as', G', s, e, p, x, ?_⟩
    have h' : PostO Γ Θ W ρ σ as G Q (k d M) := h
    cases q : k d M with
    | ok ds M2 => rw [q] at h'; exact fun a2 G2 H2 p2 vs s2 e2 x2 => h' a2 G2 H2 p2 vs s2 (e.trans e2) (p.trans x2)
    | ex c xs M2 => rw [q] at h'; exact fun a2 G2 H2 J s2 e2 p2 z => h' a2 G2 H2 J s2 (e.trans e2) (p.trans p2) z
    | bad => rw [q] at h'; exact h'
  | ex c xs M => exact h
  | bad => exact h
theorem qo_lst {es : List Expr} {pos : Pos} {fa : FA} (h : PA X es (tA Γ W fa)) : PE X (.List es pos) (tO Γ W (oLst fa)) := PE.imp (pe_lst h) fun σ H Q ⟨Θ, as, G, M, ρ, S, q⟩ => by
  refine ⟨Θ, as, G, M, ρ, S, (PostO.bindA q).imp (Le.refl _) (List.prefix_refl _) ?_⟩
  rintro vs H1 ⟨ds, M1, as1, G1, S1, e1, p1, r, q1⟩
  split at q1
  · rename_i hz
    exact ⟨by rw [← r.length]; exact szOk_le hz, fun p n => newO S1 r q1 n⟩
  · exact q1.elim
def oList (fa : FA) : FO := fun ρ M => (fa ρ M).bind fun ds M => match ds with
  | [.tup xs] => .ok xs M
  | [.lst xs] => .ok xs M
  | [.rol xs] => .ok xs M
  | _ => .bad
theorem qo_list {x : Str} {p pos : Pos} {e : Expr} {es : List Expr} {fa : FA} (hK : Γ.K = X.K) (hg : Gl X x) (hm : X.mg x = none) (hv : bootBuiltins x = some (.type "list")) (ha : PA X (e :: es) (tA Γ W fa)) (hn : x ≠ "__name__" := by decide) (hdb : (x == ("__debug__" : Str)) = false := by decide)
    (he : starEach (e :: es) X.env = (false, eval e X.env) :: starEach es X.env := by rfl) (hpl : (backTo pos (starEach es X.env)).any (·.1) = false := by rfl) : PE X (.Call (.Name x p) (e :: es) [] pos) (tO Γ W (oList fa)) :=
  PE.imp (pe_callTy call_list_of hg hm hv ha hn hdb he hpl) fun σ H Q ⟨Θ, as, G, M, ρ, S, q⟩ => by
    refine ⟨Θ, as, G, M, ρ, S, (PostO.bindA q).imp (Le.refl _) (List.prefix_refl _) ?_⟩
    rintro vs H1 ⟨ds, M1, as1, G1, S1, e1, p1, r, q1⟩
    split at q1
    · obtain ⟨v, rfl, a, ws, rfl, s, rl⟩ := one_rep r
      rw [hK] at s
      exact ⟨a, ws, rfl, .inr (S1.sub.st s), fun l n => newO S1 rl q1 n⟩
    · obtain ⟨v, rfl, a, ws, rfl, s, rl⟩ := one_rep r
      exact ⟨a, ws, rfl, .inl (.inl (.inl (S1.sub _ _ s))), fun l n => newO S1 rl q1 n⟩
    · obtain ⟨v, rfl, a, ws, rfl, s, rl⟩ := one_rep r
      rw [hK] at s
      exact ⟨a, ws, rfl, .inl (S1.sub.sl s), fun l n => newO S1 rl q1 n⟩
    · exact q1.elim
/-- x = a new list, one's own -/
def dSetO (i : Nat) (f : FO) : FS := fun ρ M => (f ρ M).sbind ρ fun xs M => .nx (ρ.set i (.own xs)) M
theorem q_setO {st : Stmt} {i : Nat} {f : FO} (h : PS X st (tAsg (tO Γ W f) (gName i))) : PS X st (tS Γ W (dSetO i f)) := PS.imp h fun D σ H ⟨Θ, as, G, M, ρ, S, q⟩ => by
  refine ⟨Θ, as, G, M, ρ, S, ?_⟩
  unfold dSetO at q
  cases ef : f ρ M with
  | bad => rw [ef] at q; exact q.elim
  | ex c xs M1 => rw [ef] at q; exact fun as' G' H' d s _ _ x => q as' G' σ H' d s x
  | ok xs M1 =>
    rw [ef] at q
    exact fun as' G' H' p vs S' le pa r hp g na th no => q as' G' _ H' (S'.setOwn i hp r g na th no)
/-- what a slot owns stands for good from here on -/
def frz (i : Nat) (ρ : List Sl) : List Sl := match ρ[i]? with
  | some (.own xs) => ρ.set i (.d (.lst xs))
  | _ => ρ
theorem Sta.frz {Θ : Ent} {as : List Addr} {G H : Hp} {M : List MO} {ρ : List Sl} {σ : L2.St} (S : Sta Γ Θ as G M ρ σ H) (i : Nat) : ∃ G', Le G G' ∧ Sta Γ Θ as G' M (DL.frz i ρ) σ H := by
  unfold DL.frz
  split
  · rename_i xs hi
    have hl : i < σ.length := by rw [← S.slen]; exact (List.getElem?_eq_some_iff.mp hi).1
    obtain ⟨a, vs, e, hv, r⟩ := S.env i _ _ hi (List.getElem?_eq_getElem hl)
    have ow : Owns ρ σ i a := ⟨.inl ⟨xs, hi⟩, by rw [List.getElem?_eq_getElem hl, e]⟩
    obtain ⟨g, na, mu⟩ := S.own i a ow
    have S2 := S.toSt2.freeze g hv mu na
    refine ⟨upd G a (.lst vs), Le.new g, S2, by rw [List.length_set]; exact S.slen, fun j s ov h1 h2 => ?_, fun j b o => ?_, fun j k b o1 o2 => ?_, fun j c ns ys b h1 h2 => ?_⟩
    · by_cases hj : i = j
      · subst hj
        rw [List.getElem?_set_self (by rw [S.slen]; exact hl)] at h1
        cases h1
        rw [ow.2] at h2
        cases h2
        exact ⟨_, rfl, a, vs, rfl, upd_same, r.mono (Le.new g) (List.prefix_refl _)⟩
      · rw [List.getElem?_set_ne hj] at h1
        exact RepS.mono (Le.new g) (List.prefix_refl _) (fun _ _ _ => rfl) (S.env j s ov h1 h2)
    · have oo : j ≠ i ∧ Owns ρ σ j b := by
        obtain ⟨h, e⟩ := o
        by_cases hj : i = j
        · subst hj
          exfalso
          rcases h with ⟨ys, h⟩ | ⟨c, ns, ys, h⟩ <;> (rw [List.getElem?_set_self (by rw [S.slen]; exact hl)] at h; cases h)
        · rw [List.getElem?_set_ne hj] at h
          exact ⟨Ne.symm hj, h, e⟩
      obtain ⟨h1, h2, h3⟩ := S.own j b oo.2
      exact ⟨by rw [upd_ne (show b ≠ a from fun e => oo.1 (S.odj j i a (e ▸ oo.2) ow))]; exact h1, h2, h3⟩
    · have key : ∀ j b, Owns (ρ.set i (.d (.lst xs))) σ j b → Owns ρ σ j b := fun j b ⟨h, e⟩ => by
        by_cases hj : i = j
        · subst hj
          exfalso
          rcases h with ⟨ys, h⟩ | ⟨c, ns, ys, h⟩ <;> (rw [List.getElem?_set_self (by rw [S.slen]; exact hl)] at h; cases h)
        · rw [List.getElem?_set_ne hj] at h
          exact ⟨h, e⟩
      exact S.odj j k b (key j b o1) (key k b o2)
    · by_cases hj : i = j
      · subst hj
        rw [List.getElem?_set_self (by rw [S.slen]; exact hl)] at h1
        cases h1
      · rw [List.getElem?_set_ne hj] at h1
        exact S.slf j c ns ys b h1 h2
  · exact ⟨G, Le.refl _, S⟩
def dFrz (i : Nat) (f : FS) : FS := fun ρ M => f (DL.frz i ρ) M
theorem q_frz {st : Stmt} {f : FS} (i : Nat) (h : PS X st (tS Γ W f)) : PS X st (tS Γ W (dFrz i f)) := PS.imp h fun D σ H ⟨Θ, as, G, M, ρ, S, q⟩ => by
  obtain ⟨G', _, S'⟩ := S.frz i
  exact ⟨Θ, as, G', M, _, S', q⟩
/-! ### append -/
def dApp (i : Nat) (f : FE) : FS := fun ρ M => match ρ[i]? with
  | some (.own xs) => (f ρ M).sbind ρ fun d M => if szOk (xs.length + 1) then .nx (ρ.set i (.own (xs ++ [d]))) M else .bad
  | _ => .bad
theorem szOk_lt {n : Nat} (h : szOk (n + 1) = true) : n < sizeLine := szOk_le h
theorem Sta.at_own {Θ : Ent} {as : List Addr} {G H : Hp} {M : List MO} {ρ : List Sl} {σ : L2.St} (S : Sta Γ Θ as G M ρ σ H) {i : Nat} {xs : List D} (h : ρ[i]? = some (.own xs)) : ∃ a vs, Owns ρ σ i a ∧ H a = some (.lst vs) ∧ RepL Γ as G xs vs := by
  have hl : i < σ.length := by rw [← S.slen]; exact (List.getElem?_eq_some_iff.mp h).1
  obtain ⟨a, vs, e, hv, r⟩ := S.env i _ _ h (List.getElem?_eq_getElem hl)
  exact ⟨a, vs, ⟨.inl ⟨xs, h⟩, by rw [List.getElem?_eq_getElem hl, e]⟩, hv, r⟩
theorem q_app {st : Stmt} {i : Nat} {f : FE} (h : PS X st (tDrop (tBM X.K "list" rAppend (tVar i) (tCons (tE Γ W f) tNil)))) : PS X st (tS Γ W (dApp i f)) := PS.imp h fun D σ H ⟨Θ, as, G, M, ρ, S, q⟩ => by
  unfold dApp at q
  split at q
  · rename_i xs hi
    obtain ⟨a, vs, ow, ha, r⟩ := S.at_own hi
    refine ⟨.ref a, ow.2, .inl ⟨rfl, vs, .inl (.inl ha)⟩, Θ, as, G, M, ρ, S, (PostS.bindE q).imp (Le.refl _) (List.prefix_refl _) ?_⟩
    rintro v H1 ⟨d, M1, as1, G1, S1, e1, p1, rd, q1⟩
    obtain ⟨a1, ws, ow1, ha1, r1⟩ := S1.at_own hi
    have e : a1 = a := by
      have z := ow1.2.symm.trans ow.2
      simpa using z
    subst e
    split at q1
    · rename_i hz
      refine ⟨a1, ws, v, rfl, rfl, ha1, by rw [← r1.length]; exact szOk_lt hz, ?_⟩
      exact q1 _ _ _ _ (S1.putOwn ow1 (.inl ⟨_, rfl⟩) (fun _ _ _ z => nomatch z) ⟨a1, _, rfl, upd_same, r1.append (RepL.cons rd RepL.nil)⟩)
    · exact q1.elim
  · exact q.elim
/-! ### self.f = e, self being made -/
def dPutSelf (f : Str) (fe : FE) : FS := fun ρ M => (fe ρ M).sbind ρ fun d M => match ρ[0]? with
  | some (Sl.obj c ns xs) => if f ∈ cn c ∧ ns.length < 900 then .nx (ρ.set 0 (.obj c (putN f d ns xs).1 (putN f d ns xs).2)) M else .bad
  | _ => .bad
theorem Sta.at_obj {Θ : Ent} {as : List Addr} {G H : Hp} {M : List MO} {ρ : List Sl} {σ : L2.St} (S : Sta Γ Θ as G M ρ σ H) {i c : Nat} {ns : List Str} {xs : List D} (h : ρ[i]? = some (.obj c ns xs)) : ∃ a dx vs, Owns ρ σ i a ∧ H a = some (.ins (Γ.cA c) dx (ns.zip vs)) ∧ vs.length = ns.length ∧ RepL Γ as G xs vs := by
  have hl : i < σ.length := by rw [← S.slen]; exact (List.getElem?_eq_some_iff.mp h).1
  obtain ⟨a, dx, vs, e, hv, l, r⟩ := S.env i _ _ h (List.getElem?_eq_getElem hl)
  exact ⟨a, dx, vs, ⟨.inr ⟨c, ns, xs, h⟩, by rw [List.getElem?_eq_getElem hl, e]⟩, hv, l, r⟩
theorem self_put {Θ : Ent} {as : List Addr} {G H : Hp} {M : List MO} {ρ : List Sl} {σ : L2.St} (S : Sta Γ Θ as G M ρ σ H) {c : Nat} {ns : List Str} {xs : List D} (h : ρ[0]? = some (.obj c ns xs)) {f : Str} {d : D} {v : V} (r : Rep Γ as G d v) :
    ∃ a dx fs, σ[0]? = some (some (.ref a)) ∧ H a = some (.ins (Γ.cA c) dx fs) ∧ fs.length ≤ ns.length ∧ Sta Γ Θ as G M (ρ.set 0 (.obj c (putN f d ns xs).1 (putN f d ns xs).2)) σ (upd H a (.ins (Γ.cA c) dx (putF f v fs))) := by
  obtain ⟨a, dx, vs, ow, ha, l, rl⟩ := S.at_obj h
  obtain ⟨h1, h2⟩ := putN_rep (f := f) r (ns := ns) rl l
  refine ⟨a, dx, _, ow.2, ha, by rw [List.length_zip]; exact Nat.min_le_left _ _, S.putOwn ow (.inr ⟨_, _, _, rfl⟩) (fun c' ns' xs' e => S.slf 0 c ns xs a h ow.2) ?_⟩
  rw [putN_zip l, h1]
  exact ⟨a, dx, _, rfl, upd_same, putN_len l, h2⟩
theorem q_putSelf {st : Stmt} {f : Str} {fe : FE} (T : GOk Γ) (hK : Γ.K = X.K) (h : PS X st (sFld X.K (tVar 0) (tE Γ W fe) f)) : PS X st (tS Γ W (dPutSelf f fe)) := PS.imp h fun D σ H ⟨Θ, as, G, M, ρ, S, q⟩ => by
  refine ⟨Θ, as, G, M, ρ, S, (PostS.bindE q).imp (Le.refl _) (List.prefix_refl _) ?_⟩
  rintro v H1 ⟨d, M1, as1, G1, S1, e1, p1, rd, q1⟩
  split at q1
  · rename_i c ns xs h0
    split at q1
    · rename_i hc
      obtain ⟨a, dx, fs, hs, ha, hl, S2⟩ := self_put S1 h0 (f := f) rd
      obtain ⟨c1, c2⟩ := T.cls c f hc.1
      rw [hK] at c1 c2
      exact ⟨.ref a, hs, a, _, dx, fs, rfl, ha, c1, c2, by omega, q1 _ _ _ _ S2⟩
    · exact q1.elim
  · exact q1.elim
end
end DL
set_option maxRecDepth 100000
namespace DL
open PySem PySem.Spec PyProof.Rows L2
section
variable {X : Cx} {Γ : Gam} {W : WX}
/-! ### o.f as a target -/
def gFld (K : PySem.W.Frag) (to : TE) (f : Str) : TG := fun v σ H Q => to σ H fun x H1 => ∃ a C dx fs, x = .ref a ∧ H1 a = some (.ins C dx fs) ∧ Cls K C ∧ NoAttr K C f ∧ fs.length < 1000 ∧ Q σ (upd H1 a (.ins C dx (putF f v fs)))
theorem pg_fld {o : Expr} {f : Str} {pos : Pos} {to : TE} (ho : PE X o to) : PG X (.Attribute o f pos) (gFld X.K to f) := ⟨fun pins s σ H v u Q I r h => by
  rw [PySem.assign_Attribute]
  refine wpAny_bind (wpAny_holding (thn (ho.run pins s σ H _ I h) fun ov s1 ⟨x, H1, I1, rx, a, C, dx, fs, ex, ea, c, n, l, q⟩ => ?_))
  cases ex
  cases rx
  refine wpAny_bind (wpAny_standAt (wpAny_bind (wpAny_holding (setattr_ok I1 ea c n l r fun s2 I2 => ?_))))
  exact wpAny_release ⟨σ, _, I2, q⟩⟩
def gSelf (f : Str) : TGt := fun d ρ M => match ρ[0]? with
  | some (Sl.obj c ns xs) => if f ∈ cn c ∧ ns.length < 900 then some (ρ.set 0 (.obj c (putN f d ns xs).1 (putN f d ns xs).2), M) else none
  | _ => none
theorem qg_self {o : Expr} {f : Str} {pos : Pos} (T : GOk Γ) (hK : Γ.K = X.K) (ho : PE X o (tVar 0)) : PG X (.Attribute o f pos) (tG Γ (gSelf f)) := PG.imp (pg_fld ho) fun v σ H Q ⟨Θ, as, G, M, ρ, d, ρ', M', S, r, e, q⟩ => by
  unfold gSelf at e
  split at e
  · rename_i c ns xs h0
    split at e
    · rename_i hc
      cases e
      obtain ⟨a, dx, fs, hs, ha, hl, S2⟩ := self_put S h0 (f := f) r
      obtain ⟨c1, c2⟩ := T.cls c f hc.1
      rw [hK] at c1 c2
      exact ⟨.ref a, hs, a, _, dx, fs, rfl, ha, c1, c2, by omega, q _ _ _ _ S2 (Le.refl _) (List.prefix_refl _)⟩
    · cases e
  · cases e

/-! ### a dict that changes -/
def dicAt (M : List MO) : D → Option (Nat × List (Key × D))
  | .cel n => match M[n]? with
    | some (.dic kvs) => some (n, kvs)
    | _ => none
  | _ => none
def dGetK (fo fk : FE) : FE := fun ρ M => (fo ρ M).bind fun o M => (fk ρ M).bind fun k M => match dicAt M o, keyD k with
  | some p, some k => ofOpt (valD p.2 k) M
  | _, _ => .bad
theorem dicAt_rep {Θ : Ent} {as : List Addr} {G H : Hp} {M : List MO} {o : D} {v : V} {n : Nat} {kvs : List (Key × D)} (S : St2 Γ Θ as G M H) (r : Rep Γ as G o v) (h : dicAt M o = some (n, kvs)) : ∃ a ws, v = .ref a ∧ as[n]? = some a ∧ M[n]? = some (.dic kvs) ∧ H a = some (.dK ws) ∧ RepKV Γ as G kvs ws := by
  unfold dicAt at h
  split at h
  · split at h
    · rename_i kvs' em
      cases h
      obtain ⟨a, ea, ev⟩ := r
      obtain ⟨_, _, ws, h1, h2⟩ := S.cel _ a _ ea em (by simp)
      exact ⟨a, ws, ev, ea, em, h1, h2⟩
    · cases h
  · cases h
theorem q_getK {o i : Expr} {fo fk : FE} {pos : Pos} (hu : X.A.units + 1 < cLine) (ho : PE X o (tE Γ W fo)) (hi : PE X i (tE Γ W fk)) (hs : NoSl i) : PE X (.Subscript o i pos) (tE Γ W (dGetK fo fk)) := PE.imp (pe_dget hu ho hi hs) fun σ H Q ⟨Θ, as, G, M, ρ, S, q⟩ => by
  refine ⟨Θ, as, G, M, ρ, S, (PostE.bindE q).imp (Le.refl _) (List.prefix_refl _) ?_⟩
  rintro x H1 ⟨d, M1, as1, G1, S1, e1, p1, r, q1⟩
  refine ⟨Θ, as1, G1, M1, ρ, S1, (PostE.bindE q1).imp (Le.refl _) (List.prefix_refl _) ?_⟩
  rintro y H2 ⟨k, M2, as2, G2, S2, e2, p2, rk, q2⟩
  split at q2
  · rename_i p kk hp hk
    obtain ⟨n, kvs⟩ := p
    obtain ⟨a, ws, rfl, ea, em, ha, rk'⟩ := dicAt_rep S2.toSt2 (r.mono e2 p2) hp
    cases keyD_rep rk hk
    unfold ofOpt at q2
    split at q2
    · rename_i z hz
      obtain ⟨v, hv, rv⟩ := rk'.val hz
      exact ⟨a, v, rfl, by rw [← hv]; exact DGet.k ha, got S2 q2 rv⟩
    · exact q2.elim
  · exact q2.elim
def dPutK (fo fk fv : FE) : FS := fun ρ M => (fv ρ M).sbind ρ fun v M => (fo ρ M).sbind ρ fun o M => (fk ρ M).sbind ρ fun k M => match dicAt M o, keyD k with
  | some p, some k => if szOk (p.2.length + 1) then .nx ρ (M.set p.1 (.dic (putD p.2 k v))) else .bad
  | _, _ => .bad
theorem q_putK {st : Stmt} {fo fk fv : FE} (h : PS X st (sDPut (tE Γ W fo) (tE Γ W fk) (tE Γ W fv))) : PS X st (tS Γ W (dPutK fo fk fv)) := PS.imp h fun D σ H ⟨Θ, as, G, M, ρ, S, q⟩ => by
  refine ⟨Θ, as, G, M, ρ, S, (PostS.bindE q).imp (Le.refl _) (List.prefix_refl _) ?_⟩
  rintro v H1 ⟨dv, M1, as1, G1, S1, e1, p1, rv, q1⟩
  refine ⟨Θ, as1, G1, M1, ρ, S1, (PostS.bindE q1).imp (Le.refl _) (List.prefix_refl _) ?_⟩
  rintro x H2 ⟨d, M2, as2, G2, S2, e2, p2, r, q2⟩
  refine ⟨Θ, as2, G2, M2, ρ, S2, (PostS.bindE q2).imp (Le.refl _) (List.prefix_refl _) ?_⟩
  rintro y H3 ⟨k, M3, as3, G3, S3, e3, p3, rk, q3⟩
  split at q3
  · rename_i p kk hp hk
    obtain ⟨n, kvs⟩ := p
    obtain ⟨a, ws, rfl, ea, em, ha, rk'⟩ := dicAt_rep S3.toSt2 (r.mono e3 p3) hp
    cases keyD_rep rk hk
    split at q3
    · rename_i hz
      refine ⟨a, _, rfl, DPut.k ha (by rw [← rk'.length]; exact szOk_lt hz), ?_⟩
      exact q3 _ _ _ _ (S3.putCel ea em (by simp) ⟨_, upd_same, rk'.put (rv.mono (e2.trans e3) (p2.trans p3))⟩)
    · exact q3.elim
  · exact q3.elim
/-- {'a': .., ..} with written keys -/
def zipK (ks : List Str) (ds : List D) : List (Key × D) := (ks.zip ds).map fun p => (.inr p.1, p.2)
def dDisp (ks : List Str) (fa : FA) : FE := fun ρ M => (fa ρ (M ++ [.dic []])).bind fun ds M2 => match M2[M.length]? with
  | some (.dic []) => if ds.length = ks.length ∧ ks.length ≤ 15 ∧ ks.Nodup then .ok (.cel M.length) (M2.set M.length (.dic (zipK ks ds))) else .bad
  | _ => .bad
/-- the pairs of a display whose keys are written texts -/
structure PDisp (X : Cx) (Γ : Gam) (W : WX) (pos : Pos) (keys : List (Option Expr)) (values : List Expr) (ks : List Str) (fa : FA) (trs : List (TE × TE)) : Prop where
  pps : PPs X pos keys values trs
  run : ∀ σ H Q R, tA Γ W fa σ H Q → (∀ vs H', vs.length = ks.length → Q vs H' → R ((ks.zip vs).map fun p => (V.str p.1, p.2)) H') → tPairs trs σ H R
theorem qd_nil {pos : Pos} : PDisp X Γ W pos [] [] [] aNil [] := ⟨pps_nil, fun σ H Q R ⟨Θ, as, G, M, ρ, S, q⟩ k => k [] H rfl (q _ _ _ _ S (Le.refl _) (List.prefix_refl _) RepL.nil)⟩
theorem qd_cons {pos kp : Pos} {j} {k : Str} {v : Expr} {keys : List (Option Expr)} {values : List Expr} {ks : List Str} {f : FE} {fa : FA} {trs : List (TE × TE)} (hv : PE X v (tE Γ W f)) (hr : PDisp X Γ W pos keys values ks fa trs) :
    PDisp X Γ W pos (some (.Constant (.str k) j kp) :: keys) (v :: values) (k :: ks) (aCons f fa) ((tC (.str k), tE Γ W f) :: trs) := ⟨pps_cons pe_str hv hr.pps, fun σ H Q R ⟨Θ, as, G, M, ρ, S, q⟩ kk => by
  show tE Γ W f σ H _
  refine ⟨Θ, as, G, M, ρ, S, (PostA.bindE q).imp (Le.refl _) (List.prefix_refl _) ?_⟩
  rintro x H1 ⟨d, M1, as1, G1, S1, e1, p1, r, q1⟩
  refine hr.run σ H1 (fun vs H' => Q (x :: vs) H') _ ⟨Θ, as1, G1, M1, ρ, S1, (PostA.bindA q1).imp (Le.refl _) (List.prefix_refl _) ?_⟩ fun vs H' hl hq => ?_
  · rintro xs H2 ⟨ds, M2, as2, G2, S2, e2, p2, rs, q2⟩
    exact q2 _ _ _ _ S2 (Le.refl _) (List.prefix_refl _) (RepL.cons (r.mono e2 p2) rs)
  · exact kk (x :: vs) H' (by simp [hl]) hq⟩
theorem merge_nodup : ∀ {ks : List Str} {vs : List V} {acc : List (Key × V)}, ks.Nodup → vs.length = ks.length → (∀ k ∈ ks, valV acc (.inr k : Key) = none) → mergeK acc ((ks.zip vs).map fun p => ((.inr p.1 : Key), p.2)) = acc ++ (ks.zip vs).map fun p => ((.inr p.1 : Key), p.2)
  | [], vs, acc, _, _, _ => by simp [mergeK]
  | k :: ks, [], acc, _, h, _ => by simp at h
  | k :: ks, v :: vs, acc, nd, h, hn => by
    have hk := hn k List.mem_cons_self
    have nd' := List.nodup_cons.mp nd
    show mergeK (putK acc (.inr k) v) _ = _
    rw [putK_new v hk]
    have z := merge_nodup (ks := ks) (vs := vs) (acc := acc ++ [((.inr k : Key), v)]) nd'.2 (by simpa using h) fun k' hk' => ?_
    · show mergeK (acc ++ [((.inr k : Key), v)]) ((ks.zip vs).map fun p => ((.inr p.1 : Key), p.2)) = _
      rw [z]
      simp
    · have h1 := hn k' (List.mem_cons_of_mem _ hk')
      unfold valV at h1 ⊢
      rw [List.find?_append]
      cases q : List.find? (fun kv => decide (kv.1 = (.inr k' : Key))) acc with
      | some w => rw [q] at h1; cases h1
      | none =>
        have ne : k ≠ k' := fun e => nd'.1 (e ▸ hk')
        have ne' : ¬ (Sum.inr k : Key) = .inr k' := fun e => ne (Sum.inr.inj e)
        simp [List.find?_cons, ne']
theorem zipK_rep {as : List Addr} {G : Hp} : ∀ {ks : List Str} {ds : List D} {vs : List V}, RepL Γ as G ds vs → RepKV Γ as G (zipK ks ds) ((ks.zip vs).map fun p => ((.inr p.1 : Key), p.2))
  | [], ds, vs, r => by simp [zipK]; rfl
  | k :: ks, [], vs, r => by cases r; simp [zipK]; rfl
  | k :: ks, d :: ds, vs, r => by
    obtain ⟨v, ws, rfl, r1, r2⟩ := r
    exact ⟨v, _, rfl, r1, zipK_rep r2⟩
theorem q_disp {pos : Pos} {keys : List (Option Expr)} {values : List Expr} {ks : List Str} {fa : FA} {trs : List (TE × TE)} (h : PDisp X Γ W pos keys values ks fa trs) (hall : keys.all (·.isSome) = true) (hl : keys.length = values.length) (h0 : keys ≠ []) (h15 : keys.length ≤ 15) :
    PE X (.Dict keys values pos) (tE Γ W (dDisp ks fa)) := PE.imp (pe_disp h.pps hall hl h0 h15) fun σ H Q ⟨Θ, as, G, M, ρ, S, q⟩ => by
  intro p hp
  have C1 := S.toSt2.newCel (as' := []) (o := .dK []) (m := .dic []) hp ⟨[], upd_same, rfl⟩
  have S1 := S.after C1
  have eL : as.length = M.length := S.len
  refine h.run σ _ (fun vs H' => H' p = some (.dK []) ∧ ∃ kvs : List (Key × V), kvs = (ks.zip vs).map (fun p => ((.inr p.1 : Key), p.2)) ∧ kvs.length ≤ 15 ∧ Q (.ref p) (upd H' p (.dK (mergeK [] kvs)))) _ ?_ fun vs H' hv hq => ?_
  · refine ⟨Θ, _, G, _, ρ, S1, ?_⟩
    unfold dDisp at q
    cases ef : fa ρ (M ++ [.dic []]) with
    | bad => rw [ef] at q; exact q.elim
    | ex c xs M2 => rw [ef] at q; exact fun as' G' H' d s e pa x => q as' G' H' d s e ((List.prefix_append _ _).trans pa) x
    | ok ds M2 =>
      rw [ef] at q
      simp only [R.bind_ok] at q
      intro as2 G2 H2 vs S2 e2 p2 r2
      split at q
      · rename_i em
        split at q
        · rename_i hc
          have ea : as2[M.length]? = some p := pre_get p2 (by rw [← eL]; simp)
          obtain ⟨_, _, ws, hw, rw'⟩ := S2.cel _ _ _ ea em (by simp)
          cases rw'
          refine ⟨hw, _, rfl, ?_, ?_⟩
          · rw [List.length_map, List.length_zip, ← r2.length, hc.1, Nat.min_self]; exact hc.2.1
          · rw [merge_nodup hc.2.2 (by rw [← r2.length]; exact hc.1) (fun _ _ => rfl), List.nil_append]
            exact q _ _ _ _ (S2.putCel ea em (by simp) ⟨_, upd_same, zipK_rep r2⟩) e2 ((List.prefix_append _ _).trans p2) ⟨p, ea, rfl⟩
        · exact q.elim
      · exact q.elim
  · obtain ⟨h1, kvs, h2, h3, h4⟩ := hq
    refine ⟨h1, kvs, ?_, h3, h4⟩
    rw [h2, List.map_map]
    rfl
end
end DL
set_option maxRecDepth 100000
namespace DL
open PySem PySem.Spec PyProof.Rows L2
def W0 : WX := fun _ _ _ _ => False
/-- the slots as a comprehension's block sees them -/
def wipeD (ρ : List Sl) : List Nat → List Sl
  | [] => ρ
  | v :: vs => (wipeD ρ vs).set v .mt
def hideS : Sl → Sl
  | .d x => .d x
  | _ => .mt
def hide (vs : List Nat) (ρ : List Sl) : List Sl := (wipeD ρ vs).map hideS
theorem wipeD_length (ρ : List Sl) : ∀ vs, (wipeD ρ vs).length = ρ.length
  | [] => rfl
  | v :: vs => by unfold wipeD; rw [List.length_set, wipeD_length ρ vs]
theorem wipeD_get {ρ : List Sl} {i : Nat} {x : D} : ∀ {vs : List Nat}, (wipeD ρ vs)[i]? = some (.d x) → ρ[i]? = some (.d x) ∧ i ∉ vs
  | [], h => ⟨h, by simp⟩
  | v :: vs, h => by
    unfold wipeD at h
    by_cases hi : v = i
    · subst hi
      by_cases hv : v < (wipeD ρ vs).length
      · rw [List.getElem?_set_self hv] at h; cases h
      · rw [List.getElem?_eq_none (by simpa using hv)] at h; cases h
    · rw [List.getElem?_set_ne hi] at h
      obtain ⟨h1, h2⟩ := wipeD_get h
      exact ⟨h1, by simp only [List.mem_cons, not_or]; exact ⟨fun e => hi e.symm, h2⟩⟩
theorem hide_get {ρ : List Sl} {vs : List Nat} {i : Nat} {s : Sl} (h : (hide vs ρ)[i]? = some s) : s = .mt ∨ ∃ x, s = .d x ∧ ρ[i]? = some (.d x) ∧ i ∉ vs := by
  unfold hide at h
  rw [List.getElem?_map] at h
  cases q : (wipeD ρ vs)[i]? with
  | none => rw [q] at h; cases h
  | some z =>
    rw [q] at h
    cases z with
    | d x => cases h; obtain ⟨h1, h2⟩ := wipeD_get q; exact .inr ⟨x, rfl, h1, h2⟩
    | mt => cases h; exact .inl rfl
    | own xs => cases h; exact .inl rfl
    | obj c ns xs => cases h; exact .inl rfl
    | exn c xs => cases h; exact .inl rfl
theorem wipe_at {σ : L2.St} {i : Nat} : ∀ {vs : List Nat}, i ∉ vs → (wipe σ vs)[i]? = σ[i]?
  | [], _ => rfl
  | v :: vs, h => by
    have h1 : v ≠ i := fun e => h (by rw [e]; exact List.mem_cons_self)
    unfold wipe
    rw [List.getElem?_set_ne h1]
    exact wipe_at fun m => h (List.mem_cons_of_mem _ m)
theorem wipe_in {σ : L2.St} {i : Nat} : ∀ {vs : List Nat}, i ∈ vs → i < σ.length → (wipe σ vs)[i]? = some none
  | v :: vs, h, hl => by
    unfold wipe
    by_cases e : v = i
    · subst e
      rw [List.getElem?_set_self (by rw [wipe_length]; exact hl)]
    · rw [List.getElem?_set_ne e]
      rcases List.mem_cons.mp h with q | q
      · exact absurd q.symm e
      · exact wipe_in q hl
/-- two rows of slots that differ at vs alone -/
def Agree (vs : List Nat) (σ σ' : L2.St) : Prop := σ'.length = σ.length ∧ ∀ i, i ∉ vs → σ'[i]? = σ[i]?
theorem Agree.wipe {vs : List Nat} {σ σ' : L2.St} (h : Agree vs (wipe σ vs) σ') : L2.wipe σ' vs = L2.wipe σ vs := by
  refine List.ext_getElem? fun i => ?_
  have hl : σ'.length = σ.length := by rw [h.1, wipe_length]
  by_cases hi : i ∈ vs
  · by_cases hz : i < σ.length
    · rw [wipe_in hi (by rw [hl]; exact hz), wipe_in hi hz]
    · rw [List.getElem?_eq_none (by rw [wipe_length, hl]; exact Nat.le_of_not_lt hz), List.getElem?_eq_none (by rw [wipe_length]; exact Nat.le_of_not_lt hz)]
  · rw [wipe_at hi, h.2 i hi]
section
variable {X : Cx} {Γ : Gam} {W : WX}
theorem Sta.hide {Θ : Ent} {as : List Addr} {G H : Hp} {M : List MO} {ρ : List Sl} {σ : L2.St} (S : Sta Γ Θ as G M ρ σ H) (vs : List Nat) : Sta Γ (now H as G) as G M (DL.hide vs ρ) (wipe σ vs) H := by
  have no : ∀ i a, ¬ Owns (DL.hide vs ρ) (wipe σ vs) i a := fun i a ⟨h, _⟩ => by
    rcases h with ⟨xs, h⟩ | ⟨c, ns, xs, h⟩ <;> rcases hide_get h with e | ⟨x, e, _⟩ <;> cases e
  refine ⟨S.toSt2.now, by rw [wipe_length, DL.hide, List.length_map, wipeD_length]; exact S.slen, fun i s ov h1 h2 => ?_, fun i a o => absurd o (no i a), fun i j a o => absurd o (no i a), fun i c ns xs a h1 h2 => absurd ⟨.inr ⟨c, ns, xs, h1⟩, h2⟩ (no i a)⟩
  rcases hide_get h1 with e | ⟨x, e, h3, h4⟩
  · subst e; trivial
  · subst e
    rw [wipe_at h4] at h2
    exact S.env i _ _ h3 h2
theorem Sta.putJunk {Θ : Ent} {as : List Addr} {G H : Hp} {M : List MO} {ρ : List Sl} {σ : L2.St} (S : Sta Γ Θ as G M ρ σ H) {p : Addr} {u o : HO} (hp : H p = some u) (g : G p = none) (na : p ∉ as) (th : Θ.H p = none) (no : ∀ i, ¬ Owns ρ σ i p) : Sta Γ Θ as G M ρ σ (upd H p o) := by
  have gne : ∀ b w, G b = some w → b ≠ p := fun b w h e => by rw [e, g] at h; cases h
  have ane : ∀ b, b ∈ as → b ≠ p := fun b h e => na (e ▸ h)
  have tne : ∀ b w, Θ.H b = some w → b ≠ p := fun b w h e => by rw [e, th] at h; cases h
  refine ⟨⟨fun b w h => by rw [upd_ne (gne b w h)]; exact S.sub b w h, S.grow, S.ext, S.esub, fun b w h nm => by rw [upd_ne (tne b w h)]; exact S.fr b w h nm, fun b w h => ?_, S.gfr, S.len, S.nd, fun k b mm h1 h2 h3 => ?_, S.cfr, fun b h => ?_⟩, S.slen, fun i s ov h1 h2 => ?_, S.own, S.odj, S.slf⟩
  · obtain ⟨w', e⟩ := S.pres b w h
    exact ⟨w', by rw [upd_ne (tne b w h)]; exact e⟩
  · obtain ⟨c1, ⟨w, c2⟩, c3⟩ := S.cel k b mm h1 h2 h3
    have e : b ≠ p := ane b (List.mem_of_getElem? h1)
    exact ⟨c1, ⟨w, by rw [upd_ne e]; exact c2⟩, c3.mono (Le.refl _) (List.prefix_refl _) (upd_ne e)⟩
  · obtain ⟨w, e⟩ := S.ain b h
    exact ⟨w, by rw [upd_ne (ane b h)]; exact e⟩
  · refine RepS.mono (Le.refl _) (List.prefix_refl _) (fun b hs e => ?_) (S.env i s ov h1 h2)
    subst e
    refine upd_ne (show b ≠ p from fun z => no i (z ▸ ⟨?_, h2⟩))
    rcases hs with ⟨xs, e⟩ | ⟨c, ns, xs, e⟩
    · exact .inl ⟨xs, e ▸ h1⟩
    · exact .inr ⟨c, ns, xs, e ▸ h1⟩
/-- a target within a block -/
def tGv (Γ : Gam) (vs : List Nat) (f : TGt) : TG := fun v σ H Q => ∃ Θ as G M ρ d ρ', Sta Γ Θ as G M ρ σ H ∧ Rep Γ as G d v ∧ f d ρ M = some (ρ', M) ∧ ∀ σ', Sta Γ Θ as G M ρ' σ' H → Agree vs σ σ' → Q σ' H
def tGvs (Γ : Gam) (vs : List Nat) (f : TGts) : TGs := fun xs σ H Q => ∃ Θ as G M ρ ds ρ', Sta Γ Θ as G M ρ σ H ∧ RepL Γ as G ds xs ∧ f ds ρ M = some (ρ', M) ∧ ∀ σ', Sta Γ Θ as G M ρ' σ' H → Agree vs σ σ' → Q σ' H
theorem Agree.refl (vs : List Nat) (σ : L2.St) : Agree vs σ σ := ⟨rfl, fun _ _ => rfl⟩
theorem Agree.trans {vs : List Nat} {σ σ' σ2 : L2.St} (h : Agree vs σ σ') (k : Agree vs σ' σ2) : Agree vs σ σ2 := ⟨k.1.trans h.1, fun i hi => (k.2 i hi).trans (h.2 i hi)⟩
theorem Agree.set {vs : List Nat} {σ : L2.St} {i : Nat} {o : Option V} (h : i ∈ vs) : Agree vs σ (List.set σ i o) := ⟨List.length_set .., fun j hj => List.getElem?_set_ne (show i ≠ j from fun e => hj (e ▸ h))⟩
theorem qv_name {i : Nat} {vs : List Nat} {e : Expr} (hi : i ∈ vs) (h : PG X e (gName i)) : PG X e (tGv Γ vs (gN i)) := PG.imp h fun v σ H Q ⟨Θ, as, G, M, ρ, d, ρ', S, r, e, q⟩ => by
  cases e
  exact q _ (S.set i r) (Agree.set hi)
theorem qvs_nil {vs : List Nat} : PGs X [] (tGvs Γ vs gsNil) := PGs.imp pgs_nil fun v σ H Q ⟨Θ, as, G, M, ρ, ds, ρ', S, r, e, q⟩ => by
  unfold gsNil at e
  cases ds with
  | nil => cases e; cases r; exact ⟨rfl, q _ S (Agree.refl _ _)⟩
  | cons _ _ => cases e
/-- only names within (what is stored leaves the cells alone) -/
def Pure1 (f : TGt) : Prop := ∀ d ρ M p, f d ρ M = some p → p.2 = M
theorem pure_gN (i : Nat) : Pure1 (gN i) := fun d ρ M p e => by cases e; rfl
theorem qvs_cons {vs : List Nat} {e : Expr} {es : List Expr} {f : TGt} {g : TGts} (hp : Pure1 f) (h1 : PG X e (tGv Γ vs f)) (h2 : PGs X es (tGvs Γ vs g))
    (hs : (assignEach (e :: es) X.env).map (·.2) = assign e X.env :: (assignEach es X.env).map (·.2) := by rfl) : PGs X (e :: es) (tGvs Γ vs (gsCons f g)) := PGs.imp (pgs_cons h1 h2 hs) fun xs σ H Q ⟨Θ, as, G, M, ρ, ds, ρ', S, r, e, q⟩ => by
  cases ds with
  | nil => cases e
  | cons d ds =>
    obtain ⟨v, ws, rfl, r1, r2⟩ := r
    unfold gsCons at e
    dsimp only at e
    cases e1 : f d ρ M with
    | none => rw [e1] at e; cases e
    | some p =>
      rw [e1] at e
      obtain ⟨p1, p2⟩ := p
      have hM : M = p2 := (hp d ρ M _ e1).symm
      subst hM
      exact ⟨v, ws, rfl, Θ, as, G, M, ρ, d, p1, S, r1, e1, fun σ' S' a' => ⟨Θ, as, G, M, p1, ds, ρ', S', r2, e, fun σ2 S2 a2 => q σ2 S2 (a'.trans a2)⟩⟩
theorem qv_tup {vs : List Nat} {es : List Expr} {k : Nat} {pos : Pos} {g : TGts} {n : Nat} (hK : Γ.K = X.K) (hc : X.calm = true) (h : PGs X es (tGvs Γ vs g))
    (hn : (assignEach es X.env).length = n := by rfl) (hst : (assignEach es X.env).findIdx? (·.1) = none := by rfl) : PG X (.Tuple es k pos) (tGv Γ vs (gTupT n g)) := PG.imp (pg_tup hc h hn hst) fun v σ H Q ⟨Θ, as, G, M, ρ, d, ρ', S, r, e, q⟩ => by
  unfold gTupT at e
  split at e
  · split at e
    · rename_i hl
      obtain ⟨a, ws, ev, st, rl⟩ := r
      rw [hK] at st
      exact ⟨a, ws, ev, S.sub.st st, rl.length.symm.trans hl, Θ, as, G, M, ρ, _, ρ', S, rl, e, q⟩
    · cases e
  · cases e
def R.noex {α : Type} : R α → R α
  | .ex _ _ _ => .bad
  | r => r
@[simp] theorem R.noex_ok {α : Type} (a : α) (M : List MO) : R.noex (.ok a M) = .ok a M := rfl
@[simp] theorem R.noex_bad {α : Type} : R.noex (.bad : R α) = .bad := rfl
@[simp] theorem R.noex_ex {α : Type} (c : Nat) (xs : List D) (M : List MO) : R.noex (.ex c xs M : R α) = .bad := rfl
def dYes : FT := fun _ M => .ok true M
def compL (vs : List Nat) (t : TGt) (ft : FT) (fe : FE) : List D → List Sl → List MO → R (List D)
  | [], _, M => .ok [] M
  | d :: ds, ρ, M => match t d (hide vs ρ) M with
    | none => .bad
    | some p => (ft p.1 M).noex.bind fun b M => if b = true then (fe p.1 M).noex.bind fun x M => (compL vs t ft fe ds ρ M).bind fun xs M => .ok (x :: xs) M else compL vs t ft fe ds ρ M
def dComp (fi : FA) (vs : List Nat) (t : TGt) (ft : FT) (fe : FE) : FO := fun ρ M => (fi ρ M).bind fun ds M => if szOk ds.length then compL vs t ft fe ds ρ M else .bad
theorem R.bind_assoc {α β γ : Type} (r : R α) (k : α → List MO → R β) (l : β → List MO → R γ) : (r.bind k).bind l = r.bind fun a M => (k a M).bind l := by cases r <;> rfl
theorem qts_nil : PTs X [] (tT Γ W dYes) := ⟨fun pins s σ H Q I ⟨Θ, as, G, M, ρ, S, q⟩ => pts_nil.run pins s σ H Q I (q _ _ _ S (Le.refl _) (List.prefix_refl _))⟩
/-- the comprehension's reading -/
theorem run_lc {fi : FA} {vs : List Nat} {t : TGt} {ft : FT} {fe : FE} {g : TG} (htp : Pure1 t) {σ : L2.St} {H : Hp} {Q : VK} (h : tO Γ W (dComp fi vs t ft fe) σ H Q) (hg : g = tGv Γ vs t) : tLc (tI Γ W fi) g (tT Γ W0 ft) (tE Γ W0 fe) vs σ H Q := by
  subst hg
  obtain ⟨Θ, as, G, M, ρ, S, q⟩ := h
  refine ⟨Θ, as, G, M, ρ, S, ?_⟩
  unfold dComp at q
  cases e : fi ρ M with
  | bad => rw [e] at q; exact q.elim
  | ex c xs M1 => rw [e] at q; exact fun as' G' H' d s l p x => q as' G' H' d s l p x
  | ok ds M1 =>
    rw [e] at q
    intro as1 G1 H1 J S1 e1 p1 sim D hD
    have q : PostO Γ Θ W ρ σ as G Q (if szOk ds.length = true then compL vs t ft fe ds ρ M1 else .bad) := q
    split at q
    · rename_i hz
      have St : Sta Γ Θ as1 G1 M1 ρ σ (upd H1 D (.lst [])) := S1.after (S1.toSt2.lay0 hD)
      have na : D ∉ as1 := fun z => by
        obtain ⟨u, h⟩ := S1.ain D z
        rw [hD] at h; cases h
      have no : ∀ i, ¬ Owns ρ σ i D := fun i o => by
        obtain ⟨u, h⟩ := Owns.inH S1 o
        rw [hD] at h; cases h
      refine ⟨fun i m H => m = ds.length - i ∧ i ≤ ds.length ∧ ∃ as2 G2 M2 xs ws, Sta Γ Θ as2 G2 M2 ρ σ H ∧ Le G1 G2 ∧ as1 <+: as2 ∧ H D = some (.lst ws) ∧ RepL Γ as2 G2 xs ws ∧ xs.length ≤ i ∧ G2 D = none ∧ D ∉ as2 ∧ PostO Γ Θ W ρ σ as1 G1 Q ((compL vs t ft fe (ds.drop i) ρ M2).bind fun ys M => .ok (xs ++ ys) M), ⟨_, rfl, Nat.zero_le _, as1, G1, M1, [], [], St, Le.refl _, List.prefix_refl _, upd_same, RepL.nil, Nat.le_refl _, S1.sub.free hD, na, ?_⟩, ?_⟩
      · have e0 : (compL vs t ft fe (ds.drop 0) ρ M1).bind (fun ys M => R.ok ([] ++ ys) M) = compL vs t ft fe ds ρ M1 := by
          rw [List.drop_zero]
          cases compL vs t ft fe ds ρ M1 <;> rfl
        rw [e0]
        cases ec : compL vs t ft fe ds ρ M1 with
        | ok d M2 => rw [ec] at q; exact fun as' G' H' p vs s l pa => q as' G' H' p vs s (e1.trans l) (p1.trans pa)
        | ex c xs M2 => rw [ec] at q; exact fun as' G' H' d s l pa x => q as' G' H' d s (e1.trans l) (p1.trans pa) x
        | bad => rw [ec] at q; exact q
      · rintro i m H2 ⟨rfl, hle, as2, G2, M2, xs, ws, S2, e2, p2, hd, rl, hxl, g2, na2, q2⟩
        have le : Le G1 H2 := e2.trans S2.sub
        by_cases hi : i < ds.length
        · right
          rw [List.drop_eq_getElem_cons hi, compL] at q2
          refine ⟨sim.go i H2 le hi, fun H' => i + 1 ≤ ds.length ∧ ∃ as2 G2 M2 xs ws, Sta Γ Θ as2 G2 M2 ρ σ H' ∧ Le G1 G2 ∧ as1 <+: as2 ∧ H' D = some (.lst ws) ∧ RepL Γ as2 G2 xs ws ∧ xs.length ≤ i + 1 ∧ G2 D = none ∧ D ∉ as2 ∧ PostO Γ Θ W ρ σ as1 G1 Q ((compL vs t ft fe (ds.drop (i + 1)) ρ M2).bind fun ys M => .ok (xs ++ ys) M), fun H' z => ⟨ds.length - (i + 1), by omega, rfl, z⟩, ?_⟩
          intro x H' hy
          have hdi : ds[i]? = some ds[i] := List.getElem?_eq_getElem hi
          have step : ∃ G3, Sta Γ Θ as2 G3 M2 ρ σ H' ∧ Le G2 G3 ∧ Rep Γ as2 G3 ds[i] x ∧ H' D = some (.lst ws) ∧ G3 D = none := by
            rcases sim.yld i H2 x H' _ le hdi hy with ⟨rfl, r⟩ | ⟨p, us, ds', rfl, hn, rfl, hd', r⟩
            · exact ⟨G2, S2, Le.refl _, r.mono e2 p2, hd, g2⟩
            · have gp := S2.sub.free hn
              have ne : D ≠ p := ne_of_none hd hn
              refine ⟨upd G2 p (.tup us), S2.lay hn, Le.new gp, ?_, by rw [upd_ne ne]; exact hd, by rw [upd_ne ne]; exact g2⟩
              rw [hd']
              exact ⟨p, us, rfl, .inl (.inl upd_same), r.mono (e2.trans (Le.new gp)) p2⟩
          obtain ⟨G3, S3, e3, r3, hd3, g3⟩ := step
          cases et : t ds[i] (hide vs ρ) M2 with
          | none => rw [et] at q2; exact q2.elim
          | some p =>
            obtain ⟨ρ4, M4⟩ := p
            have hM : M2 = M4 := (htp _ _ _ _ et).symm
            subst hM
            rw [et] at q2
            dsimp only at q2
            refine ⟨now H' as2 G3, as2, G3, M2, hide vs ρ, ds[i], ρ4, S3.hide vs, r3, et, fun σ4 S4 ag => ⟨ag.wipe, now H' as2 G3, as2, G3, M2, ρ4, S4, ?_⟩⟩
            cases eft : ft ρ4 M2 with
            | bad => rw [eft] at q2; exact q2.elim
            | ex c ys M5 => rw [eft] at q2; exact q2.elim
            | ok b M5 =>
              rw [eft] at q2
              intro as5 G5 H5 S5 e5 p5
              have C5 : Sta Γ Θ as5 G5 M5 ρ σ H5 := S3.after S5.toSt2
              have hd5 : H5 D = some (.lst ws) := S5.fr D _ hd3 na2
              have keep : ∀ {as6 : List Addr} {G6 H6 : Hp} {M6 : List MO}, St2 Γ (now H' as2 G3) as6 G6 M6 H6 → G6 D = none ∧ D ∉ as6 := fun {as6 G6 H6 M6} C => by
                refine ⟨?_, fun z => ?_⟩
                · cases z : G6 D with
                  | none => rfl
                  | some u =>
                    rcases C.gfr D u z with w | w | w
                    · exact absurd (g3.symm.trans w) (by simp)
                    · exact absurd (hd3.symm.trans w) (by simp)
                    · exact absurd w na2
                · rcases C.cfr D z with w | w
                  · exact na2 w
                  · exact absurd (hd3.symm.trans w) (by simp)
              have q3 : PostO Γ Θ W ρ σ as1 G1 Q ((if b = true then (fe ρ4 M5).noex.bind fun x M => (compL vs t ft fe (ds.drop (i + 1)) ρ M).bind fun xs M => .ok (x :: xs) M else compL vs t ft fe (ds.drop (i + 1)) ρ M5).bind fun ys M => .ok (xs ++ ys) M) := q2
              cases b with
              | false =>
                rw [if_neg (by decide)] at q3 ⊢
                exact ⟨hi, as5, G5, M5, xs, ws, C5, (e2.trans e3).trans e5, p2.trans p5, hd5, rl.mono (e3.trans e5) p5, by omega, (keep S5.toSt2).1, (keep S5.toSt2).2, q3⟩
              | true =>
                rw [if_pos rfl] at q3 ⊢
                refine ⟨now H' as2 G3, as5, G5, M5, ρ4, S5, ?_⟩
                cases efe : fe ρ4 M5 with
                | bad => rw [efe] at q3; exact q3.elim
                | ex c ys M6 => rw [efe] at q3; exact q3.elim
                | ok y M6 =>
                  rw [efe] at q3
                  intro as6 G6 H6 v S6 e6 p6 rv
                  have C6 : Sta Γ Θ as6 G6 M6 ρ σ H6 := S3.after S6.toSt2
                  have hd6 : H6 D = some (.lst ws) := S6.fr D _ hd3 na2
                  have rl6 := rl.mono ((e3.trans e5).trans e6) (p5.trans p6)
                  have k6 := keep S6.toSt2
                  refine ⟨ws, hd6, ?_, hi, as6, G6, M6, xs ++ [y], ws ++ [v], ?_, ((e2.trans e3).trans e5).trans e6, (p2.trans p5).trans p6, upd_same, rl6.append (RepL.cons rv RepL.nil), by simp; omega, k6.1, k6.2, ?_⟩
                  · have z := szOk_le hz
                    rw [← rl.length]
                    omega
                  · exact C6.putJunk hd6 k6.1 k6.2 (S1.toSt2.old hD) no
                  · have e9 : ((R.noex (.ok y M6)).bind fun x M => (compL vs t ft fe (ds.drop (i + 1)) ρ M).bind fun xs M => R.ok (x :: xs) M).bind (fun ys M => R.ok (xs ++ ys) M) = (compL vs t ft fe (ds.drop (i + 1)) ρ M6).bind fun ys M => .ok (xs ++ [y] ++ ys) M := by
                      show ((compL vs t ft fe (ds.drop (i + 1)) ρ M6).bind fun xs M => R.ok (y :: xs) M).bind _ = _
                      generalize compL vs t ft fe (ds.drop (i + 1)) ρ M6 = cc
                      cases cc <;> simp [R.bind]
                    rw [← e9]
                    exact q3
        · left
          have hie : i = ds.length := by omega
          refine ⟨sim.stop i H2 le (Nat.le_of_not_lt hi), ?_⟩
          rw [List.drop_eq_nil_of_le (Nat.le_of_not_lt hi), compL] at q2
          have q3 : PostO Γ Θ W ρ σ as1 G1 Q (.ok (xs ++ []) M2) := q2
          rw [List.append_nil] at q3
          exact q3 as2 G2 H2 D ws S2 e2 p2 rl hd g2 na2 (S1.toSt2.old hD) no
    · exact q.elim
theorem qo_comp {elt tg iter : Expr} {ifs : List Expr} {scope : Scope} {own : List (Str × Nat)} {pos : Pos} {fi : FA} {t : TGt} {ft : FT} {fe : FE} (htp : Pure1 t) (hc : X.calm = true) (hN : X.N.Nodup) (hi : PI X tg iter (tI Γ W fi)) (ok : BlkOk X.N X.env.scope scope own)
    (hg : ∀ (s : Shared) (H : Hp) (C : Addr) (cl : List (Str × Addr)) (fp : List Addr), PG (X.blk s H scope (compEnvC scope cl C X.env) fp) tg (tGv Γ (own.map (·.2)) t))
    (ht : ∀ (s : Shared) (H : Hp) (C : Addr) (cl : List (Str × Addr)) (fp : List Addr), PTs (X.blk s H scope (compEnvC scope cl C X.env) fp) ifs (tT Γ W0 ft))
    (he : ∀ (s : Shared) (H : Hp) (C : Addr) (cl : List (Str × Addr)) (fp : List Addr), PE (X.blk s H scope (compEnvC scope cl C X.env) fp) elt (tE Γ W0 fe)) (hs : ∀ x, foldedSetIterable iter X.env x = pure x := by intro _; rfl) :
    PE X (.ListComp elt [⟨tg, iter, ifs, 0⟩] scope pos) (tO Γ W (dComp fi (own.map (·.2)) t ft fe)) := PE.imp (pe_lc hc hN hi ok hg ht he hs) fun _ _ _ h => run_lc htp h rfl
theorem q_setLc {i : Nat} {y : Str} {py : Pos} {elt tg iter : Expr} {ifs : List Expr} {scope : Scope} {own : List (Str × Nat)} {pos spos : Pos} {fi : FA} {t : TGt} {ft : FT} {fe : FE} (htp : Pure1 t) (hc : X.calm = true) (hN : X.N.Nodup) (hy : X.N[i]? = some y) (hyl : X.env.scope.names.lookup y = some .local)
    (hsw : swapsWith (.ListComp elt [⟨tg, iter, ifs, 0⟩] scope pos) (some (.Name y py)) spos.line X.env = pure true) (hi : PI X tg iter (tI Γ W fi)) (ok : BlkOk X.N X.env.scope scope own)
    (hg : ∀ (s : Shared) (H : Hp) (C : Addr) (cl : List (Str × Addr)) (fp : List Addr), PG (X.blk s H scope (compEnvC scope cl C X.env) fp) tg (tGv Γ (own.map (·.2)) t))
    (ht : ∀ (s : Shared) (H : Hp) (C : Addr) (cl : List (Str × Addr)) (fp : List Addr), PTs (X.blk s H scope (compEnvC scope cl C X.env) fp) ifs (tT Γ W0 ft))
    (he : ∀ (s : Shared) (H : Hp) (C : Addr) (cl : List (Str × Addr)) (fp : List Addr), PE (X.blk s H scope (compEnvC scope cl C X.env) fp) elt (tE Γ W0 fe)) (hs : ∀ x, foldedSetIterable iter X.env x = pure x := by intro _; rfl) :
    PS X (.Assign [.Name y py] (.ListComp elt [⟨tg, iter, ifs, 0⟩] scope pos) spos) (tAsg (tO Γ W (dComp fi (own.map (·.2)) t ft fe)) (gName i)) := PS.imp (ps_setLc hc hN hy hyl hsw hi ok hg ht he hs) fun D σ H h => run_lc (Q := fun x H1 => gName i x σ H1 D.nx) htp h rfl
end
end DL
set_option maxRecDepth 100000
namespace DL
open PySem PySem.Spec PyProof.Rows L2
inductive Ty where
  | non | bool | int | str | tup | lst | dic | cls (c : Nat)
inductive Cl where
  | own (c : Nat) | bool | int | str | tuple | list
def tagOf (M : List MO) : D → Option Ty
  | .non => some .non
  | .bl _ => some .bool
  | .int _ => some .int
  | .str _ => some .str
  | .tup _ => some .tup
  | .lst _ => some .lst
  | .rol _ => some .lst
  | .ins c _ => some (.cls c)
  | .cel n => match M[n]? with
    | some (.lst _) => some .lst
    | some (.dic _) => some .dic
    | some (.obj c _ _) => some (.cls c)
    | _ => none
def isA : Ty → Cl → Bool
  | .cls c, .own c' => c == c'
  | .bool, .bool => true
  | .bool, .int => true
  | .int, .int => true
  | .str, .str => true
  | .tup, .tuple => true
  | .lst, .list => true
  | _, _ => false
def tyVal (Γ : Gam) : Ty → Value
  | .non => .type "NoneType"
  | .bool => .type "bool"
  | .int => .type "int"
  | .str => .type "str"
  | .tup => .type "tuple"
  | .lst => .type "list"
  | .dic => .type "dict"
  | .cls c => .ref (Γ.cA c)
def clVal (Γ : Gam) : Cl → Value
  | .own c => .ref (Γ.cA c)
  | .bool => .type "bool"
  | .int => .type "int"
  | .str => .type "str"
  | .tuple => .type "tuple"
  | .list => .type "list"
def clV (Γ : Gam) : Cl → V
  | .own c => .ref (Γ.cA c)
  | .bool => .ty "bool"
  | .int => .ty "int"
  | .str => .ty "str"
  | .tuple => .ty "tuple"
  | .list => .ty "list"
theorem clsV (Γ : Gam) (c : Cl) : ClsV (clV Γ c) (clVal Γ c) := by cases c <;> first | exact .ty _ | exact .own _
def okTy (cs : List Nat) : Ty → Bool
  | .cls c => cs.contains c
  | _ => true
def okCl (cs : List Nat) : Cl → Bool
  | .own c => cs.contains c
  | _ => true
/-- the own classes: apart from one another and from the built-in ones -/
structure IsOk (Γ : Gam) (K : PySem.W.Frag) (cs : List Nat) : Prop where
  cl : ∀ c, cs.contains c = true → Cls K (Γ.cA c)
  ic : ∀ c, cs.contains c = true → PySem.W.findIn K (.ref (Γ.cA c)) "__class__" = some (some (.builtin "object.__class__"))
  ob : ∀ c, cs.contains c = true → PySem.W.mroIn K (Γ.cA c) (.type "object") = some true
  g1 : PySem.W.specialIn K (.builtin "object.__class__") "__get__" = some (some (.builtin "getset_descriptor.__get__"))
  g2 : PySem.W.takesIn K (.builtin "object.__class__") = some true
  one : ∀ τ cl, okTy cs τ = true → okCl cs cl = true → PySem.W.kitOne K (tyVal Γ τ) (clVal Γ cl) = some (isA τ cl)
theorem kit_any {Γ : Gam} {K : PySem.W.Frag} {cs : List Nat} (I : IsOk Γ K cs) {τ : Ty} (h : okTy cs τ = true) : ∀ {cls : List Cl}, cls.all (okCl cs) = true → PySem.W.kitAny K (tyVal Γ τ) (cls.map (clVal Γ)) = some (cls.any (isA τ))
  | [], _ => rfl
  | c :: cls, hc => by
    rw [List.all_cons, Bool.and_eq_true] at hc
    refine kitAny_cons (I.one τ c h hc.1) (fun e => ?_) fun e => ?_
    · rw [List.any_cons, e, Bool.false_or]; exact kit_any I h hc.2
    · rw [List.any_cons, e, Bool.true_or]
def dIs (cs : List Nat) (cls : List Cl) (f : FE) : FE := fun ρ M => (f ρ M).bind fun d M => match tagOf M d with
  | some τ => if okTy cs τ && cls.all (okCl cs) then .ok (.bl (cls.any (isA τ))) M else .bad
  | none => .bad
section
variable {X : Cx} {Γ : Gam} {W : WX}
theorem tag_rep {cs : List Nat} (I : IsOk Γ X.K cs) {Θ : Ent} {as : List Addr} {G H : Hp} {M : List MO} {d : D} {v : V} {τ : Ty} (hK : Γ.K = X.K) (S : St2 Γ Θ as G M H) (r : Rep Γ as G d v) (h : tagOf M d = some τ) (ok : okTy cs τ = true) : TyX X.K H v (tyVal Γ τ) := by
  cases d with
  | non => cases h; cases r; exact .base .non
  | bl b => cases h; cases r; exact .base (.bl b)
  | int i => cases h; cases r; exact .base (.int i)
  | str s => cases h; cases r; exact .base (.str s)
  | tup xs =>
    cases h
    obtain ⟨a, vs, rfl, s, _⟩ := r
    rw [hK] at s
    rcases s with (s | ⟨o, s⟩) | ⟨o, its, n, k, hc, _⟩
    · exact .base (.tup (S.sub _ _ s))
    · exact .fTuple (S.sub _ _ s)
    · exact .kTuple k hc
  | lst xs =>
    cases h
    obtain ⟨a, vs, rfl, s, _⟩ := r
    exact .base (.lst (S.sub _ _ s))
  | rol xs =>
    cases h
    obtain ⟨a, vs, rfl, s, _⟩ := r
    rw [hK] at s
    rcases s with (s | ⟨o, s⟩) | ⟨o, its, n, k, hc, _⟩
    · exact .base (.lst (S.sub _ _ s))
    · exact .base (.frz (S.sub _ _ s))
    · exact .kList k hc
  | ins c xs =>
    cases h
    obtain ⟨a, dx, vs, rfl, s, _⟩ := r
    exact .base (.ins (S.sub _ _ s) (I.cl c ok) (I.ic c ok) I.g1 I.g2 (I.ob c ok))
  | cel n =>
    obtain ⟨a, ea, rfl⟩ := r
    rw [tagOf] at h
    cases em : M[n]? with
    | none => rw [em] at h; cases h
    | some m =>
      rw [em] at h
      cases m with
      | lst xs =>
        cases h
        obtain ⟨_, _, ws, h1, _⟩ := S.cel n a _ ea em (by simp)
        exact .base (.lst h1)
      | dic kvs =>
        cases h
        obtain ⟨_, _, ws, h1, _⟩ := S.cel n a _ ea em (by simp)
        exact .base (.dK h1)
      | obj c ns xs =>
        cases h
        obtain ⟨_, _, dx, ws, h1, _⟩ := S.cel n a _ ea em (by simp)
        exact .base (.ins h1 (I.cl c ok) (I.ic c ok) I.g1 I.g2 (I.ob c ok))
      | dead => cases h
theorem pe_tyI (x : Str) (n : String) {pos : Pos} (hg : Gl X x) (hm : X.mg x = none) (hv : bootBuiltins x = some (.type n)) (hn : x ≠ "__name__" := by decide) (hd : (x == ("__debug__" : Str)) = false := by decide) : PE X (.Name x pos) (tC (.ty n)) := pe_bltn hg hm hv rfl hn hd
/-- isinstance(x, C) -/
theorem q_is1 {cs : List Nat} {cl : Cl} {p pos : Pos} {e c : Expr} {f : FE} (I : IsOk Γ X.K cs) (hK : Γ.K = X.K) (hg : Gl X "isinstance") (hm : X.mg "isinstance" = none) (he : PE X e (tE Γ W f)) (hc : PE X c (tC (clV Γ cl)))
    (h1 : starEach (e :: [c]) X.env = (false, eval e X.env) :: starEach [c] X.env := by rfl) (h2 : starEach (c :: []) X.env = (false, eval c X.env) :: starEach [] X.env := by rfl) (h3 : (backTo pos (starEach [c] X.env)).any (·.1) = false := by rfl) :
    PE X (.Call (.Name "isinstance" p) [e, c] [] pos) (tE Γ W (dIs cs [cl] f)) := PE.imp (pe_callB call_isi hg hm (by decide +kernel) (pa_cons he (pa_cons hc pa_nil h2) h1) (by decide) (by decide) h1 h3) fun σ H Q ⟨Θ, as, G, M, ρ, S, q⟩ => by
  refine ⟨Θ, as, G, M, ρ, S, (PostE.bindE q).imp (Le.refl _) (List.prefix_refl _) ?_⟩
  rintro v H1 ⟨d, M1, as1, G1, S1, e1, p1, r, q1⟩
  split at q1
  · rename_i τ hτ
    split at q1
    · rename_i hok
      rw [Bool.and_eq_true, List.all_cons, Bool.and_eq_true] at hok
      refine ⟨v, clV Γ cl, tyVal Γ τ, clVal Γ cl, isA τ cl, rfl, clsV Γ cl, tag_rep I hK S1.toSt2 r hτ hok.1, I.one τ cl hok.1 hok.2.1, ?_⟩
      have z : ([cl].any (isA τ)) = isA τ cl := by simp
      rw [z] at q1
      exact got S1 q1 rfl
    · exact q1.elim
  · exact q1.elim
/-- the classes of a written tuple -/
def tCs (vs : List V) : TA := fun _ H Q => Q vs H
theorem pcs_nil : PA X [] (tCs []) := PA.imp pa_nil fun _ _ _ h => h
theorem pcs_cons {e : Expr} {es : List Expr} {v : V} {vs : List V} (he : PE X e (tC v)) (hr : PA X es (tCs vs)) (hs : starEach (e :: es) X.env = (false, eval e X.env) :: starEach es X.env := by rfl) : PA X (e :: es) (tCs (v :: vs)) := PA.imp (pa_cons he hr hs) fun _ _ _ h => h
theorem q_isT {cs : List Nat} {cls : List Cl} {p pos tp : Pos} {k : Nat} {e : Expr} {ces : List Expr} {f : FE} (I : IsOk Γ X.K cs) (hK : Γ.K = X.K) (hg : Gl X "isinstance") (hm : X.mg "isinstance" = none) (he : PE X e (tE Γ W f)) (hc : PA X ces (tCs (cls.map (clV Γ)))) (hz : cls.length ≤ 100 := by decide)
    (h1 : starEach (e :: [.Tuple ces k tp]) X.env = (false, eval e X.env) :: starEach [.Tuple ces k tp] X.env := by rfl) (h2 : starEach (.Tuple ces k tp :: []) X.env = (false, eval (.Tuple ces k tp) X.env) :: starEach [] X.env := by rfl) (h3 : (backTo pos (starEach [.Tuple ces k tp] X.env)).any (·.1) = false := by rfl) :
    PE X (.Call (.Name "isinstance" p) [e, .Tuple ces k tp] [] pos) (tE Γ W (dIs cs cls f)) := PE.imp (pe_callB call_isiT hg hm (by decide +kernel) (pa_cons he (pa_cons (pe_tup hc) pa_nil h2) h1) (by decide) (by decide) h1 h3) fun σ H Q ⟨Θ, as, G, M, ρ, S, q⟩ => by
  refine ⟨Θ, as, G, M, ρ, S, (PostE.bindE q).imp (Le.refl _) (List.prefix_refl _) ?_⟩
  rintro v H1 ⟨d, M1, as1, G1, S1, e1, p1, r, q1⟩
  split at q1
  · rename_i τ hτ
    split at q1
    · rename_i hok
      rw [Bool.and_eq_true] at hok
      refine ⟨Nat.le_trans (by simpa using hz) (by decide), fun t ht => ?_⟩
      have S2 := S1.lay (o := .tup (cls.map (clV Γ))) ht
      have r2 : Rep Γ as1 (upd G1 t (.tup (cls.map (clV Γ)))) d v := r.mono (Le.new (S1.sub.free ht)) (List.prefix_refl as1)
      have pc : Paired ClsV (cls.map (clV Γ)) (cls.map (clVal Γ)) := by
        have gen : ∀ l : List Cl, Paired ClsV (l.map (clV Γ)) (l.map (clVal Γ)) := fun l => by
          induction l with
          | nil => exact .nil
          | cons c l ih => exact .cons (clsV Γ c) ih
        exact gen cls
        /-
        | nil => exact .nil
        | cons c cls ih => exact .cons (clsV Γ c) ih -/
      refine ⟨v, t, _, tyVal Γ τ, _, _, rfl, upd_same, pc, tag_rep I hK S2.toSt2 r2 hτ hok.1, kit_any I hok.1 hok.2, ?_⟩
      exact q1 _ _ _ _ S2 (Le.new (S1.sub.free ht)) (List.prefix_refl _) rfl
    · exact q1.elim
  · exact q1.elim
end
end DL
set_option maxRecDepth 100000
namespace DL
open PySem PySem.Spec PyProof.Rows L2
def addT : D → D → List MO → R D
  | .tup a, .tup b, M => if szOk (a.length + b.length) then .ok (.tup (a ++ b)) M else .bad
  | _, _, _ => .bad
def addD : D → D → List MO → R D := gOr2 addI (gOr2 addS (gOr2 addL addT))
def repT : D → D → List MO → R D
  | .tup a, .int k, M => if a ≠ [] ∧ 2 ≤ k ∧ k ≤ 1000 ∧ a.length ≤ 1000 then .ok (.tup (List.replicate k.toNat a).flatten) M else .bad
  | _, _, _ => .bad
def repL : D → D → List MO → R D
  | .lst a, .int k, M => if -(2 ^ 63) ≤ k ∧ k < 2 ^ 63 ∧ szOk (a.length * k.toNat) = true then .ok (.lst (List.replicate k.toNat a).flatten) M else .bad
  | _, _, _ => .bad
def mulD : D → D → List MO → R D := gOr2 mulI (gOr2 repT repL)
theorem pure_gsNil : ∀ ds ρ M p, gsNil ds ρ M = some p → p.2 = M := fun ds ρ M p e => by
  unfold gsNil at e
  cases ds with
  | nil => cases e; rfl
  | cons _ _ => cases e
theorem pure_gsCons {f : TGt} {g : TGts} (hf : Pure1 f) (hg : ∀ ds ρ M p, g ds ρ M = some p → p.2 = M) : ∀ ds ρ M p, gsCons f g ds ρ M = some p → p.2 = M := fun ds ρ M p e => by
  cases ds with
  | nil => cases e
  | cons d ds =>
    unfold gsCons at e
    dsimp only at e
    cases e1 : f d ρ M with
    | none => rw [e1] at e; cases e
    | some q =>
      rw [e1] at e
      have h1 := hf _ _ _ _ e1
      have h2 := hg _ _ _ _ e
      exact h2.trans h1
theorem pure_gTup {n : Nat} {g : TGts} (hg : ∀ ds ρ M p, g ds ρ M = some p → p.2 = M) : Pure1 (gTupT n g) := fun d ρ M p e => by
  unfold gTupT at e
  split at e
  · split at e
    · exact hg _ _ _ _ e
    · cases e
  · cases e
section
variable {X : Cx} {Γ : Gam} {W : WX}
theorem k_addT (hK : Γ.K = X.K) : Keeps2 Γ W (fun _ => rCatA X.K) addT := by
  intro Θ ρ σ as G M H a b x y Q S ra rb q
  unfold addT at q
  split at q
  · split at q
    · rename_i hz
      obtain ⟨p, vs, rfl, g1, r1⟩ := ra
      obtain ⟨p', vs', rfl, g2, r2⟩ := rb
      have g1' := g1
      have g2' := g2
      rw [hK] at g1 g2
      refine ⟨p, p', vs, vs', rfl, rfl, S.sub.st g1, S.sub.st g2, by rw [← r1.length, ← r2.length]; exact szOk_le hz, fun e => ?_, fun _ e => ?_, fun _ _ l n => keepsNewTup S (r1.append r2) q n⟩
      · subst e
        have z := r1.length
        have z' : _ = [] := List.eq_nil_of_length_eq_zero z
        subst z'
        exact got S q ⟨p', vs', rfl, g2', r2⟩
      · subst e
        have z' : _ = [] := List.eq_nil_of_length_eq_zero r2.length
        subst z'
        rw [List.append_nil] at q
        exact got S q ⟨p, vs, rfl, g1', r1⟩
    · exact q.elim
  · exact q.elim
abbrev rAddAll (K : PySem.W.Frag) : R2 := fun x y H Q => rI0 (fun i j => .int (i + j)) x y H Q ∨ (∃ i j, x = .str i ∧ y = .str j ∧ i.length + j.length ≤ sizeLine ∧ Q (.str (i ++ j)) H) ∨ rCat x y H Q ∨ rCatA K x y H Q
theorem op_addAll : OpR X (binaryOp .Add) (rAddAll X.K) := DL.OpR.or op_add (DL.OpR.or op_add_str (DL.OpR.or op_cat op_catA))
theorem k_addAll (hK : Γ.K = X.K) : Keeps2 Γ W (fun _ => rAddAll X.K) addD := k_or (r := fun _ => rI0 fun i j => .int (i + j)) k_addI (k_or (r := fun _ x y H Q => ∃ i j, x = .str i ∧ y = .str j ∧ i.length + j.length ≤ sizeLine ∧ Q (.str (i ++ j)) H) k_addS (k_or (r := fun _ => rCat) (r' := fun _ => rCatA X.K) k_addL (k_addT hK)))
theorem rep_flat {as : List Addr} {G : Hp} {xs : List D} {vs : List V} (r : RepL Γ as G xs vs) : ∀ n : Nat, RepL Γ as G (List.replicate n xs).flatten (List.replicate n vs).flatten
  | 0 => RepL.nil
  | n + 1 => by
    rw [List.replicate_succ, List.replicate_succ, List.flatten_cons, List.flatten_cons]
    exact r.append (rep_flat r n)
theorem k_repT (hK : Γ.K = X.K) : Keeps2 Γ W (fun _ => rRepT X.K) repT := by
  intro Θ ρ σ as G M H a b x y Q S ra rb q
  unfold repT at q
  split at q
  · split at q
    · rename_i hz
      obtain ⟨p, vs, rfl, g1, r1⟩ := ra
      cases rb
      rw [hK] at g1
      refine ⟨p, _, vs, rfl, rfl, S.sub.st g1, fun e => hz.1 ?_, hz.2.1, hz.2.2.1, by rw [← r1.length]; exact hz.2.2.2, fun l n => keepsNewTup S (rep_flat r1 _) q n⟩
      subst e
      exact List.eq_nil_of_length_eq_zero r1.length
    · exact q.elim
  · exact q.elim
theorem k_repL : Keeps2 Γ W (fun _ => rRep) repL := by
  intro Θ ρ σ as G M H a b x y Q S ra rb q
  unfold repL at q
  split at q
  · split at q
    · rename_i hz
      obtain ⟨p, vs, rfl, g1, r1⟩ := ra
      cases rb
      refine ⟨p, _, vs, rfl, rfl, S.sub _ _ g1, hz.1, hz.2.1, by rw [← r1.length]; exact szOk_le hz.2.2, fun l n => ?_⟩
      exact keepsNewLst S (rep_flat r1 _) q n
    · exact q.elim
  · exact q.elim
abbrev rMulAll (K : PySem.W.Frag) : R2 := fun x y H Q => rI CMulX (fun i j => .int (i * j)) x y H Q ∨ rRepT K x y H Q ∨ rRep x y H Q
theorem op_mulAll : OpR X (binaryOp .Mult) (rMulAll X.K) := DL.OpR.or op_mulX (DL.OpR.or op_repT op_rep)
theorem k_mulAll (hK : Γ.K = X.K) : Keeps2 Γ W (fun _ => rMulAll X.K) mulD := k_or (r := fun _ => rI CMulX fun i j => .int (i * j)) k_mulI (k_or (r := fun _ => rRepT X.K) (r' := fun _ => rRep) (k_repT hK) k_repL)
end
end DL
set_option maxRecDepth 100000
/-! An instance's own operators. -/
namespace DL
open PySem PySem.Spec PyProof.Rows L2

theorem cmpbackD {P : Value → Shared → Prop} {z : V} {v : Value} {s' : Shared} (r : RelV z v) (h : P v s') : PySem.W.CmpBack P v s' := by
  cases z with
  | non => cases (show v = Value.none from r); exact h
  | bl b => cases (show v = Value.bool b from r); exact h
  | int i =>
    obtain ⟨t, e⟩ := (show ∃ t, v = Value.int i t from r)
    cases e
    exact h
  | str x =>
    obtain ⟨t, e⟩ := (show ∃ t, v = Value.str x t from r)
    cases e
    exact h
  | byt b =>
    obtain ⟨t, e⟩ := (show ∃ t, v = Value.bytes b t from r)
    cases e
    exact h
  | flt b =>
    obtain ⟨t, e⟩ := (show ∃ t, v = Value.float b t from r)
    cases e
    exact h
  | ref a => cases (show v = Value.ref a from r); exact h
  | ty n => cases (show v = Value.type n from r); exact h
def OpS (X : Cx) (f : Value → Value → Sem Value) (r : L2.St → R2) : Prop :=
  ∀ (pins : List (Addr × Obj)) (s : Shared) (σ : L2.St) (H : Hp) (x y : V) (v u : Value) (Q : VK), Inv X pins σ H s → RelV x v → RelV y u → r σ x y H Q →
    wpAny (model X.prog X.w) X.A (f v u) (EP X pins σ Q) X.xe s
def UnS (X : Cx) (f : Value → Sem Value) (r : L2.St → V → Hp → VK → Prop) : Prop :=
  ∀ (pins : List (Addr × Obj)) (s : Shared) (σ : L2.St) (H : Hp) (x : V) (v : Value) (Q : VK), Inv X pins σ H s → RelV x v → r σ x H Q →
    wpAny (model X.prog X.w) X.A (f v) (EP X pins σ Q) X.xe s
structure OwnOp (K : PySem.W.Frag) (C f : Addr) (op : Operator) : Prop where
  first : PySem.W.selfFirst K C = true
  at_ : PySem.W.findIn K (.ref C) (PySem.dunder op.info.2) = some (some (.ref f))
  fn : PySem.W.isFn K (.ref f) = true
  refl : PySem.W.findIn K (.ref C) (dunderR op.info.2) = some none
  i1 : ∃ fo, PySem.W.findIn K (.type "int") (PySem.dunder op.info.2) = some fo
  i2 : ∃ ro, PySem.W.findIn K (.type "int") (dunderR op.info.2) = some ro
  sub : PySem.W.subIn K (.type "int") (.ref C) = some false
structure OwnCmp (Γ : Gam) (K : PySem.W.Frag) (cs : List Nat) (C f : Addr) (op : CmpOp) : Prop where
  at_ : PySem.W.findIn K (.ref C) (PySem.cmpInfo op).2.1 = some (some (.ref f))
  fn : PySem.W.isFn K (.ref f) = true
  nf : ∀ τ, okTy cs τ = true → PySem.W.notFirst K C (tyVal Γ τ) = true
structure OwnNeg (K : PySem.W.Frag) (C f : Addr) : Prop where
  at_ : PySem.W.findIn K (.ref C) "__neg__" = some (some (.ref f))
  fn : PySem.W.isFn K (.ref f) = true

section
variable {X : Cx} {Γ : Gam} {W : WX} {f C : Addr} {fd : FuncData} {ps : List Str} {sp : Sp} {E : L2.St → XK} {k : Nat} {CX : CXT}
theorem OpS.or {g : Value → Value → Sem Value} {r : R2} {r' : L2.St → R2} (h : OpR X g r) (h' : OpS X g r') : OpS X g (fun σ x y H Q => r x y H Q ∨ r' σ x y H Q) := fun pins s σ H x y v u Q I rx ry q => by
  rcases q with q | q
  · exact h pins s σ H x y v u Q I rx ry q
  · exact h' pins s σ H x y v u Q I rx ry q
theorem OpS.orS {g : Value → Value → Sem Value} {r r' : L2.St → R2} (h : OpS X g r) (h' : OpS X g r') : OpS X g (fun σ x y H Q => r σ x y H Q ∨ r' σ x y H Q) := fun pins s σ H x y v u Q I rx ry q => by
  rcases q with q | q
  · exact h pins s σ H x y v u Q I rx ry q
  · exact h' pins s σ H x y v u Q I rx ry q
theorem OpS.of {g : Value → Value → Sem Value} {r : R2} (h : OpR X g r) : OpS X g (fun _ => r) := fun pins s σ H x y v u Q I rx ry q => h pins s σ H x y v u Q I rx ry q
theorem UnS.of {g : Value → Sem Value} {r : V → Hp → VK → Prop} (h : UnR X g r) : UnS X g (fun _ => r) := fun pins s σ H x v Q I rx q => h pins s σ H x v Q I rx q
theorem UnS.or {g : Value → Sem Value} {r r' : L2.St → V → Hp → VK → Prop} (h : UnS X g r) (h' : UnS X g r') : UnS X g (fun σ x H Q => r σ x H Q ∨ r' σ x H Q) := fun pins s σ H x v Q I rx q => by
  rcases q with q | q
  · exact h pins s σ H x v Q I rx q
  · exact h' pins s σ H x v Q I rx q
/-- x op y by x's own def: y an int or of x's class -/
def rOwnB (C : Addr) (sp : Sp) (E : L2.St → XK) : L2.St → R2 := fun σ x y H Q => ∃ a dx fs, x = .ref a ∧ H a = some (.ins C dx fs) ∧ ((∃ i, y = .int i) ∨ ∃ b dy gs, y = .ref b ∧ H b = some (.ins C dy gs)) ∧ sp [x, y] H Q (E σ)
theorem op_ownB {op : Operator} (o : OwnOp X.K C f op) (F : FnOk X.prog X.w X.K X.mg X.base CX k f fd ps sp) (hr : Room k X.A) (hb : Binds X.K fd ps []) (hx : ∀ σ, PassesAt CX X σ (E σ)) : OpS X (binaryOp op) (rOwnB C sp E) := by
  intro pins s σ H x y v u Q I rx ry h
  obtain ⟨a, dx, fs, rfl, ea, hy, q⟩ := h
  cases (show v = Value.ref a from rx)
  obtain ⟨mA, O, _⟩ := ins_get I.hok ea
  obtain ⟨od, J, _⟩ := O.look
  obtain ⟨m, hF⟩ := I.fr
  have run := run_fnSD (us := [.ref a, u]) (vs := [.ref a, y]) F hr hb .nil (hx σ) I (.cons rfl (.cons ry .nil)) q
  have back : wpAny (model X.prog X.w) X.A (call (.ref f) [.ref a, u]) (PySem.W.CmpBack (EP X pins σ Q)) X.xe s := wpAny_mono run (fun w s' z => by
    obtain ⟨z', H', I', rz, qz⟩ := z
    exact cmpbackD rz ⟨z', H', I', rz, qz⟩) fun _ _ x => x
  rcases hy with ⟨i, rfl⟩ | ⟨b, dy, gs, rfl, eb⟩
  · obtain ⟨t, rfl⟩ := (show ∃ t, u = Value.int i t from ry)
    obtain ⟨fo, i1⟩ := o.i1
    obtain ⟨ro, i2⟩ := o.i2
    exact PySem.W.ksp_binT (T := "int") hF I.ok.mod.kin J rfl o.first o.at_ o.fn o.refl (.inl rfl) i1 i2 o.sub back
  · cases (show u = Value.ref b from ry)
    obtain ⟨mB, O', _⟩ := ins_get I.hok eb
    obtain ⟨od', J', _⟩ := O'.look
    exact PySem.W.binop_K hF I.ok.mod.kin J J'.type o.first o.at_ o.fn back
def rOwnN (C : Addr) (sp : Sp) (E : L2.St → XK) : L2.St → V → Hp → VK → Prop := fun σ x H Q => ∃ a dx fs, x = .ref a ∧ H a = some (.ins C dx fs) ∧ sp [x] H Q (E σ)
theorem un_ownN (o : OwnNeg X.K C f) (F : FnOk X.prog X.w X.K X.mg X.base CX k f fd ps sp) (hr : Room k X.A) (hb : Binds X.K fd ps []) (hx : ∀ σ, PassesAt CX X σ (E σ)) : UnS X (unaryOp .USub) (rOwnN C sp E) := by
  intro pins s σ H x v Q I rx h
  obtain ⟨a, dx, fs, rfl, ea, q⟩ := h
  cases (show v = Value.ref a from rx)
  obtain ⟨mA, O, _⟩ := ins_get I.hok ea
  obtain ⟨od, J, _⟩ := O.look
  obtain ⟨m, hF⟩ := I.fr
  exact PySem.W.ksp_neg hF I.ok.mod.kin J o.at_ o.fn (run_fnSD (us := [.ref a]) (vs := [.ref a]) F hr hb .nil (hx σ) I (.cons rfl .nil) q)
def rOwnC (K : PySem.W.Frag) (C : Addr) (sp : Sp) (E : L2.St → XK) : L2.St → R2 := fun σ x y H Q => ∃ a dx fs t, x = .ref a ∧ H a = some (.ins C dx fs) ∧ TyX K H y t ∧ PySem.W.notFirst K C t = true ∧ sp [x, y] H Q (E σ)
theorem op_ownC {op : CmpOp} (hop : ∀ a b, compareOp op a b = richCompare op a b) (at_ : PySem.W.findIn X.K (.ref C) (PySem.cmpInfo op).2.1 = some (some (.ref f))) (fn : PySem.W.isFn X.K (.ref f) = true)
    (F : FnOk X.prog X.w X.K X.mg X.base CX k f fd ps sp) (hr : Room k X.A) (hb : Binds X.K fd ps []) (hx : ∀ σ, PassesAt CX X σ (E σ)) : OpS X (compareOp op) (rOwnC X.K C sp E) := by
  intro pins s σ H x y v u Q I rx ry h
  obtain ⟨a, dx, fs, t, rfl, ea, ty, nf, q⟩ := h
  cases (show v = Value.ref a from rx)
  obtain ⟨mA, O, _⟩ := ins_get I.hok ea
  obtain ⟨od, J, _⟩ := O.look
  obtain ⟨m, hF⟩ := I.fr
  obtain ⟨P, kx, hp, _⟩ := kit_of I ry ty
  rw [hop]
  refine PySem.W.cmp_K (op := op) (tb := t) hr.units0 hF I.ok.mod.kin J (kx.ty _ _ I.kIn hp) nf at_ fn ?_
  exact wpAny_mono (run_fnSD (us := [.ref a, u]) (vs := [.ref a, y]) F hr hb .nil (hx σ) I (.cons rfl (.cons ry .nil)) q) (fun w s' z => by
    obtain ⟨z', H', I', rz, qz⟩ := z
    exact cmpbackD rz ⟨z', H', I', rz, qz⟩) fun _ _ x => x
theorem q_opS {op : Operator} {a b : Expr} {pos : Pos} {r : L2.St → R2} {g : D → D → List MO → R D} {fa fb : FE} (ho : OpS X (binaryOp op) r) (k : Keeps2 Γ W r g) (ha : PE X a (tE Γ W fa)) (hb : PE X b (tE Γ W fb)) :
    PE X (.BinOp a op b pos) (tE Γ W (d2 g fa fb)) := ⟨fun pins s σ H Q I h => wpAny_BinOp (binT ha hb I (run2 k h) fun v u s2 x y H2 I2 rx ry q => ho pins s2 σ H2 x y v u Q I2 rx ry q)⟩
theorem q_unS {op : UnaryOp} {a : Expr} {pos : Pos} {r : L2.St → V → Hp → VK → Prop} {g : D → List MO → R D} {fa : FE} (ho : UnS X (unaryOp op) r) (k : ∀ Θ ρ σ as G M H a x Q, Sta Γ Θ as G M ρ σ H → Rep Γ as G a x → PostE Γ Θ W ρ σ as G Q (g a M) → r σ x H Q) (ha : PE X a (tE Γ W fa)) :
    PE X (.UnaryOp op a pos) (tE Γ W (d1 g fa)) := ⟨fun pins s σ H Q I h => by
  obtain ⟨Θ, as, G, M, ρ, S, q⟩ := h
  have q0 := (PostE.bindE q).imp (Le.refl _) (List.prefix_refl _) (Q' := fun x H1 => r σ x H1 Q) (fun x H1 ⟨d, M1, as1, G1, S1, e1, p1, ra, q1⟩ => k Θ ρ σ as1 G1 M1 H1 d x Q S1 ra q1)
  exact UnaryOp_ (thn (ha.run pins s σ H _ I ⟨Θ, as, G, M, ρ, S, q0⟩) fun v s1 ⟨x, H1, I1, r1, q1⟩ => ho pins s1 σ H1 x v Q I1 r1 q1)⟩
theorem q_cmpS {op : CmpOp} {a b : Expr} {pos : Pos} {r : L2.St → R2} {g : D → D → List MO → R D} {fa fb : FE} (ho : OpS X (compareOp op) r) (k : Keeps2 Γ W r g) (ha : PE X a (tE Γ W fa)) (hb : PE X b (tE Γ W fb)) (hm : behindInMarks op b = false) :
    PE X (.Compare a [op] [b] pos) (tE Γ W (d2 g fa fb)) := ⟨fun pins s σ H Q I h => wpAny_Compare1 (binT ha hb I (run2 k h) fun v u s2 x y H2 I2 rx ry q => ho pins s2 σ H2 x y v u Q I2 rx ry q) hm⟩

/-! ### the pure side -/
def okArg (c : Nat) : D → Bool
  | .int _ => true
  | .ins c' _ => c' == c
  | _ => false
def ownOp (c : Nat) (F : FN) (g : D → D → List MO → R D) : D → D → List MO → R D := fun x y M => match x with
  | .ins c' xs => if c' = c then (if okArg c y then lenIs 2 F [.ins c' xs, y] M else .bad) else g (.ins c' xs) y M
  | x => g x y M
def ownUn (c : Nat) (F : FN) (g : D → List MO → R D) : D → List MO → R D := fun x M => match x with
  | .ins c' xs => if c' = c then lenIs 1 F [.ins c' xs] M else g (.ins c' xs) M
  | x => g x M
def ownCmp (cs : List Nat) (c : Nat) (F : FN) (g : D → D → List MO → R D) : D → D → List MO → R D := fun x y M => match x with
  | .ins c' xs => if c' = c then (match tagOf M y with
    | some τ => if okTy cs τ then lenIs 2 F [.ins c' xs, y] M else .bad
    | none => .bad) else g (.ins c' xs) y M
  | x => g x y M
theorem k_ownOp {c : Nat} {F : FN} {g : D → D → List MO → R D} {r : L2.St → R2} (k : Keeps2 Γ W r g) : Keeps2 Γ W (fun σ x y H Q => r σ x y H Q ∨ rOwnB (Γ.cA c) (spF Γ 2 F) (WE W) σ x y H Q) (ownOp c F g) := by
  intro Θ ρ σ as G M H a b x y Q S ra rb q
  unfold ownOp at q
  split at q
  · split at q
    · rename_i e
      subst e
      split at q
      · rename_i ho
        refine .inr ?_
        obtain ⟨p, dx, vs, rfl, g1, l, rl⟩ := id ra
        refine ⟨p, dx, _, rfl, S.sub _ _ g1, ?_, ?_⟩
        · cases b with
          | int i => exact .inl ⟨i, rb⟩
          | ins c' ys =>
            obtain ⟨p', dy, ws, rfl, g2, _⟩ := rb
            have e := eq_of_beq (show (c' == _) = true from ho)
            subst e
            exact .inr ⟨p', dy, _, rfl, S.sub _ _ g2⟩
          | _ => cases ho
        · unfold lenIs at q
          split at q
          · rename_i hz
            exact sp_of S (RepL.cons ra (RepL.cons rb RepL.nil)) hz q
          · exact q.elim
      · exact q.elim
    · exact .inl (k _ _ _ _ _ _ _ _ _ _ _ _ S ra rb q)
  · exact .inl (k _ _ _ _ _ _ _ _ _ _ _ _ S ra rb q)
theorem k_ownUn {c : Nat} {F : FN} {g : D → List MO → R D} {r : L2.St → V → Hp → VK → Prop} (k : ∀ Θ ρ σ as G M H a x Q, Sta Γ Θ as G M ρ σ H → Rep Γ as G a x → PostE Γ Θ W ρ σ as G Q (g a M) → r σ x H Q) :
    ∀ Θ ρ σ as G M H a x Q, Sta Γ Θ as G M ρ σ H → Rep Γ as G a x → PostE Γ Θ W ρ σ as G Q (ownUn c F g a M) → (fun σ x H Q => r σ x H Q ∨ rOwnN (Γ.cA c) (spF Γ 1 F) (WE W) σ x H Q) σ x H Q := by
  intro Θ ρ σ as G M H a x Q S ra q
  unfold ownUn at q
  split at q
  · split at q
    · rename_i e
      subst e
      refine .inr ?_
      obtain ⟨p, dx, vs, rfl, g1, l, rl⟩ := id ra
      refine ⟨p, dx, _, rfl, S.sub _ _ g1, ?_⟩
      unfold lenIs at q
      split at q
      · rename_i hz
        exact sp_of S (RepL.cons ra RepL.nil) hz q
      · exact q.elim
    · exact .inl (k _ _ _ _ _ _ _ _ _ _ S ra q)
  · exact .inl (k _ _ _ _ _ _ _ _ _ _ S ra q)
theorem k_ownCmp {cs : List Nat} {c : Nat} {F : FN} {g : D → D → List MO → R D} {r : L2.St → R2} {op : CmpOp} {f : Addr} (I : IsOk Γ X.K cs) (hK : Γ.K = X.K) (o : OwnCmp Γ X.K cs (Γ.cA c) f op) (k : Keeps2 Γ W r g) :
    Keeps2 Γ W (fun σ x y H Q => r σ x y H Q ∨ rOwnC X.K (Γ.cA c) (spF Γ 2 F) (WE W) σ x y H Q) (ownCmp cs c F g) := by
  intro Θ ρ σ as G M H a b x y Q S ra rb q
  unfold ownCmp at q
  split at q
  · split at q
    · rename_i e
      subst e
      split at q
      · rename_i τ hτ
        split at q
        · rename_i ho
          refine .inr ?_
          obtain ⟨p, dx, vs, rfl, g1, l, rl⟩ := id ra
          refine ⟨p, dx, _, tyVal Γ τ, rfl, S.sub _ _ g1, tag_rep I hK S.toSt2 rb hτ ho, o.nf τ ho, ?_⟩
          unfold lenIs at q
          split at q
          · rename_i hz
            exact sp_of S (RepL.cons ra (RepL.cons rb RepL.nil)) hz q
          · exact q.elim
        · exact q.elim
      · exact q.elim
    · exact .inl (k _ _ _ _ _ _ _ _ _ _ _ _ S ra rb q)
  · exact .inl (k _ _ _ _ _ _ _ _ _ _ _ _ S ra rb q)
end
end DL
set_option maxRecDepth 100000
/-! An own error: its __init__ says super().__init__(..). -/
namespace DL
open PySem PySem.Spec PyProof.Rows L2

theorem look_mem1 {α β : Type} [BEq α] [LawfulBEq α] {x : α} {u : β} : ∀ {l : List (α × β)}, (l.map (·.1)).Nodup → (x, u) ∈ l → l.lookup x = some u
  | [], _, h => by cases h
  | (y, w) :: l, nd, h => by
    rw [List.lookup_cons]
    rw [List.map_cons, List.nodup_cons] at nd
    rcases List.mem_cons.mp h with e | h
    · cases e; simp
    · have ne : x ≠ y := fun e => nd.1 (by rw [← e]; exact List.mem_map.mpr ⟨_, h, rfl⟩)
      have : (x == y) = false := by simpa using ne
      rw [this]
      exact look_mem1 nd.2 h
theorem look_par {ps : List Str} {us : List Value} {i : Nat} {x : Str} {u : Value} (nd : ps.Nodup) (l : us.length = ps.length) (h1 : ps[i]? = some x) (h2 : us[i]? = some u) : (ps.zip us).reverse.lookup x = some u := by
  refine look_mem1 ?_ ?_
  · rw [List.map_reverse, List.map_fst_zip (by omega)]
    exact (List.reverse_perm _).nodup_iff.mpr nd
  · rw [List.mem_reverse]
    refine List.mem_of_getElem? (i := i) ?_
    rw [List.getElem?_zip_eq_some]
    exact ⟨h1, h2⟩

/-- the body of a def that closes over its class -/
def cxS (CX : CXT) (P : Program) (w : World) (K : PySem.W.Frag) (mg : Str → Option Value) (base : Heap) (N : List Str) (qual : Str) (scope : Scope) (f : Addr) (cd : Value) (cc : Addr) (A : Around) (outer : List Env) (s : Shared) (H : Hp) (E : XK) : Cx where
  prog := P
  w := w
  K := K
  mg := mg
  base := base
  A := A.deeper (PySem.W.ksEnv qual scope s.heap.objs.size f cd cc)
  N := N
  s_0 := s
  H_0 := H
  env := PySem.W.ksEnv qual scope s.heap.objs.size f cd cc
  outer := outer
  stack := PySem.W.ksEnv qual scope s.heap.objs.size f cd cc :: outer
  ex := []
  calm := true
  fn := fun _ => false
  pn := []
  xe := fun e s' => wpAny (model P w) (A.deeper (PySem.W.ksEnv qual scope s.heap.objs.size f cd cc)) (leaving (PySem.W.ksEnv qual scope s.heap.objs.size f cd cc) e) (fun _ s'' => CX outer H s E e s'') (fun e' s'' => CX outer H s E e' s'') s'
structure ScopeS (ps : List Str) (sc : Scope) : Prop where
  kind : sc.kind = .function
  co : sc.isCoroutine = false
  gen : sc.isGenerator = false
  nd : ps.Nodup
  par : ∀ x ∈ ps, sc.names.lookup x = some .local
  nocell : ∀ y ∈ sc.names, y.2 ≠ .cell
  free : ∀ y ∈ sc.names, y.2 = .free → y.1 = ("__class__" : Str)
  sup : sc.names.lookup ("super" : Str) = some .globalImplicit
  cls : sc.names.lookup ("__class__" : Str) = some .free
/-- what the written part says of the error class at C, its __init__ at f -/
structure ErrK (P : Program) (K : PySem.W.Frag) (mg : Str → Option Value) (C f : Addr) (name qual : Str) (params : Arguments) (body : List Stmt) (scope : Scope) (fd : FuncData) : Prop where
  fn : ∃ (oc : Value) (od : Option Addr) (osl : Array (Option Value)) (dV kV doc pm ct : Value) (an : Option Addr) (cda cc : Addr) (ccl cl : Value) (cdd cld : Option Addr) (ccs csl : Array (Option Value)) (vs : Array Value) (file : Str) (tf : Tok) (cdC : ClassData),
    fd = PySem.W.ksFn name qual params body scope dV kV doc pm an (.ref cda) ct cc ∧ K.lookup f = some ⟨oc, od, .func fd, osl⟩ ∧ PySem.W.codeIn K (.ref cda) qual = true ∧
    K.lookup cda = some ⟨ccl, cdd, .fields vs, ccs⟩ ∧ vs[2]? = some (.str file tf) ∧ ((P.main.file : Str) == file) = true ∧
    K.lookup cc = some ⟨cl, cld, .cell (some (.ref C)), csl⟩ ∧ PySem.W.clsIn K C = some cdC
  self : PySem.W.mroIn K C (.ref C) = some true
  noSuper : mg "super" = none
  sup : PySem.W.ks_superIn K C C "__init__" = some (some (.builtin "ValueError.__init__"))
  ve : PySem.W.subIn K (.ref C) (.type "ValueError") = some true
  opq : PySem.W.nsIn K cStatics "thirdparty.any" = some none
  top : (P.main.scope.names.lookup ("super" : Str)).isSome = false
  T : OexC K C
section
variable {CX : CXT} {P : Program} {w : World} {K : PySem.W.Frag} {mg : Str → Option Value} {base : Heap} {C f : Addr} {name qual : Str} {params : Arguments} {body : List Stmt} {scope : Scope} {fd : FuncData} {ps : List Str}
theorem inv_startS {cd : Value} {cc : Addr} {A : Around} {outer : List Env} {s : Shared} {H : Hp} {E : XK} {us : List Value} {vs : List V} {h₁ : Heap} {tk : Nat} {cl : Value} {cld : Option Addr} {csl : Array (Option Value)} {u : Option Value}
    (S : ScopeS ps scope) (hd : A.handled = none) (e0 : Env0 P w K mg base A outer s H) (hl : vs.length = ps.length) (r : Vals vs us) (hcc : K.lookup cc = some ⟨cl, cld, .cell u, csl⟩)
    (hns : h₁.Ns s.heap.objs.size (fun x => (ps.zip us).reverse.lookup x)) (hk : ∀ b o, s.heap.get? b = some o → h₁.get? b = some o) :
    Inv (cxS CX P w K mg base ps qual scope f cd cc A outer s H E) [] (start ps vs) H { s with heap := h₁, toks := tk } := by
  have noA : ∀ b : Addr, b ∉ (cxS CX P w K mg base ps qual scope f cd cc A outer s H E).ex := fun b z => absurd (show b ∈ ([] : List Addr) from z) (by simp)
  have one : ∀ {x : Str} {c : Addr}, ([(("__class__" : Str), cc)] : List (Str × Addr)).lookup x = some c → x = "__class__" ∧ c = cc := fun {x c} h => by
    rw [List.lookup_cons] at h
    split at h
    · rename_i e; cases h; exact ⟨beq_iff_eq.mp e, rfl⟩
    · cases h
  have hb : base.get? cc = some ⟨cl, cld, .cell u, csl⟩ := e0.mod.kin _ _ hcc
  refine ⟨⟨e0.mod, S.kind, rfl, rfl, Nat.le_refl _, fun y z c h1 h2 => ?_, fun y hy => ?_, fun y c h _ => (by cases h), fun _ => hd, Around.frames_deeper e0.frames, .inr ⟨rfl, rfl⟩, fun b z => absurd z (noA b), e0.bs, e0.bsz, fun b _ _ => noA b, fun b z => absurd z (noA b), e0.funs, e0.frf⟩,
    rfl, e0.bare, Un.kept hk, ⟨_, hns, fun i y v h1 h2 h3 => ?_⟩, fun y c h => ?_, e0.hok.fresh (Nat.le_refl _), fun y c h => ?_, fun p hp => absurd (show p ∈ ([] : List (Addr × Obj)) from hp) (by simp), e0.hok.kept hk, ?_⟩
  · rw [(one h1).1, (one h2).1]
  · have hy : scope.names.lookup y = some .cell ∨ scope.names.lookup y = some .free := hy
    rcases hy with hy | hy
    · exact absurd rfl (S.nocell _ (PySem.mem_of_lookup hy))
    · have e := S.free _ (PySem.mem_of_lookup hy) rfl
      have e : y = ("__class__" : Str) := e
      subst e
      exact ⟨cc, by show List.lookup _ [_] = _; rw [List.lookup_cons]; simp⟩
  · have e : L2.start ps vs = vs.map some := by unfold L2.start; rw [hl, Nat.sub_self]; simp
    rw [e, List.getElem?_map] at h2
    cases q : vs[i]? with
    | none => rw [q] at h2; cases h2
    | some v' =>
      rw [q] at h2; cases h2
      obtain ⟨u, hu, rv⟩ := r.get q
      refine ⟨u, rv, .inl ⟨S.par y (List.mem_of_getElem? h1), ?_⟩⟩
      exact look_par S.nd (by rw [← r.length, hl]) h1 hu
  · rw [(one h).2]
    exact ⟨u, _, hk _ _ (e0.bs _ _ hb).1, rfl⟩
  · rw [(one h).2]
    exact (e0.bs _ _ hb).2
  · unfold L2.start
    show _ = ps.length
    rw [List.length_append, List.length_map, List.length_replicate]
    omega
theorem init_bw {prog : Program} {A : Around} {E : Value → Shared → Prop} {s : Shared} {u e t0 : Addr} {nm q : Str} {N : Addr} {bs bm : List Value} {hdct : Bool} {sn : List Str} {sub : List Value} {ab : Bool} {col : Option Bool} {dd : Option Addr} {k0 k1 k2 k3 k5 : Option Value} {rest : List Value} {Q : Value → Shared → Prop}
    (hC : s.heap.get? C = some (excClassObj nm q C N bs bm hdct sn sub ab col dd k0 k1 k2 k3 k5 "ValueError.__new__")) (he : s.heap.get? e = some (PySem.HandSPX.excO C t0)) (hu : s.heap.get? u = some (PySem.W.kxs_mw "ValueError.__init__" e)) (hz : rest.length ≤ sizeLine)
    (hq : ∀ h' t1, (∀ b o, b ≠ e → s.heap.get? b = some o → h'.get? b = some o) → h'.get? e = some (PySem.HandSPX.excO C t1) → Q .none { s with heap := h' }) :
    wpAny (model prog w) A (call (.ref u) rest) Q E s := by
  obtain ⟨hh, g, d, tk, os⟩ := s
  refine wpAny_call (codeAny_of_tree ?_)
  show wpAny _ A.in1 (callAny (.ref u) ⟨rest, []⟩) _ _ _
  simp only [callAny]
  refine wpAny_bind (wpAny_load hu ?_)
  simp only [PySem.W.kxs_mw, show (Value.type "method-wrapper" == Value.type "method" || Value.type "method-wrapper" == Value.type "builtin_function_or_method" || Value.type "method-wrapper" == Value.type "method-wrapper") = true by decide, if_true]
  refine PySem.W.KFB.if_so (by decide) ?_
  refine wpAny_bind (PySem.W.check_bound_init PySem.F.excBase_ValueError.toExcCallFacts hC he rfl ?_)
  refine wpAny_bind (wpAny_pure (wpAny_pure ?_))
  refine ⟨plainId_quiet PySem.F.excBase_ValueError.init.plain _, codeAny_builtin PySem.F.excBase_ValueError.initEntry ?_⟩
  exact PySem.W.exc_init_tree (cls := .ref C) (t0 := t0) (dv := none) (c2 := .none) (c3 := .none) (b4 := .bool false) he hz fun h' k e' _ => hq h' _ k e'
/-- super().__init__(e, ..) -/
theorem super_stmt {qual : Str} {cda cc : Addr} {A : Around} {outer : List Env} {s s1 : Shared} {H H1 : Hp} {E : XK} {σ : L2.St} {e₀ : Expr} {es : List Expr} {p0 p1 p2 pos pos' : Pos} {a : Addr} {ta : TA} {bd : List Stmt}
    {oc : Value} {od : Option Addr} {osl : Array (Option Value)} {dV kV doc pm ct : Value} {an : Option Addr} {ccl cl : Value} {cdd cld : Option Addr} {ccs csl : Array (Option Value)} {vs : Array Value} {file : Str} {tf : Tok} {cdC : ClassData}
    (EK : ErrK P K mg C f name qual params body scope fd) (S : ScopeS ps scope) (lk : K.lookup f = some ⟨oc, od, .func (PySem.W.ksFn name qual params body scope dV kV doc pm an (.ref cda) ct cc), osl⟩)
    (lc : K.lookup cda = some ⟨ccl, cdd, .fields vs, ccs⟩) (hvs : vs[2]? = some (.str file tf)) (hfile : ((P.main.file : Str) == file) = true)
    (hcc : K.lookup cc = some ⟨cl, cld, .cell (some (.ref C)), csl⟩) (hcl : PySem.W.clsIn K C = some cdC)
    {ar : Arg} (hp : (params.posonlyargs ++ params.args).head? = some ar) (h0 : ps[0]? = some ar.arg)
    (I : Inv (cxS CX P w K mg base ps qual scope f (.ref cda) cc A outer s H E) [] σ H1 s1) (h1 : σ[0]? = some (some (.ref a))) (ea : H1 a = some (exo a C none))
    (ha : PA (cxS CX P w K mg base ps qual scope f (.ref cda) cc A outer s H E) (e₀ :: es) ta) (hta : ta σ H1 fun vs H' => vs.length ≤ 1000 ∧ H' = H1)
    (hst : starEach (e₀ :: es) (PySem.W.ksEnv qual scope s.heap.objs.size f (.ref cda) cc) = (false, eval e₀ (PySem.W.ksEnv qual scope s.heap.objs.size f (.ref cda) cc)) :: starEach es (PySem.W.ksEnv qual scope s.heap.objs.size f (.ref cda) cc))
    (hpl : (backTo pos (starEach es (PySem.W.ksEnv qual scope s.heap.objs.size f (.ref cda) cc))).any (·.1) = false) {pl : Sem Bool}
    (hev : eval (.Call (.Attribute (.Call (.Name "super" p0) [] [] p1) "__init__" p2) (e₀ :: es) [] pos) (PySem.W.ksEnv qual scope s.heap.objs.size f (.ref cda) cc) = (do
      let ov ← attributeBase (.Call (.Name "super" p0) [] [] p1) "__init__" (PySem.W.ksEnv qual scope s.heap.objs.size f (.ref cda) cc) (eval (.Call (.Name "super" p0) [] [] p1) (PySem.W.ksEnv qual scope s.heap.objs.size f (.ref cda) cc))
      standAt p2.atName
      let (f', first) ← holding [ov] (getMethod ov "__init__" pl)
      callWith pos f' first (backTo pos (starEach (e₀ :: es) (PySem.W.ksEnv qual scope s.heap.objs.size f (.ref cda) cc))) [])) :
    _root_.PySem.wpAt (model P w) (A.deeper (PySem.W.ksEnv qual scope s.heap.objs.size f (.ref cda) cc)) (.func bd (PySem.W.ksEnv qual scope s.heap.objs.size f (.ref cda) cc))
      (exec (.Expr (.Call (.Attribute (.Call (.Name "super" p0) [] [] p1) "__init__" p2) (e₀ :: es) [] pos) pos') (PySem.W.ksEnv qual scope s.heap.objs.size f (.ref cda) cc))
      (fun fl s' => fl = .next ∧ Inv (cxS CX P w K mg base ps qual scope f (.ref cda) cc A outer s H E) [] σ H1 s')
      (cxS CX P w K mg base ps qual scope f (.ref cda) cc A outer s H E).xe s1 := by
  obtain ⟨nm, q, N, bs, bm, sn, sub, ab, col, dd, k0, k1, k2, k3, k5, hC, hbm⟩ := EK.T.cls
  have K1 : K.In s1.heap := I.kIn
  obtain ⟨t1, ho⟩ := exo_at I.hok ea
  obtain ⟨oD, hD1, hD2⟩ : ∃ oD, s1.heap.get? C = some oD ∧ oD.data = .cls cdC := by
    unfold PySem.W.clsIn at hcl
    split at hcl
    · rename_i c d cd' sl ho
      cases hcl
      exact ⟨_, K1 _ _ ho, rfl⟩
    · cases hcl
  have hsp := EK.sup
  unfold PySem.W.ks_superIn at hsp
  rw [hcl] at hsp
  obtain ⟨mb, hb1, hb2⟩ := I.mod.blt
  obtain ⟨m, hn, hlk⟩ := I.loc
  have hloc : scope.names.lookup ar.arg = some .local := S.par _ (List.mem_of_getElem? h0)
  obtain ⟨u0, ru, look⟩ := hlk 0 ar.arg _ h0 h1 (.inl hloc)
  obtain rfl : u0 = Value.ref a := ru
  have hm : m ar.arg = some (.ref a) := by
    rcases look with ⟨_, e⟩ | ⟨hk, _⟩
    · exact e
    · have hk : scope.names.lookup ar.arg = some .cell ∨ scope.names.lookup ar.arg = some .free := hk
      rw [hloc] at hk
      rcases hk with z | z <;> cases z
  refine ks_wpAt_Expr_any ?_ (hi := I.quiet)
  refine ks_wpAt_MethodCall (pl := pl) ?_ hev
  refine ks_wpAt_super_base (env := PySem.W.ksEnv qual scope s.heap.objs.size f (.ref cda) cc) S.sup S.cls (by decide) rfl (K1 _ _ lk) rfl hp rfl (K1 _ _ lc) rfl hvs hfile EK.top ?_
  refine PySem.W.ks_loadName_global S.kind S.sup (Calls.loadGlobal_builtin (env := PySem.W.ksEnv qual scope s.heap.objs.size f (.ref cda) cc) (I.mod.glob.keeps I.bk) EK.noSuper (hb1.keeps I.bk) ((hb2 _ (by decide)).trans (by first | rfl | kernel_rfl)) ⟨rfl, ?_⟩)
  refine wpAny_loadName_free S.kind S.cls rfl ⟨_, K1 _ _ hcc, rfl⟩ ?_
  refine wpAny_loadName_local S.kind hloc hn hm ?_
  refine ks_wpAny_isType_cls hD1 hD2 ⟨rfl, ?_⟩
  obtain ⟨hh, g, d, t, os⟩ := s1
  refine ks_wpAny_call_super hD1 hD2 ho rfl (fun c e => by cases e) (PySem.W.looks_mroIn K1 EK.self) (fun h' e k => ?_)
  have I2 := I.kept (t' := t) k
  have K2 : K.In h' := I2.kIn
  have ho2 := k _ _ ho
  have hI : PySem.W.Looks (model P w) h' (isInstance (.ref a) (.type "ValueError")) true := (PySem.W.InstAt.type (od := none) ⟨ho2, rfl, rfl, trivial⟩).andThen (PySem.W.looks_subIn K2 EK.ve)
  have hne : a ≠ C := fun z => by
    rw [z] at ho
    rw [ho] at hD1
    cases hD1
    cases hD2
  refine PySem.W.kxs_getMethod PySem.W.kxs_ValueError e (PySem.W.looks_opaque K2 EK.opq) (l₀ := cdC.mro) (fun A Q E s k q => wpAny_bind ((PySem.W.looks_clsIn K2 hcl) A _ E s k (wpAny_pure q))) rfl K2 hsp hI hne (by decide) ?_
  have hu : (h'.push (PySem.W.kxs_mw "ValueError.__init__" a)).get? h'.objs.size = some (PySem.W.kxs_mw "ValueError.__init__" a) := Heap.get?_push_at rfl rfl
  have I3 := I2.kept (h' := h'.push (PySem.W.kxs_mw "ValueError.__init__" a)) (t' := t + 1) (fun b o z => Heap.get?_push_of_some _ z)
  have nL : h'.objs.size ≠ (cxS CX P w K mg base ps qual scope f (.ref cda) cc A outer s H E).env.locals := fun z => by
    have := I2.lt
    rw [← z] at this
    exact Nat.lt_irrefl _ this
  have I4 : Inv (cxS CX P w K mg base ps qual scope f (.ref cda) cc A outer s H E) [(h'.objs.size, PySem.W.kxs_mw "ValueError.__init__" a)] σ H1 ⟨h'.push (PySem.W.kxs_mw "ValueError.__init__" a), g, d, t + 1, os⟩ := I3.pins_of fun p hp => by
    rw [List.mem_singleton] at hp
    subst hp
    exact ⟨hu, I2.hok.fresh (Nat.le_refl _), nL, I2.nofs (Nat.le_refl _), fun v z => by cases z⟩
  refine PySem.W.kxs_callWith (i := "ValueError.__init__") (u := h'.objs.size) (x := a) (by rw [hst]; exact hpl) ?_
  have z := ha.run pos _ _ σ H1 _ I4 hta
  rw [show starEach (e₀ :: es) (cxS CX P w K mg base ps qual scope f (.ref cda) cc A outer s H E).env = _ from hst] at z
  rw [hst]
  refine PySem.Calls.evalArgs_plain ?_
  refine thn z fun us s4 ⟨ws, H4, I5, r, hz, eH⟩ => ?_
  subst eH
  obtain ⟨hu4, _⟩ := I5.pin (h'.objs.size, PySem.W.kxs_mw "ValueError.__init__" a) (List.mem_append_right _ List.mem_cons_self)
  obtain ⟨t4, ho4⟩ := exo_at I5.hok ea
  refine ⟨hu4, init_bw (I5.kIn _ _ hC) ho4 hu4 (by show us.length ≤ sizeLine; rw [← r.length, sizeLine_eq]; omega) fun h'' t5 k5 hx => ⟨rfl, ?_⟩⟩
  have J := (I5.pins_of (pins' := []) (fun p hp => absurd hp (by simp))).write (t' := s4.toks) (x := a) (e := a) (o := exo a C none) (by rw [ea]; exact True.intro) (.inl rfl) k5 ⟨_, hx⟩ (exo_ok hx)
  have eu : upd H4 a (exo a C none) = H4 := by
    funext b
    by_cases hb : b = a
    · rw [hb, upd_same, ea]
    · rw [upd_ne hb]
  rw [eu] at J
  exact J
/-- the def, its body being super().__init__(e, ..) and a rest -/
theorem err_ok {k : Nat} {e₀ : Expr} {es : List Expr} {p0 p1 p2 pos pos' : Pos} {rest : List Stmt} {ta : TA} {tr : TS} {pl : Sem Bool} {ar : Arg}
    (EK : ErrK P K mg C f name qual params (.Expr (.Call (.Attribute (.Call (.Name "super" p0) [] [] p1) "__init__" p2) (e₀ :: es) [] pos) pos' :: rest) scope fd) (S : ScopeS ps scope)
    (hp : (params.posonlyargs ++ params.args).head? = some ar) (h0 : ps[0]? = some ar.arg)
    (ha : ∀ cd cc A outer s H E, PA (cxS CX P w K mg base ps qual scope f cd cc A outer s H E) (e₀ :: es) ta) (hta : ∀ vs H1, vs.length = ps.length → ta (start ps vs) H1 fun vs H' => vs.length ≤ 1000 ∧ H' = H1)
    (hr : ∀ cd cc A outer s H E, PSs (cxS CX P w K mg base ps qual scope f cd cc A outer s H E) rest tr)
    (hst : ∀ L cd cc, starEach (e₀ :: es) (PySem.W.ksEnv qual scope L f cd cc) = (false, eval e₀ (PySem.W.ksEnv qual scope L f cd cc)) :: starEach es (PySem.W.ksEnv qual scope L f cd cc))
    (hpl : ∀ L cd cc, (backTo pos (starEach es (PySem.W.ksEnv qual scope L f cd cc))).any (·.1) = false)
    (hev : ∀ L cd cc, eval (.Call (.Attribute (.Call (.Name "super" p0) [] [] p1) "__init__" p2) (e₀ :: es) [] pos) (PySem.W.ksEnv qual scope L f cd cc) = (do
      let ov ← attributeBase (.Call (.Name "super" p0) [] [] p1) "__init__" (PySem.W.ksEnv qual scope L f cd cc) (eval (.Call (.Name "super" p0) [] [] p1) (PySem.W.ksEnv qual scope L f cd cc))
      standAt p2.atName
      let (f', first) ← holding [ov] (getMethod ov "__init__" pl)
      callWith pos f' first (backTo pos (starEach (e₀ :: es) (PySem.W.ksEnv qual scope L f cd cc))) [])) :
    FnOk P w K mg base CX (k + 1) f fd ps (fun vs H Q _ => vs.length = ps.length ∧ ∃ a, vs[0]? = some (.ref a) ∧ H a = some (exo a C none) ∧ tr { nx := fun _ H' => Q .non H', rt := Q } (start ps vs) H) := by
  obtain ⟨oc, od, osl, dV, kV, doc, pm, ct, an, cda, cc, ccl, cl, cdd, cld, ccs, csl, vs0, file, tf, cdC, rfl, lk, hcd, lc, hvs, hfile, hcc, hcl⟩ := EK.fn
  refine ⟨fun vs H Q E h => h.1, fun A outer s H args us vs Q E hrm e0 hb r hsp => ?_⟩
  obtain ⟨hl, a, h1, ea, hq⟩ := hsp
  have KX : K.In s.heap := e0.mod.kin.keeps fun b o e => (e0.bs b o e).1
  have lim : s.heap.NoLimit := e0.mod.nolimit.keeps fun b o e => (e0.bs b o e).1
  refine ks_codeAny_call_defAt hrm.depth (KX _ _ lk) rfl lim (PySem.W.codeRec_of KX hcd) rfl hb S.nocell (fun y hy => S.par _ (List.of_mem_zip (show (y.1, y.2) ∈ ps.zip us from hy)).1) (fun h₁ hns hk => ?_) S.co S.gen S.kind
  have I : Inv (cxS CX P w K mg base ps qual scope f (.ref cda) cc A outer s H E) [] (start ps vs) H { s with heap := h₁, toks := s.toks + (ps.zip us).length } := inv_startS S hrm.hd e0 hl r hcc hns hk
  have h1' : (start ps vs)[0]? = some (some (.ref a)) := by
    unfold L2.start
    rw [List.getElem?_append_left (by rw [List.length_map]; exact (List.getElem?_eq_some_iff.mp h1).1), List.getElem?_map, h1]
    rfl
  have fin : ∀ {σ' : L2.St} {H' : Hp} {v : V} {u : Value} {s' : Shared}, Inv (cxS CX P w K mg base ps qual scope f (.ref cda) cc A outer s H E) [] σ' H' s' → RelV v u → Q v H' → CE outer P w H s Q u s' :=
    fun {σ' H' v u s'} J rv q => ⟨v, H', J.os, J.bare, J.base, J.hok, rv, q⟩
  refine ks_wpAt_execs_cons (ks_wpAt_mono (super_stmt EK S lk lc hvs hfile hcc hcl hp h0 I h1' ea (ha _ _ _ _ _ _ _) (hta _ _ hl) (hst _ _ _) (hpl _ _ _) (hev _ _ _)) (fun fl s2 ⟨efl, J⟩ => ?_) fun e s' hs => hs)
  subst efl
  refine _root_.PySem.wpAt_of_wpAny (wpAny_mono ((hr _ _ _ _ _ _ _).run [] _ (start ps vs) H _ J hq) (fun fl s' hs => ?_) fun e s' hs => hs)
  cases fl with
  | ret u =>
    obtain ⟨v, σ', H', J, rv, q⟩ := hs
    exact fin J rv q
  | next =>
    obtain ⟨σ', H', J, q⟩ := hs
    exact fin (v := V.non) (u := Value.none) J rfl q
  | brk =>
    obtain ⟨_, _, _, q⟩ := hs
    exact False.elim q
  | cont =>
    obtain ⟨_, _, _, q⟩ := hs
    exact False.elim q
end

/-! ### self.f as a target, self an error that is being made -/
def gOst (K : PySem.W.Frag) (to : TE) (f : Str) : TG := fun v σ H Q => to σ H fun x H1 => ∃ a C : Addr, x = .ref a ∧ OexC K C ∧ PySem.W.findIn K (.ref C) f = some none ∧
  ((H1 a = some (exo a C none) ∧ ∀ dx, H1 dx = none → dx ≠ a → Q σ (upd (upd H1 dx (exd dx [(f, v)])) a (exo a C (some dx)))) ∨
    ∃ (dx : Addr) (fs : List (Str × V)), H1 a = some (exo a C (some dx)) ∧ H1 dx = some (exd dx fs) ∧ fs.length ≤ 900 ∧ Q σ (upd H1 dx (exd dx ((f, v) :: fs))))
theorem pg_ost {X : Cx} {o : Expr} {f : Str} {pos : Pos} {to : TE} (ho : PE X o to) : PG X (.Attribute o f pos) (gOst X.K to f) := ⟨fun pins s σ H v u Q I r h => by
  rw [PySem.assign_Attribute]
  refine wpAny_bind (wpAny_holding (thn (ho.run pins s σ H _ I h) fun ov s1 ⟨x, H1, I1, rx, a, C, ex, T, hno, q⟩ => ?_))
  cases ex
  cases rx
  refine wpAny_bind (wpAny_standAt (wpAny_bind (wpAny_holding ?_)))
  rcases q with ⟨ea, q⟩ | ⟨dx, fs, ea, ed, hl, q⟩
  · exact ost_new T I1 ea hno r fun dx s' n ne J => wpAny_release ⟨σ, _, J, q dx n ne⟩
  · exact ost_old T I1 ea ed hl hno r fun s' J => wpAny_release ⟨σ, _, J, q⟩⟩
/-- what an error's __init__ keeps: fs the names of its fields -/
def spX (C : Addr) (fs : List Str) : Sp := fun vs H Q _ => ∃ a ws, vs = .ref a :: ws ∧ ws.length = fs.length ∧ H a = some (exo a C none) ∧
  ∀ (H' : Hp) (d : Addr), (∀ b o, b ≠ a → H b = some o → H' b = some o) → H' a = some (exo a C (some d)) → H' d = some (exd d (fs.reverse.zip ws.reverse)) → H d = none → d ≠ a → Q .non H'
abbrev tV1 : TA := tCons (tVar 1) tNil
abbrev tV2 : TA := tCons (tVar 1) (tCons (tVar 2) tNil)
abbrev tV3 : TA := tCons (tVar 1) (tCons (tVar 2) (tCons (tVar 3) tNil))
def tR1 (K : PySem.W.Frag) (f : Str) : TS := tOst K f (tVar 0) (tVar 1)
def tR2 (K : PySem.W.Frag) (f g : Str) : TS := tAsg (tTup tV2) (gTup K 2 (gCons (gOst K (tVar 0) f) (gCons (gOst K (tVar 0) g) gNil)))
def tR3 (K : PySem.W.Frag) (f g h : Str) : TS := tAsg (tTup tV3) (gTup K 3 (gCons (gOst K (tVar 0) f) (gCons (gOst K (tVar 0) g) (gCons (gOst K (tVar 0) h) gNil))))
theorem start_all {ps : List Str} {vs : List V} (l : vs.length = ps.length) : start ps vs = vs.map some := by unfold L2.start; rw [l, Nat.sub_self]; simp
theorem hta1 {ps : List Str} (l : ps.length = 2) : ∀ vs H1, vs.length = ps.length → tV1 (start ps vs) H1 fun vs H' => vs.length ≤ 1000 ∧ H' = H1 := fun vs H1 h => by
  rw [start_all h]
  match vs, h.trans l with
  | [a, b], _ => exact ⟨b, rfl, by simp, rfl⟩
theorem hta2 {ps : List Str} (l : ps.length = 3) : ∀ vs H1, vs.length = ps.length → tV2 (start ps vs) H1 fun vs H' => vs.length ≤ 1000 ∧ H' = H1 := fun vs H1 h => by
  rw [start_all h]
  match vs, h.trans l with
  | [a, b, c], _ => exact ⟨b, rfl, c, rfl, by simp, rfl⟩
theorem hta3 {ps : List Str} (l : ps.length = 4) : ∀ vs H1, vs.length = ps.length → tV3 (start ps vs) H1 fun vs H' => vs.length ≤ 1000 ∧ H' = H1 := fun vs H1 h => by
  rw [start_all h]
  match vs, h.trans l with
  | [a, b, c, d], _ => exact ⟨b, rfl, c, rfl, d, rfl, by simp, rfl⟩
section
variable {K : PySem.W.Frag} {C : Addr} {f g h : Str} {ps : List Str} {vs : List V} {H : Hp} {Q : VK} {E : XK}
theorem spx1 (T : OexC K C) (n1 : PySem.W.findIn K (.ref C) f = some none) (l : ps.length = 2) (s : spX C [f] vs H Q E) :
    vs.length = ps.length ∧ ∃ a, vs[0]? = some (.ref a) ∧ H a = some (exo a C none) ∧ tR1 K f { nx := fun _ H' => Q .non H', rt := Q } (start ps vs) H := by
  obtain ⟨a, ws, rfl, lw, ea, q⟩ := s
  match ws, lw with
  | [w], _ =>
    refine ⟨l.symm, a, rfl, ea, ?_⟩
    rw [start_all (vs := [V.ref a, w]) l.symm]
    refine ⟨w, rfl, .ref a, rfl, a, C, rfl, T, n1, .inl ⟨ea, fun d hd ne => q _ d (fun b o hb e => ?_) upd_same ?_ hd ne⟩⟩
    · rw [upd_ne hb, upd_ne (ne_of_none e hd)]; exact e
    · rw [upd_ne ne, upd_same]; rfl
theorem spx2 (T : OexC K C) (n1 : PySem.W.findIn K (.ref C) f = some none) (n2 : PySem.W.findIn K (.ref C) g = some none) (l : ps.length = 3) (s : spX C [f, g] vs H Q E) :
    vs.length = ps.length ∧ ∃ a, vs[0]? = some (.ref a) ∧ H a = some (exo a C none) ∧ tR2 K f g { nx := fun _ H' => Q .non H', rt := Q } (start ps vs) H := by
  obtain ⟨a, ws, rfl, lw, ea, q⟩ := s
  match ws, lw with
  | [w, x], _ =>
    refine ⟨l.symm, a, rfl, ea, ?_⟩
    rw [start_all (vs := [V.ref a, w, x]) l.symm]
    refine ⟨w, rfl, x, rfl, (show 2 ≤ sizeLine by decide), fun t ht => ?_⟩
    have ta : a ≠ t := ne_of_none ea ht
    refine ⟨t, [w, x], rfl, .inl (.inl upd_same), rfl, w, [x], rfl, .ref a, rfl, a, C, rfl, T, n1, .inl ⟨by rw [upd_ne ta]; exact ea, fun d hd ne => ?_⟩⟩
    have dt : d ≠ t := fun z => by rw [z, upd_same] at hd; cases hd
    have hd' : H d = none := by rw [upd_ne dt] at hd; exact hd
    refine ⟨x, [], rfl, .ref a, rfl, a, C, rfl, T, n2, .inr ⟨d, [(f, w)], upd_same, by rw [upd_ne ne, upd_same], by simp, rfl, q _ d (fun b o hb e => ?_) ?_ upd_same hd' ne⟩⟩
    · rw [upd_ne (ne_of_none e hd'), upd_ne hb, upd_ne (ne_of_none e hd'), upd_ne (ne_of_none e ht)]; exact e
    · rw [upd_ne (Ne.symm ne), upd_same]
theorem spx3 (T : OexC K C) (n1 : PySem.W.findIn K (.ref C) f = some none) (n2 : PySem.W.findIn K (.ref C) g = some none) (n3 : PySem.W.findIn K (.ref C) h = some none) (l : ps.length = 4) (s : spX C [f, g, h] vs H Q E) :
    vs.length = ps.length ∧ ∃ a, vs[0]? = some (.ref a) ∧ H a = some (exo a C none) ∧ tR3 K f g h { nx := fun _ H' => Q .non H', rt := Q } (start ps vs) H := by
  obtain ⟨a, ws, rfl, lw, ea, q⟩ := s
  match ws, lw with
  | [w, x, y], _ =>
    refine ⟨l.symm, a, rfl, ea, ?_⟩
    rw [start_all (vs := [V.ref a, w, x, y]) l.symm]
    refine ⟨w, rfl, x, rfl, y, rfl, (show 3 ≤ sizeLine by decide), fun t ht => ?_⟩
    have ta : a ≠ t := ne_of_none ea ht
    refine ⟨t, [w, x, y], rfl, .inl (.inl upd_same), rfl, w, [x, y], rfl, .ref a, rfl, a, C, rfl, T, n1, .inl ⟨by rw [upd_ne ta]; exact ea, fun d hd ne => ?_⟩⟩
    have dt : d ≠ t := fun z => by rw [z, upd_same] at hd; cases hd
    have hd' : H d = none := by rw [upd_ne dt] at hd; exact hd
    refine ⟨x, [y], rfl, .ref a, rfl, a, C, rfl, T, n2, .inr ⟨d, [(f, w)], upd_same, by rw [upd_ne ne, upd_same], by simp, ?_⟩⟩
    refine ⟨y, [], rfl, .ref a, rfl, a, C, rfl, T, n3, .inr ⟨d, [(g, x), (f, w)], by rw [upd_ne (Ne.symm ne), upd_same], upd_same, by simp, rfl, q _ d (fun b o hb e => ?_) ?_ upd_same hd' ne⟩⟩
    · rw [upd_ne (ne_of_none e hd'), upd_ne (ne_of_none e hd'), upd_ne hb, upd_ne (ne_of_none e hd'), upd_ne (ne_of_none e ht)]; exact e
    · rw [upd_ne (Ne.symm ne), upd_ne (Ne.symm ne), upd_same]
end

/-! ### raise C(e, ..) -/
/-- what the written part says of the error c: its class, its __init__ -/
structure EOk (Γ : Gam) (P : Program) (w : World) (K : PySem.W.Frag) (mg : Str → Option Value) (base : Heap) (c : Nat) (f : Addr) (fd : FuncData) (ps : List Str) : Prop where
  T : OexC K (Γ.eA c)
  at_ : PySem.W.findIn K (.ref (Γ.eA c)) "__init__" = some (some (.ref f))
  ty : PySem.W.typeIn K (.ref f) = some (.type "function")
  bd : Binds K fd ps []
  fn : FnOk P w K mg base (L2.CX P w) 1 f fd ps (spX (Γ.eA c) (en c).reverse)
def dRaise (c : Nat) (fa : FA) : FS := fun ρ M => (fa ρ M).sbind ρ fun ds M => if ds.length = (en c).length ∧ ds.length ≤ 1000 then .ex c ds.reverse ρ M else .bad
section
variable {X : Cx} {Γ : Gam} {W : WX}
theorem St2.layLe {Θ : Ent} {as : List Addr} {G H H' : Hp} {M : List MO} (S : St2 Γ Θ as G M H) (l : Le H H') {p : Addr} {o : HO} (n : H p = none) (e : H' p = some o) : St2 Γ (DL.now H as G) as (upd G p o) M H' := by
  have fr := S.sub.free n
  refine ⟨fun a u h => ?_, Le.new fr, List.prefix_refl _, fun _ h => h, fun a u h _ => l a u h, fun a u h => ⟨u, l a u h⟩, fun a u h => ?_, S.len, S.nd, fun k a m h1 h2 h3 => ?_, fun _ h => .inl h, fun a h => ?_⟩
  · by_cases ap : a = p
    · subst ap; rw [upd_same] at h; cases h; exact e
    · rw [upd_ne ap] at h; exact l a u (S.sub a u h)
  · by_cases ap : a = p
    · subst ap; exact .inr (.inl n)
    · rw [upd_ne ap] at h; exact .inl h
  · obtain ⟨c1, ⟨u, c2⟩, c3⟩ := S.cel k a m h1 h2 h3
    have ap : a ≠ p := ne_of_none c2 n
    exact ⟨by rw [upd_ne ap]; exact c1, ⟨u, l a u c2⟩, c3.mono (Le.new fr) (List.prefix_refl _) ((l a u c2).trans c2.symm)⟩
  · obtain ⟨o', e'⟩ := S.ain a h
    exact ⟨o', l a o' e'⟩
theorem q_raise {c : Nat} {f : Addr} {fd : FuncData} {ps : List Str} {x : Str} {p pos pos2 : Pos} {e : Expr} {es : List Expr} {fa : FA} (EK : EOk Γ X.prog X.w X.K X.mg X.base c f fd ps) (hc : X.calm = true) (tk : Takes X W) (hr : Room 2 X.A) (hg : Gl X x) (hm : X.mg x = some (.ref (Γ.eA c))) (ha : PA X (e :: es) (tA Γ W fa))
    (hdb : (x == ("__debug__" : Str)) = false := by decide) (he : starEach (e :: es) X.env = (false, eval e X.env) :: starEach es X.env := by rfl) (hpl : (backTo pos (starEach es X.env)).any (·.1) = false := by rfl) :
    PS X (.Raise (some (.Call (.Name x p) (e :: es) [] pos)) none pos2) (tS Γ W (dRaise c fa)) := PS.imp (ps_raise hc tk (pmk_oex (CX := L2.CX X.prog X.w) (ds := []) (dvs := []) EK.T EK.at_ EK.ty EK.fn hr EK.bd .nil (passes_call tk fun _ _ _ _ z => z.elim) hg hm ha hdb he hpl)) fun D σ H ⟨Θ, as, G, M, ρ, S, q⟩ => by
  refine ⟨Θ, as, G, M, ρ, S, (PostS.bindA q).imp (Le.refl _) (List.prefix_refl _) ?_⟩
  rintro vs H1 ⟨ds, M1, as1, G1, S1, e1, p1, r, q1⟩
  split at q1
  · rename_i hl
    refine ⟨by rw [← r.length]; exact hl.2, fun a na => ?_⟩
    refine ⟨a, vs, by rw [List.append_nil], by rw [← r.length, hl.1, List.length_reverse], upd_same, fun H2 d kp ea ed hd ne => ⟨rfl, d, _, ea, ed, ?_, ?_⟩⟩
    · rw [upd_ne ne] at hd; exact hd
    have hd1 : H1 d = none := by rw [upd_ne ne] at hd; exact hd
    rw [List.reverse_reverse] at ed ⊢
    have l3 : Le H1 (upd (del H2 a) d (.xd ((en c).zip vs.reverse))) := fun b o z => by
      rw [upd_ne (ne_of_none z hd1), del_ne (ne_of_none z na)]
      exact kp b o (ne_of_none z na) (by rw [upd_ne (ne_of_none z na)]; exact z)
    have S3 := S1.after (S1.toSt2.layLe l3 hd1 upd_same)
    exact q1 _ _ _ _ _ S3 ⟨vs.reverse, upd_same, by rw [List.length_reverse, ← r.length, hl.1], (r.mono (Le.new (S1.sub.free hd1)) (List.prefix_refl _)).reverse⟩
  · exact q1.elim
end
end DL
set_option maxRecDepth 100000
/-! try: .. except C as e: .. -/
namespace DL
open PySem PySem.Spec PyProof.Rows L2

/-! ### the same data, a caught error told -/
section
variable {Γ Γ' : Gam} {as : List Addr} {G : Hp}
mutual
theorem Rep.same (hK : Γ'.K = Γ.K) (hc : Γ'.cA = Γ.cA) : ∀ {d : D} {v : V}, Rep Γ as G d v → Rep Γ' as G d v
  | .non, _, h => h
  | .bl _, _, h => h
  | .int _, _, h => h
  | .str _, _, h => h
  | .tup xs, v, h => by
    obtain ⟨a, vs, e, s, r⟩ := h
    exact ⟨a, vs, e, by rw [hK]; exact s, RepL.same hK hc r⟩
  | .lst xs, v, h => by
    obtain ⟨a, vs, e, s, r⟩ := h
    exact ⟨a, vs, e, s, RepL.same hK hc r⟩
  | .rol xs, v, h => by
    obtain ⟨a, vs, e, s, r⟩ := h
    exact ⟨a, vs, e, by rw [hK]; exact s, RepL.same hK hc r⟩
  | .ins c xs, v, h => by
    obtain ⟨a, dx, vs, e, s, l, r⟩ := h
    exact ⟨a, dx, vs, e, by rw [hc]; exact s, l, RepL.same hK hc r⟩
  | .cel n, v, h => h
theorem RepL.same (hK : Γ'.K = Γ.K) (hc : Γ'.cA = Γ.cA) : ∀ {xs : List D} {vs : List V}, RepL Γ as G xs vs → RepL Γ' as G xs vs
  | [], _, h => h
  | x :: xs, vs, h => by
    obtain ⟨v, ws, e, r, t⟩ := h
    exact ⟨v, ws, e, Rep.same hK hc r, RepL.same hK hc t⟩
end
theorem RepKV.same (hK : Γ'.K = Γ.K) (hc : Γ'.cA = Γ.cA) : ∀ {xs : List (Key × D)} {vs : List (Key × V)}, RepKV Γ as G xs vs → RepKV Γ' as G xs vs
  | [], _, h => h
  | x :: xs, vs, h => by
    obtain ⟨v, ws, e, r, t⟩ := h
    exact ⟨v, ws, e, Rep.same hK hc r, RepKV.same hK hc t⟩
theorem RepM.same (hK : Γ'.K = Γ.K) (hc : Γ'.cA = Γ.cA) {H : Hp} {a : Addr} {m : MO} (h : RepM Γ as G H a m) : RepM Γ' as G H a m := by
  cases m with
  | lst xs => obtain ⟨vs, e, r⟩ := h; exact ⟨vs, e, r.same hK hc⟩
  | dic kvs => obtain ⟨ws, e, r⟩ := h; exact ⟨ws, e, RepKV.same hK hc r⟩
  | obj c ns xs => obtain ⟨dx, vs, e, l, r⟩ := h; exact ⟨dx, vs, by rw [hc]; exact e, l, r.same hK hc⟩
  | dead => exact trivial
theorem XP.same (hK : Γ'.K = Γ.K) (hc : Γ'.cA = Γ.cA) {c : Nat} {xs : List D} {d : Addr} (h : XP Γ as G c xs d) : XP Γ' as G c xs d := by
  obtain ⟨vs, e, l, r⟩ := h
  exact ⟨vs, e, l, r.same hK hc⟩
theorem St2.same {Θ : Ent} {M : List MO} {H : Hp} (hK : Γ'.K = Γ.K) (hc : Γ'.cA = Γ.cA) (S : St2 Γ Θ as G M H) : St2 Γ' Θ as G M H :=
  ⟨S.sub, S.grow, S.ext, S.esub, S.fr, S.pres, S.gfr, S.len, S.nd, fun n a m h1 h2 h3 => let ⟨c1, c2, c3⟩ := S.cel n a m h1 h2 h3; ⟨c1, c2, c3.same hK hc⟩, S.cfr, S.ain⟩
def notExn : Sl → Bool
  | .exn _ _ => false
  | _ => true
theorem RepS.same {H : Hp} {s : Sl} {ov : Option V} (hK : Γ'.K = Γ.K) (hc : Γ'.cA = Γ.cA) (hs : notExn s = true) (h : RepS Γ as G H s ov) : RepS Γ' as G H s ov := by
  cases s with
  | mt => trivial
  | d x => obtain ⟨v, e, r⟩ := h; exact ⟨v, e, r.same hK hc⟩
  | own xs => obtain ⟨a, vs, e, q, r⟩ := h; exact ⟨a, vs, e, q, r.same hK hc⟩
  | obj c ns xs => obtain ⟨a, dx, vs, e, q, l, r⟩ := h; exact ⟨a, dx, vs, e, by rw [hc]; exact q, l, r.same hK hc⟩
  | exn c xs => cases hs
theorem Sta.same {Θ : Ent} {M : List MO} {ρ : List Sl} {σ : L2.St} {H : Hp} (hK : Γ'.K = Γ.K) (hc : Γ'.cA = Γ.cA) (hs : ρ.all notExn = true) (S : Sta Γ Θ as G M ρ σ H) : Sta Γ' Θ as G M ρ σ H :=
  ⟨S.toSt2.same hK hc, S.slen, fun i s ov h1 h2 => (S.env i s ov h1 h2).same hK hc (List.all_eq_true.mp hs s (List.mem_of_getElem? h1)), S.own, S.odj, S.slf⟩
/-- a slot takes what owns nothing -/
theorem Sta.setN {Θ : Ent} {M : List MO} {ρ : List Sl} {σ : L2.St} {H : Hp} (S : Sta Γ Θ as G M ρ σ H) {z : Sl} {ov : Option V} (i : Nat) (hz : (∀ xs, z ≠ .own xs) ∧ ∀ c ns xs, z ≠ .obj c ns xs) (r : RepS Γ as G H z ov) : Sta Γ Θ as G M (ρ.set i z) (σ.set i ov) H := by
  have ow : ∀ j a, Owns (ρ.set i z) (σ.set i ov) j a → Owns ρ σ j a := fun j a ⟨h, e⟩ => by
    by_cases hj : i = j
    · subst hj
      rcases h with ⟨xs, h⟩ | ⟨c, ns, xs, h⟩
      · rw [List.getElem?_set_self'] at h
        cases q : ρ[i]? <;> rw [q] at h <;> simp at h
        exact absurd h (hz.1 xs)
      · rw [List.getElem?_set_self'] at h
        cases q : ρ[i]? <;> rw [q] at h <;> simp at h
        exact absurd h (hz.2 c ns xs)
    · rw [List.getElem?_set_ne hj] at e
      rw [List.getElem?_set_ne hj] at h
      exact ⟨h, e⟩
  refine ⟨S.toSt2, by simp [S.slen], fun j s o h1 h2 => ?_, fun j a o => S.own j a (ow j a o), fun j k a o1 o2 => S.odj j k a (ow j a o1) (ow k a o2), fun j c ns xs a h1 h2 => ?_⟩
  rotate_left
  · by_cases hj : i = j
    · subst hj
      rw [List.getElem?_set_self'] at h1
      cases q : ρ[i]? <;> rw [q] at h1 <;> simp at h1
      exact absurd h1 (hz.2 c ns xs)
    · rw [List.getElem?_set_ne hj] at h1 h2
      exact S.slf j c ns xs a h1 h2
  by_cases hj : i = j
  · subst hj
    rw [List.getElem?_set_self'] at h1 h2
    cases q : ρ[i]? with
    | none => rw [q] at h1; simp at h1
    | some y =>
      cases q2 : σ[i]? with
      | none => rw [q2] at h2; simp at h2
      | some y2 =>
        rw [q] at h1; rw [q2] at h2
        simp at h1 h2
        subst h1; subst h2
        exact r
  · rw [List.getElem?_set_ne hj] at h1 h2
    exact S.env j s o h1 h2
end

/-! ### try -/
/-- the classes of errors: a clause catches its own class alone -/
def XmOk (Γ : Gam) (K : PySem.W.Frag) (es : List Nat) : Prop := ∀ c c0, es.contains c = true → es.contains c0 = true → PySem.W.exmOne K (.ref (Γ.eA c)) (.ref (Γ.eA c0)) = some (decide (c = c0))
/-- behind the suite: the name is gone -/
def unX (i : Nat) : RS → RS
  | .nx ρ M => if (ρ.set i .mt).all notExn then .nx (ρ.set i .mt) M else .bad
  | .bk ρ M => if (ρ.set i .mt).all notExn then .bk (ρ.set i .mt) M else .bad
  | .ct ρ M => if (ρ.set i .mt).all notExn then .ct (ρ.set i .mt) M else .bad
  | .rt d M => .rt d M
  | _ => .bad
def dTryAs (es : List Nat) (c0 i : Nat) (fb fh : FS) : FS := fun ρ M => match fb ρ M with
  | .ex c xs ρ' M' => if es.contains c && es.contains c0 && ρ'.all notExn then (if c = c0 then unX i (fh (ρ'.set i (.exn c xs)) M') else .ex c xs ρ' M') else .bad
  | r => r
abbrev Gam.wx (Γ : Gam) (a : Addr) (c : Nat) (d : Addr) : Gam := { Γ with xa := some (a, c, d) }
theorem GOk.wx {Γ : Gam} (T : GOk Γ) (a : Addr) (c : Nat) (d : Addr) : GOk (Γ.wx a c d) := ⟨T.cls⟩
theorem IsOk.wx {Γ : Gam} {K : PySem.W.Frag} {cs : List Nat} (T : IsOk Γ K cs) (a : Addr) (c : Nat) (d : Addr) : IsOk (Γ.wx a c d) K cs :=
  ⟨T.cl, T.ic, T.ob, T.g1, T.g2, fun τ cl h1 h2 => by
    have e1 : tyVal (Γ.wx a c d) τ = tyVal Γ τ := by cases τ <;> rfl
    have e2 : clVal (Γ.wx a c d) cl = clVal Γ cl := by cases cl <;> rfl
    rw [e1, e2]; exact T.one τ cl h1 h2⟩
def W00 : WX := fun _ _ _ _ => False
section
variable {X : Cx} {Γ : Gam} {W : WX}
/-- the suite's reading -/
def tSui (Γ : Gam) (c0 : Nat) (fh : FS) : Addr → Value → Option Addr → TS := fun a cls d D σ H => ∃ d', d = some d' ∧ cls = .ref (Γ.eA c0) ∧ tS (Γ.wx a c0 d') W00 fh D σ H
theorem q_sui {Y : Cx} {c0 : Nat} {fh : FS} {a : Addr} {cls : Value} {d : Option Addr} {ss : List Stmt} (h : ∀ d', d = some d' → cls = .ref (Γ.eA c0) → PSs Y ss (tS (Γ.wx a c0 d') W00 fh)) : PSs Y ss (tSui Γ c0 fh a cls d) :=
  ⟨fun pins s σ H D I ⟨d', e1, e2, q⟩ => (h d' e1 e2).run pins s σ H D I q⟩
theorem q_tryAs {es : List Nat} {c0 i : Nat} {x n : Str} {body suite : List Stmt} {b₀ : Stmt} {np pos pos' : Pos} {fb fh : FS} (xm : XmOk Γ X.K es) (hs : X.stack = X.env :: X.outer) (hf : X.env.frame = some X.env.locals) (hN : X.N.Nodup) (hi : X.N[i]? = some n) (hln : X.env.kindOf n = some .local)
    (hc : Names X x (.ref (Γ.eA c0))) (tk : Takes X W)
    (hb : ∀ (W' : WX) (pn : List (Addr × Obj)) (xe : Value → Shared → Prop), Takes (X.tr pn xe) W' → PassesOwn (model X.prog X.w) X.A X.env xe → PSs (X.tr pn xe) body (tS Γ W' fb))
    (hsu : ∀ (a : Addr) (oe : Obj) (cls : Value) (d : Option Addr) (pn : List (Addr × Obj)), Zc cls d oe → (∃ vs, oe.data = .fields vs) → PSs (X.suite a ((a, oe) :: pn)) (b₀ :: suite) (tSui Γ c0 fh a cls d)) :
    PS X (.Try body [.ExceptHandler (some (.Name x np)) (some n) (b₀ :: suite) pos'] [] [] pos) (tS Γ W (dTryAs es c0 i fb fh)) := PS.imp (ps_try_as hs hf hN hi hln hc tk hb hsu) fun D σ H ⟨Θ, as, G, M, ρ, S, q⟩ => by
  refine ⟨Θ, as, G, M, ρ, S, ?_⟩
  unfold dTryAs at q
  cases e : fb ρ M with
  | nx ρ' M' => rw [e] at q; exact q
  | rt d' M' => rw [e] at q; exact q
  | bk ρ' M' => rw [e] at q; exact q
  | ct ρ' M' => rw [e] at q; exact q
  | bad => rw [e] at q; exact q.elim
  | ex c xs ρ' M' =>
    rw [e] at q
    dsimp only at q
    split at q
    · rename_i hes
      rw [Bool.and_eq_true, Bool.and_eq_true] at hes
      intro as' G' σ' H' d S' xp
      refine ⟨decide (c = c0), xm c c0 hes.1.1 hes.1.2, fun hyes a na => ?_, fun hno => ?_⟩
      · have hcc : c = c0 := of_decide_eq_true hyes
        subst hcc
        rw [if_pos rfl] at q
        have S2 : Sta (Γ.wx a c d) Θ as' G' M' ρ' σ' H' := Sta.same (Γ := Γ) (Γ' := Γ.wx a c d) rfl rfl hes.2 S'
        have x2 : XP (Γ.wx a c d) as' G' c xs d := XP.same (Γ := Γ) (Γ' := Γ.wx a c d) rfl rfl xp
        have n1 : (∀ ys, Sl.exn c xs ≠ .own ys) ∧ ∀ k ns ys, Sl.exn c xs ≠ .obj k ns ys := ⟨fun _ z => (nomatch z), fun _ _ _ z => (nomatch z)⟩
        have n2 : (∀ ys, Sl.mt ≠ .own ys) ∧ ∀ k ns ys, Sl.mt ≠ .obj k ns ys := ⟨fun _ z => (nomatch z), fun _ _ _ z => (nomatch z)⟩
        have back : ∀ {as2 : List Addr} {G2 : Hp} {M2 : List MO} {ρ2 : List Sl} {σ2 : L2.St} {H2 : Hp}, Sta (Γ.wx a c d) Θ as2 G2 M2 ρ2 σ2 H2 → (ρ2.set i .mt).all notExn = true → Sta Γ Θ as2 G2 M2 (ρ2.set i .mt) (σ2.set i none) H2 :=
          fun S3 ha => Sta.same (Γ := Γ.wx a c d) (Γ' := Γ) rfl rfl ha (S3.setN i (z := .mt) (ov := none) n2 trivial)
        refine ⟨d, rfl, rfl, Θ, as', G', M', ρ'.set i (.exn c xs), ?_, ?_⟩
        · exact S2.setN i n1 ⟨a, d, rfl, rfl, x2⟩
        · unfold unX at q
          cases e2 : fh (ρ'.set i (.exn c xs)) M' with
          | nx ρ2 M2 =>
            rw [e2] at q
            dsimp only at q
            split at q
            · rename_i ha
              exact fun as2 G2 σ2 H2 S3 => q _ _ _ _ (back S3 ha)
            · exact q.elim
          | bk ρ2 M2 =>
            rw [e2] at q
            dsimp only at q
            split at q
            · rename_i ha
              exact fun as2 G2 σ2 H2 S3 => q _ _ _ _ (back S3 ha)
            · exact q.elim
          | ct ρ2 M2 =>
            rw [e2] at q
            dsimp only at q
            split at q
            · rename_i ha
              exact fun as2 G2 σ2 H2 S3 => q _ _ _ _ (back S3 ha)
            · exact q.elim
          | rt d2 M2 =>
            rw [e2] at q
            exact fun as2 G2 H2 v S3 r2 => q _ _ _ _ (St2.same (Γ := Γ.wx a c d) (Γ' := Γ) rfl rfl S3) (Rep.same (Γ := Γ.wx a c d) (Γ' := Γ) rfl rfl r2)
          | ex c2 xs2 ρ2 M2 => rw [e2] at q; exact q.elim
          | bad => rw [e2] at q; exact q.elim
      · have hcc : c ≠ c0 := of_decide_eq_false hno
        rw [if_neg hcc] at q
        exact q _ _ _ _ _ S' xp
    · exact q.elim
/-- e.f in the suite -/
def dXf (i : Nat) (f : Str) : FE := fun ρ M => match ρ[i]? with
  | some (.exn c xs) => ofOpt (((en c).zip xs).lookup f) M
  | _ => .bad
theorem q_xf {a d' : Addr} {c0 : Nat} {oe : Obj} {cls : Value} {d : Option Addr} {pn : List (Addr × Obj)} {e : Expr} {i : Nat} {pos : Pos} {f : Str} (T : XfC X.K (Γ.eA c0)) (hno : PySem.W.findIn X.K (.ref (Γ.eA c0)) f = some none) (hz : Zc cls d oe) (hf : ∃ vs, oe.data = .fields vs)
    (hd : d = some d') (hcl : cls = .ref (Γ.eA c0)) (he : PE (X.suite a ((a, oe) :: pn)) e (tVar i)) (hb : attributeBase e f X.env (eval e X.env) = eval e X.env := by rfl) :
    PE (X.suite a ((a, oe) :: pn)) (.Attribute e f pos) (tE (Γ.wx a c0 d') W00 (dXf i f)) := PE.imp (pe_xf T hno hz hf he hb) fun σ H Q ⟨Θ, as, G, M, ρ, S, q⟩ => by
  unfold dXf at q
  split at q
  · rename_i c xs hi
    unfold ofOpt at q
    split at q
    · rename_i y hy
      have hl : i < σ.length := by
        rw [← S.slen]
        exact (List.getElem?_eq_some_iff.mp hi).1
      obtain ⟨a2, d2, e1, e2, vs, e3, l3, r3⟩ := S.env i _ _ hi (List.getElem?_eq_getElem hl)
      cases e2
      obtain ⟨w, hw, rw'⟩ := zip_look r3 hy
      refine ⟨.ref a, by rw [List.getElem?_eq_getElem hl, e1], rfl, hcl, d', _, w, hd, S.sub _ _ e3, hw, q _ _ _ _ S (Le.refl _) (List.prefix_refl _) rw'⟩
    · exact q.elim
  · exact q.elim
end
end DL
set_option maxRecDepth 100000
/-! Texts, slices, in, max, sum, op=. -/
namespace DL
open PySem PySem.Spec PyProof.Rows L2

section
variable {X : Cx} {Γ : Gam} {W : WX}
/-! ### slices -/
def cutD {α : Type} (xs : List α) (lo hi : Option Int) : List α := (xs.drop (HT.sIx xs.length 0 lo)).take (HT.sIx xs.length xs.length hi - HT.sIx xs.length 0 lo)
def cutStr (z : Str) (lo hi : Option Int) : Str := ⟨(cutD z.cps.toList lo hi).toArray⟩
def opI : D → Option (Option Int)
  | .non => some none
  | .int i => some (some i)
  | _ => none
def sliceD (x l u : D) (M : List MO) : R D := match opI l, opI u with
  | some l, some u => match x with
    | .str z => if szOk z.length then .ok (.str (cutStr z l u)) M else .bad
    | .lst xs => .ok (.lst (cutD xs l u)) M
    | .rol xs => .ok (.lst (cutD xs l u)) M
    | .tup xs => .ok (.tup (cutD xs l u)) M
    | _ => .bad
  | _, _ => .bad
def dSlice (fe fl fu : FE) : FE := fun ρ M => (fe ρ M).bind fun x M => (fl ρ M).bind fun l M => if (opI l).isSome then (fu ρ M).bind fun u M => sliceD x l u M else .bad
/-- an int -/
def dInt (f : FE) : FE := fun ρ M => (f ρ M).bind fun d M => match d with
  | .int i => .ok (.int i) M
  | _ => .bad
structure QO (X : Cx) (Γ : Gam) (W : WX) (lo : Option Expr) (fl : FE) : Prop where
  run : ∃ tl, PO X lo tl ∧ ∀ σ H Q, (tE Γ W fl σ H fun x H1 => (x = .non ∧ Q none H1) ∨ ∃ i, x = .int i ∧ Q (some i) H1) → tl σ H Q
theorem qp_none : QO X Γ W none (dC .non) := ⟨⟨_, po_none, fun σ H Q ⟨Θ, as, G, M, ρ, S, q⟩ => by
  have z := q _ _ _ .non S (Le.refl _) (List.prefix_refl _) rfl
  rcases z with ⟨_, z⟩ | ⟨i, e, _⟩
  · exact z
  · cases e⟩⟩
theorem qp_some {e : Expr} {f : FE} (h : PE X e (tE Γ W f)) : QO X Γ W (some e) (dInt f) := ⟨⟨_, po_some h, fun σ H Q ⟨Θ, as, G, M, ρ, S, q⟩ => by
  refine ⟨Θ, as, G, M, ρ, S, (PostE.bindE q).imp (Le.refl _) (List.prefix_refl _) ?_⟩
  rintro x H1 ⟨d, M1, as1, G1, S1, e1, p1, r, q1⟩
  split at q1
  · cases r
    rcases q1 _ _ _ (.int _) S1 (Le.refl _) (List.prefix_refl _) rfl with ⟨z, _⟩ | z
    · cases z
    · exact z
  · exact q1.elim⟩⟩
theorem cutD_rep {as : List Addr} {G : Hp} {xs : List D} {vs : List V} (r : RepL Γ as G xs vs) (l u : Option Int) : RepL Γ as G (cutD xs l u) (cutV vs l u) := by
  unfold cutD cutV
  rw [← r.length]
  exact (r.drop _).take _
theorem cut_whole {xs : List D} {l u : Option Int} (h1 : HT.sIx xs.length 0 l = 0) (h2 : HT.sIx xs.length xs.length u = xs.length) : cutD xs l u = xs := by
  unfold cutD
  rw [h1, h2]
  simp
theorem q_slice {e : Expr} {lo hi : Option Expr} {p2 pos : Pos} {fe fl fu : FE} (hK : Γ.K = X.K) (he : PE X e (tE Γ W fe)) (hl : QO X Γ W lo fl) (hu : QO X Γ W hi fu) :
    PE X (.Subscript e (.Slice lo hi none p2) pos) (tE Γ W (dSlice fe fl fu)) := by
  obtain ⟨tl, pl, rl⟩ := hl.run
  obtain ⟨tu, pu, ru⟩ := hu.run
  refine PE.imp (pe_slice (SlR.or sl_str (SlR.or sl_list sl_tupA)) he pl pu) fun σ H Q ⟨Θ, as, G, M, ρ, S, q⟩ => ?_
  refine ⟨Θ, as, G, M, ρ, S, (PostE.bindE q).imp (Le.refl _) (List.prefix_refl _) ?_⟩
  rintro x H1 ⟨d, M1, as1, G1, S1, e1, p1, r, q1⟩
  refine rl _ _ _ ⟨Θ, as1, G1, M1, ρ, S1, (PostE.bindE q1).imp (Le.refl _) (List.prefix_refl _) ?_⟩
  rintro vl H2 ⟨dl, M2, as2, G2, S2, e2, p2, rl', q2⟩
  split at q2
  rotate_left
  · exact q2.elim
  rename_i hdl
  have fin : ∀ o : Option Int, opI dl = some o → tu σ H2 fun u H3 => (fun x lo hi H Q => rSlS x lo hi H Q ∨ rSlL X.K x lo hi H Q ∨ rSlA X.K x lo hi H Q) x o u H3 Q := fun o ho => by
    refine ru _ _ _ ⟨Θ, as2, G2, M2, ρ, S2, (PostE.bindE q2).imp (Le.refl _) (List.prefix_refl _) ?_⟩
    rintro vu H3 ⟨du, M3, as3, G3, S3, e3, p3, ru', q3⟩
    have r3 := (r.mono e2 p2).mono e3 p3
    have go : ∀ o2 : Option Int, opI du = some o2 → (fun x lo hi H Q => rSlS x lo hi H Q ∨ rSlL X.K x lo hi H Q ∨ rSlA X.K x lo hi H Q) x o o2 H3 Q := fun o2 ho2 => by
      unfold sliceD at q3
      rw [ho, ho2] at q3
      dsimp only at q3
      cases d with
      | str z =>
        dsimp only at q3
        cases r3
        split at q3
        · rename_i hz
          exact .inl ⟨z, rfl, szOk_le hz, by
            have e : cutStr z o o2 = cutS z o o2 := by
              unfold cutStr cutD cutS
              rw [Array.length_toList]
              rfl
            rw [← e]
            exact got S3 q3 rfl⟩
        · exact q3.elim
      | lst xs =>
        obtain ⟨a, vs, rfl, s, rr⟩ := r3
        exact .inr (.inl ⟨a, vs, rfl, .inl (.inl (S3.sub _ _ s)), fun p n => keepsNewLst S3 (cutD_rep rr o o2) q3 n⟩)
      | rol xs =>
        obtain ⟨a, vs, rfl, s, rr⟩ := r3
        rw [hK] at s
        exact .inr (.inl ⟨a, vs, rfl, S3.sub.sl s, fun p n => keepsNewLst S3 (cutD_rep rr o o2) q3 n⟩)
      | tup xs =>
        have r4 := r3
        obtain ⟨a, vs, rfl, s, rr⟩ := r3
        have s' := s
        rw [hK] at s
        refine .inr (.inr ⟨a, vs, rfl, S3.sub.st s, fun hw => ?_, fun _ p n => keepsNewTup S3 (cutD_rep rr o o2) q3 n⟩)
        rw [← rr.length] at hw
        dsimp only at q3
        rw [cut_whole hw.1 hw.2] at q3
        exact got S3 q3 r4
      | _ => exact q3.elim
    cases du with
    | non => cases ru'; exact .inl ⟨rfl, go _ rfl⟩
    | int i => cases ru'; exact .inr ⟨i, rfl, go _ rfl⟩
    | _ => (unfold sliceD at q3; rw [ho] at q3; exact q3.elim)
  cases dl with
  | non => cases rl'; exact .inl ⟨rfl, fin _ rfl⟩
  | int i => cases rl'; exact .inr ⟨i, rfl, fin _ rfl⟩
  | _ => cases hdl

/-! ### in -/
def flatD : D → Bool
  | .non => true
  | .bl _ => true
  | .int _ => true
  | .str _ => true
  | _ => false
def toV : D → V
  | .bl b => .bl b
  | .int i => .int i
  | .str s => .str s
  | _ => .non
theorem toV_of {as : List Addr} {G : Hp} {d : D} {v : V} (h : flatD d = true) (r : Rep Γ as G d v) : v = toV d := by
  cases d <;> first | exact r | cases h
theorem flat_of {d : D} (h : flatD d = true) : flatV (toV d) = true := by
  cases d <;> first | rfl | cases h
theorem toVs_of {as : List Addr} {G : Hp} : ∀ {xs : List D} {vs : List V}, xs.all flatD = true → RepL Γ as G xs vs → vs = xs.map toV
  | [], _, _, r => r
  | x :: xs, vs, h, r => by
    rw [List.all_cons, Bool.and_eq_true] at h
    obtain ⟨v, ws, rfl, r1, r2⟩ := r
    rw [List.map_cons, toV_of h.1 r1, toVs_of h.2 r2]
theorem flats_of : ∀ {xs : List D}, xs.all flatD = true → (xs.map toV).all flatV = true
  | [], _ => rfl
  | x :: xs, h => by
    rw [List.all_cons, Bool.and_eq_true] at h
    rw [List.map_cons, List.all_cons, flat_of h.1, flats_of h.2]; rfl
def inList (x : D) (xs : List D) (M : List MO) (neg : Bool) : R D := if flatD x && xs.all flatD then .ok (.bl (if neg then !(inV (toV x) (xs.map toV)) else inV (toV x) (xs.map toV))) M else .bad
def inD (neg : Bool) : D → D → List MO → R D
  | x, .tup xs, M => inList x xs M neg
  | x, .lst xs, M => inList x xs M neg
  | x, .rol xs, M => inList x xs M neg
  | .str i, .str z, M => match i.cps.toList with
    | [c] => .ok (.bl (if neg then !decide (c ∈ z.cps.toList) else decide (c ∈ z.cps.toList))) M
    | _ => .bad
  | _, _, _ => .bad
def rInAll (K : PySem.W.Frag) (neg : Bool) : R2 := fun x y H Q => rIn K neg x y H Q ∨ ∃ (c : Nat) (z : Str), x = .str ⟨#[c]⟩ ∧ y = .str z ∧ Q (.bl (if neg then !decide (c ∈ z.cps.toList) else decide (c ∈ z.cps.toList))) H
theorem op_inD : OpR X (compareOp .In) (rInAll X.K false) := DL.OpR.or op_in_seq op_in_sign
theorem op_notInD : OpR X (compareOp .NotIn) (rInAll X.K true) := DL.OpR.or op_notIn_seq op_notIn_sign
theorem k_inD {neg : Bool} (hK : Γ.K = X.K) : Keeps2 Γ W (fun _ => rInAll X.K neg) (inD neg) := by
  intro Θ ρ σ as G M H a b x y Q S ra rb q
  have go : ∀ {xs : List D} {vs : List V} {p : Addr}, RepL Γ as G xs vs → y = .ref p → (SqL X.K H p vs ∨ SqT X.K H p vs) → PostE Γ Θ W ρ σ as G Q (inList a xs M neg) → rInAll X.K neg x y H Q := fun {xs vs p} rr ey sq q => by
    unfold inList at q
    split at q
    · rename_i hz
      rw [Bool.and_eq_true] at hz
      refine .inl ⟨p, vs, ey, sq, ?_, ?_, ?_⟩
      · rw [toV_of hz.1 ra]; exact flat_of hz.1
      · rw [toVs_of hz.2 rr]; exact flats_of hz.2
      · rw [toV_of hz.1 ra, toVs_of hz.2 rr]; exact got S q rfl
    · exact q.elim
  cases b with
  | tup xs =>
    obtain ⟨p, vs, e, s, rr⟩ := rb
    rw [hK] at s
    cases a <;> exact go rr e (.inr (S.sub.st s)) q
  | lst xs =>
    obtain ⟨p, vs, e, s, rr⟩ := rb
    cases a <;> exact go rr e (.inl (.inl (.inl (S.sub _ _ s)))) q
  | rol xs =>
    obtain ⟨p, vs, e, s, rr⟩ := rb
    rw [hK] at s
    cases a <;> exact go rr e (.inl (S.sub.sl s)) q
  | str z =>
    cases a with
    | str i =>
      unfold inD at q
      dsimp only at q
      split at q
      · rename_i c hc
        cases ra; cases rb
        have e : i = ⟨#[c]⟩ := by
          cases i with
          | mk cps =>
            have hc : cps.toList = [c] := hc
            have : cps = #[c] := by rw [← Array.toArray_toList (xs := cps), hc]
            rw [this]
        exact .inr ⟨c, z, by rw [e], rfl, got S q rfl⟩
      · exact q.elim
    | _ => exact q.elim
  | _ => cases a <;> exact q.elim

/-! ### built-in functions -/
def intD2 : List D → List MO → R D
  | [.str a], M => if a.length ≤ 640 then (match PySem.intText? a with
    | some n => .ok (.int n) M
    | none => .bad) else .bad
  | ds, M => intD ds M
def rIntAll : List V → Hp → VK → Prop := fun xs H Q => ((∃ i, xs = [.int i] ∧ Q (.int i) H) ∨ ∃ k, xs = [.bl k] ∧ Q (.int (if k then 1 else 0)) H) ∨ ∃ a n, xs = [.str a] ∧ PySem.intText? a = some n ∧ a.length ≤ 640 ∧ Q (.int n) H
theorem call_intAll : CallR X (.type "int") rIntAll := CallR.or call_int1 call_int_str
theorem ka_intAll : KeepsA Γ W rIntAll intD2 := by
  intro Θ ρ σ as G M H ds vs Q S r q
  unfold intD2 at q
  split at q
  · split at q
    · rename_i hz
      obtain ⟨v, rfl, h⟩ := one_rep r
      cases h
      split at q
      · rename_i n hn
        exact .inr ⟨_, n, rfl, hn, hz, got S q rfl⟩
      · exact q.elim
    · exact q.elim
  · exact .inl (ka_int Θ ρ σ as G M H _ vs Q S r q)
def strD : List D → List MO → R D
  | [.int i], M => if i.natAbs.log2 < 1920 then .ok (.str (toString i)) M else .bad
  | _, _ => .bad
theorem ka_str : KeepsA Γ W (fun xs H Q => ∃ i : Int, xs = [.int i] ∧ i.natAbs.log2 < 1920 ∧ Q (.str (toString i)) H) strD := by
  intro Θ ρ σ as G M H ds vs Q S r q
  unfold strD at q
  split at q
  · split at q
    · rename_i hz
      obtain ⟨v, rfl, h⟩ := one_rep r
      cases h
      exact ⟨_, rfl, hz, got S q rfl⟩
    · exact q.elim
  · exact q.elim
def intsD : List D → Option (List Int)
  | [] => some []
  | .int i :: xs => (intsD xs).map (i :: ·)
  | _ => none
theorem ints_rep {as : List Addr} {G : Hp} : ∀ {xs : List D} {ns : List Int} {vs : List V}, intsD xs = some ns → RepL Γ as G xs vs → vs = ns.map V.int
  | [], ns, vs, e, r => by cases e; exact r
  | x :: xs, ns, vs, e, r => by
    obtain ⟨v, ws, rfl, r1, r2⟩ := r
    cases x with
    | int i =>
      unfold intsD at e
      cases q : intsD xs with
      | none => rw [q] at e; cases e
      | some ms =>
        rw [q] at e
        cases e
        cases r1
        rw [ints_rep q r2]; rfl
    | _ => cases e
def maxL : Int → List Int → Int
  | m, [] => m
  | m, n :: ns => maxL (if n > m then n else m) ns
theorem maxL_ge : ∀ {ns : List Int} {m : Int}, m ≤ maxL m ns ∧ ∀ y ∈ ns, y ≤ maxL m ns
  | [], m => ⟨Int.le_refl _, fun _ h => by cases h⟩
  | n :: ns, m => by
    unfold maxL
    by_cases h : n > m
    · rw [if_pos h]
      obtain ⟨h1, h2⟩ := maxL_ge (ns := ns) (m := n)
      exact ⟨by omega, fun y hy => (List.mem_cons.mp hy).elim (fun e => by rw [e]; exact h1) (h2 y)⟩
    · rw [if_neg h]
      obtain ⟨h1, h2⟩ := maxL_ge (ns := ns) (m := m)
      exact ⟨h1, fun y hy => (List.mem_cons.mp hy).elim (fun e => by rw [e]; omega) (h2 y)⟩
theorem maxL_mem : ∀ {ns : List Int} {m : Int}, maxL m ns = m ∨ maxL m ns ∈ ns
  | [], m => .inl rfl
  | n :: ns, m => by
    unfold maxL
    rcases maxL_mem (ns := ns) (m := if n > m then n else m) with e | e
    · by_cases h : n > m
      · rw [if_pos h] at e ⊢; exact .inr (by rw [e]; exact List.mem_cons_self)
      · rw [if_neg h] at e ⊢; exact .inl e
    · exact .inr (List.mem_cons_of_mem _ e)
def maxD : List D → List MO → R D
  | [.lst xs], M => match intsD xs with
    | some (n :: ns) => .ok (.int (maxL n ns)) M
    | _ => .bad
  | _, _ => .bad
theorem ka_max (hK : Γ.K = X.K) : KeepsA Γ W (rMax X.K) maxD := by
  intro Θ ρ σ as G M H ds vs Q S r q
  unfold maxD at q
  split at q
  · split at q
    · rename_i n ns hn
      obtain ⟨v, rfl, a, ws, rfl, s, rr⟩ := one_rep r
      have e := ints_rep hn rr
      subst e
      refine ⟨a, n :: ns, rfl, .inl (.inl (S.sub _ _ s)), by simp, fun m hm hle => ?_⟩
      obtain ⟨h1, h2⟩ := maxL_ge (ns := ns) (m := n)
      have em : m = maxL n ns := by
        have a1 : m ≤ maxL n ns := by
          rcases List.mem_cons.mp hm with z | z
          · rw [z]; exact h1
          · exact h2 m z
        have a2 : maxL n ns ≤ m := by
          rcases maxL_mem (ns := ns) (m := n) with z | z
          · rw [z]; exact hle n List.mem_cons_self
          · exact hle _ (List.mem_cons_of_mem _ z)
        omega
      rw [em]
      exact got S q rfl
    · exact q.elim
  · exact q.elim
def sumD : List D → List MO → R D
  | [.lst xs], M => match intsD xs with
    | some ns => .ok (.int ns.sum) M
    | _ => .bad
  | _, _ => .bad
theorem ka_sum (hK : Γ.K = X.K) : KeepsA Γ W (rSum X.K) sumD := by
  intro Θ ρ σ as G M H ds vs Q S r q
  unfold sumD at q
  split at q
  · split at q
    · rename_i ns hn
      obtain ⟨v, rfl, a, ws, rfl, s, rr⟩ := one_rep r
      have e := ints_rep hn rr
      subst e
      exact ⟨a, ns, rfl, .inl (.inl (S.sub _ _ s)), got S q rfl⟩
    · exact q.elim
  · exact q.elim

/-! ### methods of texts -/
def dStr1 (g : Str → Str → List MO → R D) (fo fe : FE) : FE := fun ρ M => (fo ρ M).bind fun d M => match d with
  | .str a => (fe ρ M).bind fun e M => match e with
    | .str b => g a b M
    | _ => .bad
  | _ => .bad
theorem q_str1 {id : String} {name : Str} {apos pos : Pos} {r : V → List V → Hp → VK → Prop} {g : Str → Str → List MO → R D} {o e : Expr} {fo fe : FE} (slot : Slot "str" name id) (ty : typeOf (.builtin id) = pure (.type "method_descriptor")) (rule : MtR X id r)
    (k : ∀ Θ ρ σ as G M H a b Q, Sta Γ Θ as G M ρ σ H → PostE Γ Θ W ρ σ as G Q (g a b M) → r (.str a) [.str b] H Q) (ho : PE X o (tE Γ W fo)) (he : PE X e (tE Γ W fe))
    (hs : starEach [e] X.env = [(false, eval e X.env)] := by rfl) (hbase : attributeBase o name X.env (eval o X.env) = eval o X.env := by rfl) (hline : (apos.endLine == pos.line) = true := by rfl) :
    PE X (.Call (.Attribute o name apos) [e] [] pos) (tE Γ W (dStr1 g fo fe)) := PE.imp (pe_m1 slot ty rule ho he hs hbase hline) fun σ H Q ⟨Θ, as, G, M, ρ, S, q⟩ => by
  refine ⟨Θ, as, G, M, ρ, S, (PostE.bindE q).imp (Le.refl _) (List.prefix_refl _) ?_⟩
  rintro x H1 ⟨d, M1, as1, G1, S1, e1, p1, r1, q1⟩
  split at q1
  · cases r1
    refine ⟨⟨_, rfl⟩, Θ, as1, G1, M1, ρ, S1, (PostE.bindE q1).imp (Le.refl _) (List.prefix_refl _) ?_⟩
    rintro y H2 ⟨d2, M2, as2, G2, S2, e2, p2, r2, q2⟩
    split at q2
    · cases r2
      exact k _ _ _ _ _ _ _ _ _ _ S2 q2
    · exact q2.elim
  · exact q1.elim
def splitD (a b : Str) (M : List MO) : R D := if (b.length == 0) = false ∧ szOk (a.length + 2) then .ok (.lst ((Txt.split a b).map .str)) M else .bad
theorem strs_rep {as : List Addr} {G : Hp} : ∀ ys : List Str, RepL Γ as G (ys.map D.str) (ys.map V.str)
  | [] => RepL.nil
  | y :: ys => RepL.cons rfl (strs_rep ys)
theorem q_split {apos pos : Pos} {o e : Expr} {fo fe : FE} (ho : PE X o (tE Γ W fo)) (he : PE X e (tE Γ W fe))
    (hs : starEach [e] X.env = [(false, eval e X.env)] := by rfl) (hbase : attributeBase o "split" X.env (eval o X.env) = eval o X.env := by rfl) (hline : (apos.endLine == pos.line) = true := by rfl) :
    PE X (.Call (.Attribute o "split" apos) [e] [] pos) (tE Γ W (dStr1 splitD fo fe)) := q_str1 PySem.F.slot_str_split PySem.F.type_str_split mt_split (fun Θ ρ σ as G M H a b Q S q => by
  unfold splitD at q
  split at q
  · rename_i hz
    exact ⟨a, b, rfl, rfl, hz.1, szOk_le hz.2, fun p n => keepsNewLst S (strs_rep _) q n⟩
  · exact q.elim) ho he hs hbase hline
def lstripD (a b : Str) (M : List MO) : R D := if szOk a.length then .ok (.str (Txt.lstripChars a b)) M else .bad
theorem q_lstrip {apos pos : Pos} {o e : Expr} {fo fe : FE} (ho : PE X o (tE Γ W fo)) (he : PE X e (tE Γ W fe))
    (hs : starEach [e] X.env = [(false, eval e X.env)] := by rfl) (hbase : attributeBase o "lstrip" X.env (eval o X.env) = eval o X.env := by rfl) (hline : (apos.endLine == pos.line) = true := by rfl) :
    PE X (.Call (.Attribute o "lstrip" apos) [e] [] pos) (tE Γ W (dStr1 lstripD fo fe)) := q_str1 PySem.F.slot_str_lstrip PySem.F.type_str_lstrip mt_lstripChars (fun Θ ρ σ as G M H a b Q S q => by
  unfold lstripD at q
  split at q
  · rename_i hz
    exact ⟨a, b, rfl, rfl, szOk_le hz, got S q rfl⟩
  · exact q.elim) ho he hs hbase hline
/-! tuple(text) -/
def tupleD2 : List D → List MO → R D
  | [.str z], M => if szOk z.length then .ok (.tup (z.cps.toList.map fun c => .str ⟨#[c]⟩)) M else .bad
  | ds, M => tupleD ds M
theorem paired_ix {α β : Type} {R : α → β → Prop} : ∀ {xs : List α} {ys : List β}, xs.length = ys.length → (∀ (i : Nat) (x : α) (y : β), xs[i]? = some x → ys[i]? = some y → R x y) → Paired R xs ys
  | [], [], _, _ => .nil
  | x :: xs, y :: ys, l, h => .cons (h 0 x y rfl rfl) (paired_ix (by simpa using l) fun i a b e1 e2 => h (i + 1) a b (by simpa using e1) (by simpa using e2))
theorem items_sign {x : Str} {acc : Array Value} (h : ItemsOf (SignAt x) acc x.cps.size) : Vals (x.cps.toList.map fun c => V.str ⟨#[c]⟩) acc.toList := by
  refine paired_ix (by rw [List.length_map, Array.length_toList, Array.length_toList, h.1]) fun i a b e1 e2 => ?_
  obtain ⟨c, u, e3, rfl⟩ := h.2 i b (by rw [← Array.getElem?_toList]; exact e2)
  rw [List.getElem?_map, Array.getElem?_toList, e3] at e1
  cases e1
  exact ⟨u, rfl⟩
def rTupStr : List V → Hp → VK → Prop := fun xs H Q => ∃ z : Str, xs = [.str z] ∧ z.length ≤ sizeLine ∧ ∀ p, H p = none → Q (.ref p) (upd H p (.tup (z.cps.toList.map fun c => V.str ⟨#[c]⟩)))
theorem call_tupStr (hc : X.calm = true) : CallR X (.type "tuple") rTupStr := by
  intro pins s σ H xs us Q I r h
  obtain ⟨z, rfl, hz, q⟩ := h
  cases r with
  | cons r1 rs =>
    cases rs
    obtain ⟨t, rfl⟩ := r1
    refine PySem.call_tuple_str (I.ok.hd hc) z t (fun h' tk acc k it => ?_) hz
    have I1 := I.kept (t' := tk) k
    have v := items_sign it
    have hl : (z.cps.toList.map fun c => V.str ⟨#[c]⟩).length ≤ sizeLine := by rw [List.length_map, Array.length_toList]; exact hz
    refine ⟨.ref h'.objs.size, _, I1.laid (t' := tk) (a := h'.objs.size) (o := .tup (z.cps.toList.map fun c => V.str ⟨#[c]⟩)) (fun b o e => Heap.get?_push_of_some _ e) (Nat.le_refl _) ?_, rfl, q _ (I1.hok.fresh (Nat.le_refl _))⟩
    exact ⟨hl, acc.toList, v, _, Heap.get?_push_at rfl rfl, rfl, _, by rw [Array.toArray_toList]⟩
def rTupAll (K : PySem.W.Frag) : List V → Hp → VK → Prop := fun xs H Q => (∃ p ys, xs = [.ref p] ∧ ((SqL K H p ys ∧ ∀ l, H l = none → Q (.ref l) (upd H l (.tup ys))) ∨ (SqT K H p ys ∧ Q (.ref p) H))) ∨ rTupStr xs H Q
theorem call_tupAll (hc : X.calm = true) : CallR X (.type "tuple") (rTupAll X.K) := CallR.or call_tuple_of (call_tupStr hc)
theorem chars_rep {as : List Addr} {G : Hp} : ∀ cs : List Nat, RepL Γ as G (cs.map fun c => D.str ⟨#[c]⟩) (cs.map fun c => V.str ⟨#[c]⟩)
  | [] => RepL.nil
  | c :: cs => RepL.cons rfl (chars_rep cs)
theorem ka_tupAll (hK : Γ.K = X.K) : KeepsA Γ W (rTupAll X.K) tupleD2 := by
  intro Θ ρ σ as G M H ds vs Q S r q
  unfold tupleD2 at q
  split at q
  · split at q
    · rename_i hz
      obtain ⟨v, rfl, h⟩ := one_rep r
      cases h
      exact .inr ⟨_, rfl, szOk_le hz, fun p n => keepsNewTup S (chars_rep _) q n⟩
    · exact q.elim
  · exact .inl (ka_tuple hK Θ ρ σ as G M H _ vs Q S r q)
/-! ### x op= e -/
def dAug (g : D → D → List MO → R D) (i : Nat) (fe : FE) : FS := fun ρ M => match ρ[i]? with
  | some (.d a) => (fe ρ M).sbind ρ fun b M => (g a b M).sbind ρ fun d M => .nx (ρ.set i (.d d)) M
  | _ => .bad
theorem q_aug {i : Nat} {x : Str} {e : Expr} {op : Operator} {pos pos' : Pos} {f : Int → Int → Int} {g : D → D → List MO → R D} {fe : FE} (hN : X.N.Nodup) (hi : X.N[i]? = some x) (hx : Loc X.env.scope x) (he : PE X e (tE Γ W fe)) (ho : PIp X op (ipI f))
    (hg : ∀ a b M, g a b M = match a, b with
      | .int i, .int j => .ok (.int (f i j)) M
      | _, _ => .bad) (hf : X.fn x = true ∨ X.env.scope.names.lookup x = some .local := by first | exact .inl rfl | exact .inr rfl | assumption) :
    PS X (.AugAssign (.Name x pos') op e pos) (tS Γ W (dAug g i fe)) := PS.imp (ps_aug hN hi hx he ho hf) fun D σ H ⟨Θ, as, G, M, ρ, S, q⟩ => by
  unfold dAug at q
  split at q
  · rename_i a ha
    have hl : i < σ.length := by
      rw [← S.slen]
      exact (List.getElem?_eq_some_iff.mp ha).1
    obtain ⟨v, ev, rv⟩ := S.env i _ _ ha (List.getElem?_eq_getElem hl)
    refine ⟨v, by rw [List.getElem?_eq_getElem hl, ev], Θ, as, G, M, ρ, S, (PostS.bindE q).imp (Le.refl _) (List.prefix_refl _) ?_⟩
    rintro y H1 ⟨b, M1, as1, G1, S1, e1, p1, rb, q1⟩
    have ra := rv.mono e1 p1
    rw [hg] at q1
    cases a with
    | int i' =>
      cases b with
      | int j' =>
        cases ra; cases rb
        exact ⟨i', j', rfl, rfl, q1 _ _ _ _ (S1.set i (d := .int (f i' j')) (v := .int (f i' j')) rfl)⟩
      | _ => exact q1.elim
    | _ => cases b <;> exact q1.elim
  · exact q.elim
end
end DL
set_option maxRecDepth 100000
/-! From the facts of the written part to the walk. -/
namespace DL
open PySem PySem.Spec PyProof.Rows L2
/-- a data class -/
structure ClsF (K : PySem.W.Frag) (C : Addr) : Prop where
  cl : Cls K C
  ic : PySem.W.findIn K (.ref C) "__class__" = some (some (.builtin "object.__class__"))
  ob : PySem.W.mroIn K C (.type "object") = some true
  isC : PySem.W.isClsIn K C = true
  ty : PySem.W.typeIn K (.ref C) = some (.type "type")
  b1 : PySem.W.mroIn K C (.type "bool") = some false
  b2 : PySem.W.mroIn K C (.type "int") = some false
  b3 : PySem.W.mroIn K C (.type "str") = some false
  b4 : PySem.W.mroIn K C (.type "tuple") = some false
  b5 : PySem.W.mroIn K C (.type "list") = some false
section
variable {Γ : Gam} {K : PySem.W.Frag}
theorem kit_bb (τ cl : String) (h : (Value.type τ == Value.type cl) = false) (hm : PySem.W.kitMeta cl = true) {b : Bool} (e : PySem.W.subIn K (.type τ) (.type cl) = some b) : PySem.W.kitOne K (.type τ) (.type cl) = some b := by
  unfold PySem.W.kitOne PySem.W.kitCls
  rw [if_neg (by rw [h]; exact Bool.false_ne_true)]
  dsimp only
  rw [if_pos hm, e]
theorem kit_same (v : Value) : PySem.W.kitOne K v v = some true := by
  unfold PySem.W.kitOne
  rw [if_pos (by simp)]
theorem kit_bo (τ : String) {C : Addr} (F : ClsF K C) (e : PySem.W.subIn K (.type τ) (.ref C) = some false) : PySem.W.kitOne K (.type τ) (.ref C) = some false := by
  have h : ¬ ((Value.type τ == Value.ref C) = true) := fun z => by cases beq_iff_eq.mp z
  have h2 : ((PySem.W.clsIn K C).isSome && PySem.W.typeIn K (.ref C) == some (.type "type")) = true := by
    have := F.isC
    unfold PySem.W.isClsIn at this
    rw [this, F.ty]; rfl
  unfold PySem.W.kitOne PySem.W.kitCls
  rw [if_neg h]
  dsimp only
  rw [if_pos h2, e]
theorem kit_ob (cl : String) {C : Addr} (hm : PySem.W.kitMeta cl = true) (e : PySem.W.mroIn K C (.type cl) = some false) : PySem.W.kitOne K (.ref C) (.type cl) = some false := by
  have h : ¬ ((Value.ref C == Value.type cl) = true) := fun z => by cases beq_iff_eq.mp z
  unfold PySem.W.kitOne PySem.W.kitCls
  rw [if_neg h]
  dsimp only
  rw [if_pos hm]
  exact e
theorem kit_oo {C D : Addr} (hne : C ≠ D) (F : ClsF K D) (e : PySem.W.mroIn K C (.ref D) = some false) : PySem.W.kitOne K (.ref C) (.ref D) = some false := by
  have h : ¬ ((Value.ref C == Value.ref D) = true) := fun z => by
    have := beq_iff_eq.mp z
    cases this
    exact hne rfl
  have h2 : ((PySem.W.clsIn K D).isSome && PySem.W.typeIn K (.ref D) == some (.type "type")) = true := by
    have := F.isC
    unfold PySem.W.isClsIn at this
    rw [this, F.ty]; rfl
  unfold PySem.W.kitOne PySem.W.kitCls
  rw [if_neg h]
  dsimp only
  rw [if_pos h2]
  exact e
theorem isOk_of {cs : List Nat} (h : ∀ c, cs.contains c = true → ClsF K (Γ.cA c)) (ap : ∀ c c', cs.contains c = true → cs.contains c' = true → c ≠ c' → Γ.cA c ≠ Γ.cA c' ∧ PySem.W.mroIn K (Γ.cA c) (.ref (Γ.cA c')) = some false)
    (g1 : PySem.W.specialIn K (.builtin "object.__class__") "__get__" = some (some (.builtin "getset_descriptor.__get__"))) (g2 : PySem.W.takesIn K (.builtin "object.__class__") = some true) : IsOk Γ K cs := by
  refine ⟨fun c hc => (h c hc).cl, fun c hc => (h c hc).ic, fun c hc => (h c hc).ob, g1, g2, fun τ cl h1 h2 => ?_⟩
  cases τ with
  | cls c =>
    have F := h c h1
    cases cl with
    | own c' =>
      by_cases e : c = c'
      · subst e
        show PySem.W.kitOne K (.ref (Γ.cA c)) (.ref (Γ.cA c)) = some (c == c)
        rw [kit_same]; simp
      · have e' : (c == c') = false := by simpa using e
        show PySem.W.kitOne K (.ref (Γ.cA c)) (.ref (Γ.cA c')) = some (c == c')
        rw [e']
        exact kit_oo (ap c c' h1 h2 e).1 (h c' h2) (ap c c' h1 h2 e).2
    | bool => exact kit_ob "bool" (by decide +kernel) F.b1
    | int => exact kit_ob "int" (by decide +kernel) F.b2
    | str => exact kit_ob "str" (by decide +kernel) F.b3
    | tuple => exact kit_ob "tuple" (by decide +kernel) F.b4
    | list => exact kit_ob "list" (by decide +kernel) F.b5
  | non =>
    cases cl with
    | own c' => exact kit_bo "NoneType" (h c' h2) (by kernel_rfl)
    | bool => exact kit_bb "NoneType" "bool" (by decide) (by decide +kernel) (by kernel_rfl)
    | int => exact kit_bb "NoneType" "int" (by decide) (by decide +kernel) (by kernel_rfl)
    | str => exact kit_bb "NoneType" "str" (by decide) (by decide +kernel) (by kernel_rfl)
    | tuple => exact kit_bb "NoneType" "tuple" (by decide) (by decide +kernel) (by kernel_rfl)
    | list => exact kit_bb "NoneType" "list" (by decide) (by decide +kernel) (by kernel_rfl)
  | bool =>
    cases cl with
    | own c' => exact kit_bo "bool" (h c' h2) (by kernel_rfl)
    | bool => exact kit_same _
    | int => exact kit_bb "bool" "int" (by decide) (by decide +kernel) (by kernel_rfl)
    | str => exact kit_bb "bool" "str" (by decide) (by decide +kernel) (by kernel_rfl)
    | tuple => exact kit_bb "bool" "tuple" (by decide) (by decide +kernel) (by kernel_rfl)
    | list => exact kit_bb "bool" "list" (by decide) (by decide +kernel) (by kernel_rfl)
  | int =>
    cases cl with
    | own c' => exact kit_bo "int" (h c' h2) (by kernel_rfl)
    | bool => exact kit_bb "int" "bool" (by decide) (by decide +kernel) (by kernel_rfl)
    | int => exact kit_same _
    | str => exact kit_bb "int" "str" (by decide) (by decide +kernel) (by kernel_rfl)
    | tuple => exact kit_bb "int" "tuple" (by decide) (by decide +kernel) (by kernel_rfl)
    | list => exact kit_bb "int" "list" (by decide) (by decide +kernel) (by kernel_rfl)
  | str =>
    cases cl with
    | own c' => exact kit_bo "str" (h c' h2) (by kernel_rfl)
    | bool => exact kit_bb "str" "bool" (by decide) (by decide +kernel) (by kernel_rfl)
    | int => exact kit_bb "str" "int" (by decide) (by decide +kernel) (by kernel_rfl)
    | str => exact kit_same _
    | tuple => exact kit_bb "str" "tuple" (by decide) (by decide +kernel) (by kernel_rfl)
    | list => exact kit_bb "str" "list" (by decide) (by decide +kernel) (by kernel_rfl)
  | tup =>
    cases cl with
    | own c' => exact kit_bo "tuple" (h c' h2) (by kernel_rfl)
    | bool => exact kit_bb "tuple" "bool" (by decide) (by decide +kernel) (by kernel_rfl)
    | int => exact kit_bb "tuple" "int" (by decide) (by decide +kernel) (by kernel_rfl)
    | str => exact kit_bb "tuple" "str" (by decide) (by decide +kernel) (by kernel_rfl)
    | tuple => exact kit_same _
    | list => exact kit_bb "tuple" "list" (by decide) (by decide +kernel) (by kernel_rfl)
  | lst =>
    cases cl with
    | own c' => exact kit_bo "list" (h c' h2) (by kernel_rfl)
    | bool => exact kit_bb "list" "bool" (by decide) (by decide +kernel) (by kernel_rfl)
    | int => exact kit_bb "list" "int" (by decide) (by decide +kernel) (by kernel_rfl)
    | str => exact kit_bb "list" "str" (by decide) (by decide +kernel) (by kernel_rfl)
    | tuple => exact kit_bb "list" "tuple" (by decide) (by decide +kernel) (by kernel_rfl)
    | list => exact kit_same _
  | dic =>
    cases cl with
    | own c' => exact kit_bo "dict" (h c' h2) (by kernel_rfl)
    | bool => exact kit_bb "dict" "bool" (by decide) (by decide +kernel) (by kernel_rfl)
    | int => exact kit_bb "dict" "int" (by decide) (by decide +kernel) (by kernel_rfl)
    | str => exact kit_bb "dict" "str" (by decide) (by decide +kernel) (by kernel_rfl)
    | tuple => exact kit_bb "dict" "tuple" (by decide) (by decide +kernel) (by kernel_rfl)
    | list => exact kit_bb "dict" "list" (by decide) (by decide +kernel) (by kernel_rfl)
/-- an error class -/
structure ErrF (K : PySem.W.Frag) (C : Addr) : Prop where
  isC : PySem.W.isClsIn K C = true
  ty : PySem.W.typeIn K (.ref C) = some (.type "type")
  be : PySem.W.subIn K (.ref C) (.type "BaseException") = some true
theorem xmOk_of {es : List Nat} (h : ∀ c, es.contains c = true → ErrF K (Γ.eA c)) (ap : ∀ c c', es.contains c = true → es.contains c' = true → PySem.W.subIn K (.ref (Γ.eA c)) (.ref (Γ.eA c')) = some (decide (c = c'))) : XmOk Γ K es := fun c c0 h1 h2 => by
  have F := h c0 h2
  have h3 : ((PySem.W.clsIn K (Γ.eA c0)).isSome && PySem.W.typeIn K (.ref (Γ.eA c0)) == some (.type "type")) = true := by
    have := F.isC
    unfold PySem.W.isClsIn at this
    rw [this, F.ty]; rfl
  unfold PySem.W.exmOne PySem.W.kitCls
  rw [if_pos (by rw [F.be]; rfl)]
  dsimp only
  rw [if_pos h3]
  exact ap c c0 h1 h2

theorem binds_full {x qual : Str} {params : Arguments} {body : List Stmt} {scope : Scope} {dvs : List V} {f : Addr} {fd : FuncData} {ps : List Str} (F : FunD K x qual params body scope dvs [] f fd) (hd : dvs ≠ [])
    (h : ∀ (T : Addr) (kV doc pm : Value) (an : Option Addr) (cdv ct : Value) (us its : List Value), us.length = ps.length → its.length = dvs.length →
      ∃ k, bindArgs (PySem.W.fnOf x qual params body scope (.ref T) kV doc pm an cdv ct) ⟨us, []⟩ = seqItems? (.ref T) >>= k ∧ k (some its.toArray) = pure (ps.zip (us ++ its.drop dvs.length))) : Binds K fd ps [] := by
  obtain ⟨ds, r, b⟩ := F.binds1 ps.length dvs.length hd (by omega) h
  rw [List.drop_length] at r
  cases r
  exact b

/-! ### the law -/
def spLaw (K : PySem.W.Frag) : Sp := fun vs H Q _ => ∃ (a : Addr) (ns : List Int), vs = [.ref a] ∧ SqL K H a (ns.map V.int) ∧ ns.length ≤ 63 ∧ (∀ z ∈ ns, Builtin.Int.intBits z ≤ 1048576) ∧ ∀ H', Q (.bl true) H'
def LawOk (F : FN) : Prop := ∀ ns : List Int, ns.length ≤ 63 → (∀ z ∈ ns, Builtin.Int.intBits z ≤ 1048576) → ∃ M, F [.rol (ns.map D.int)] [] = .ok (.bl true) M
theorem ints_repL {as : List Addr} {G : Hp} : ∀ ns : List Int, RepL Γ as G (ns.map D.int) (ns.map V.int)
  | [] => RepL.nil
  | n :: ns => RepL.cons rfl (ints_repL ns)
theorem spLaw_of {F : FN} (hF : LawOk F) (hK : Γ.K = K) {vs : List V} {H : Hp} {Q : VK} {E : XK} (h : spLaw K vs H Q E) : spF Γ 1 F vs H Q E := by
  obtain ⟨a, ns, rfl, hs, hl, hb, q⟩ := h
  obtain ⟨M', e⟩ := hF ns hl hb
  refine ⟨[], H, [], [.rol (ns.map D.int)], ⟨Le.refl _, Le.refl _, List.prefix_refl _, fun _ h => h, fun _ _ h _ => h, fun a o h => ⟨o, h⟩, fun _ _ h => .inl h, rfl, List.nodup_nil, fun n a m h => (by simp at h), fun a h => (by cases h), fun a h => (by cases h)⟩,
    RepL.cons ⟨a, _, rfl, by rw [hK]; exact hs, ints_repL ns⟩ RepL.nil, rfl, ?_⟩
  rw [e]
  intro as' G' H' v _ r
  cases r
  exact q H'
theorem walk {l : PySem.W.OpenLaw} {q : Program} {loose : List Str} {XP : (Str → Option Value) → Heap → Prop} {YP : World → Heap → Prop} {d : DefRec} {K : Params → PySem.W.Frag} {k : Nat} {x : Str} (hn : l.most = some 63) (hdf : d.params.defaults = []) (hr : Room k callerA)
    (hY : ∀ (w : World) (h : Heap), YP w h → (K w.params).In h)
    (F : ∀ (w : World) (mg : Str → Option Value) (fa : Addr) (h : Heap), (K w.params).In h → h.Ns mainGlobals mg → mg d.name = some (.ref fa) →
      ∃ fd : FuncData, (∀ (s : Shared) (u : Value), BindsTo s fd ⟨[u], []⟩ [(x, u)]) ∧ ∀ base : Heap, (K w.params).In base → base.Ns mainGlobals mg → FnOk l.prog w (K w.params) mg base (L2.CX l.prog w) k fa fd [x] (spLaw (K w.params))) :
    PySem.W.WalkO q loose XP YP l.row.toRowW d [] (fun f vs => PySem.call f vs) :=
  L2.walk_ofB (n := 63) (k := k) (x := x) (CX := fun w => L2.CX l.prog w) (sp := fun w => spLaw (K w.params)) hn (by decide) hdf hr hY F (fun _ _ a ns hl hb _ hS => ⟨a, ns, rfl, hS, hl, hb, fun _ => rfl⟩) fun _ _ _ _ _ ⟨_, _, _, _, _, _, _, _, _, _, _, _, z⟩ => z.elim
end
end DL
set_option maxRecDepth 100000
/-! The pure side: how the functions are evaluated. -/
namespace DL
open PySem
/-! ### while -/
theorem while_end {c : FT} {b : FS} {ρ : List Sl} {M M1 : List MO} (h : c ρ M = .ok false M1) : dWhile c b ρ M = .nx ρ M1 := by
  refine dWhile_eq (n := 1) ?_ (by simp)
  rw [whileN, h]; rfl
theorem while_nx {c : FT} {b : FS} {ρ ρ2 : List Sl} {M M1 M2 : List MO} {r : RS} (h : c ρ M = .ok true M1) (h2 : b ρ M1 = .nx ρ2 M2) (h3 : dWhile c b ρ2 M2 = r) (hr : r ≠ .bad) : dWhile c b ρ M = r := by
  unfold dWhile at h3
  split at h3
  · rename_i hx
    refine dWhile_eq (n := hx.choose + 1) ?_ hr
    rw [whileN, h]
    simp only [R.sbind_ok, if_true, h2]
    exact h3
  · exact absurd h3.symm hr
theorem while_bk {c : FT} {b : FS} {ρ ρ2 : List Sl} {M M1 M2 : List MO} (h : c ρ M = .ok true M1) (h2 : b ρ M1 = .bk ρ2 M2) : dWhile c b ρ M = .nx ρ2 M2 := by
  refine dWhile_eq (n := 1) ?_ (by simp)
  rw [whileN, h]
  simp only [R.sbind_ok, if_true, h2]
/-! ### for -/
theorem forL_nil {t : TGt} {b : FS} {ρ : List Sl} {M : List MO} : forL t b [] ρ M = .nx ρ M := rfl
theorem forL_nx {t : TGt} {b : FS} {d : D} {ds : List D} {ρ ρ1 ρ2 : List Sl} {M M1 M2 : List MO} (h : t d ρ M = some (ρ1, M1)) (h2 : b ρ1 M1 = .nx ρ2 M2) : forL t b (d :: ds) ρ M = forL t b ds ρ2 M2 := by
  rw [forL, h]
  dsimp only
  rw [h2]
theorem forL_bk {t : TGt} {b : FS} {d : D} {ds : List D} {ρ ρ1 ρ2 : List Sl} {M M1 M2 : List MO} (h : t d ρ M = some (ρ1, M1)) (h2 : b ρ1 M1 = .bk ρ2 M2) : forL t b (d :: ds) ρ M = .nx ρ2 M2 := by
  rw [forL, h]
  dsimp only
  rw [h2]
/-! ### operators on what is known -/
section
variable {M : List MO}
theorem beq_dec {α : Type} [BEq α] [LawfulBEq α] [DecidableEq α] (a b : α) : (a == b) = decide (a = b) := by
  by_cases h : a = b
  · subst h; simp
  · simp [h]
theorem sh_int (i : Int) : SeqAt.shaped (.int i) = true := rfl
/-- a text of signs -/
def okS (z : Str) : Bool := z.cps.all (· < 0x110000)
theorem sh_str {z : Str} (h : okS z = true) : SeqAt.shaped (.str z) = true := by
  unfold SeqAt.shaped
  rw [show (PyData.str z).canLay0 = okS z from rfl, h]
  rfl
theorem sh_bool (b : Bool) : SeqAt.shaped (.bool b) = true := rfl
theorem sh_none : SeqAt.shaped .none = true := rfl
theorem sh_two (i j : Int) : SeqAt.shaped (.tuple [.int i, .int j]) = true := rfl
theorem pyEq_of {a b : D} {p q : PyData} (h1 : toPy a = some p) (h2 : toPy b = some q) (s1 : SeqAt.shaped p = true) (s2 : SeqAt.shaped q = true) : pyEq a b = some (PyData.eqv p q) := by
  unfold pyEq
  rw [h1, h2]
  dsimp only
  rw [s1, s2]
  rfl
theorem eqD_of {a b : D} {k : Bool} (h : pyEq a b = some k) : eqD a b M = .ok (.bl k) M := by unfold eqD; rw [h]
theorem neD_of {a b : D} {k : Bool} (h : pyEq a b = some k) : neD a b M = .ok (.bl (!k)) M := by unfold neD; rw [h]
theorem pyEq_int (i j : Int) : pyEq (.int i) (.int j) = some (decide (i = j)) := (pyEq_of rfl rfl (sh_int i) (sh_int j)).trans (congrArg some (beq_dec i j))
theorem pyEq_str {i j : Str} (h1 : okS i = true) (h2 : okS j = true) : pyEq (.str i) (.str j) = some (decide (i = j)) := (pyEq_of rfl rfl (sh_str h1) (sh_str h2)).trans (congrArg some (beq_dec i j))
theorem pyEq_ti (a b i : Int) : pyEq (.tup [.int a, .int b]) (.int i) = some false := (pyEq_of rfl rfl (sh_two a b) (sh_int i)).trans (by rfl)
theorem pyEq_it (a b i : Int) : pyEq (.int i) (.tup [.int a, .int b]) = some false := (pyEq_of rfl rfl (sh_int i) (sh_two a b)).trans (by rfl)
theorem pyEq_tt (a b i j : Int) : pyEq (.tup [.int a, .int b]) (.tup [.int i, .int j]) = some (decide (a = i) && decide (b = j)) := (pyEq_of rfl rfl (sh_two a b) (sh_two i j)).trans (congrArg some (by show ((a == i) && ((b == j) && true)) = _; rw [beq_dec, beq_dec, Bool.and_true]))
@[simp] theorem eqD_int (i j : Int) : eqD (.int i) (.int j) M = .ok (.bl (decide (i = j))) M := eqD_of (pyEq_int i j)
@[simp] theorem neD_int (i j : Int) : neD (.int i) (.int j) M = .ok (.bl (!decide (i = j))) M := neD_of (pyEq_int i j)
theorem eqD_str {i j : Str} (h1 : okS i = true) (h2 : okS j = true) : eqD (.str i) (.str j) M = .ok (.bl (decide (i = j))) M := eqD_of (pyEq_str h1 h2)
theorem neD_str {i j : Str} (h1 : okS i = true) (h2 : okS j = true) : neD (.str i) (.str j) M = .ok (.bl (!decide (i = j))) M := neD_of (pyEq_str h1 h2)
@[simp] theorem neD_tt (a b i j : Int) : neD (.tup [.int a, .int b]) (.tup [.int i, .int j]) M = .ok (.bl (!(decide (a = i) && decide (b = j)))) M := neD_of (pyEq_tt a b i j)
@[simp] theorem addD_int (i j : Int) : addD (.int i) (.int j) M = .ok (.int (i + j)) M := rfl
@[simp] theorem subI_int (i j : Int) : subI (.int i) (.int j) M = .ok (.int (i - j)) M := rfl
@[simp] theorem ltI_int (i j : Int) : ltI (.int i) (.int j) M = .ok (.bl (decide (i < j))) M := rfl
@[simp] theorem gtI_int (i j : Int) : gtI (.int i) (.int j) M = .ok (.bl (decide (j < i))) M := rfl
@[simp] theorem geI_int (i j : Int) : geI (.int i) (.int j) M = .ok (.bl (decide (j ≤ i))) M := rfl
@[simp] theorem negI_int (i : Int) : negI (.int i) M = .ok (.int (-i)) M := rfl
theorem mulD_int {i j : Int} (h : intBitsOk i j) : mulD (.int i) (.int j) M = .ok (.int (i * j)) M := by
  unfold mulD gOr2
  have : mulI (.int i) (.int j) M = .ok (.int (i * j)) M := if_pos h
  rw [this]
theorem modI_int {i j : Int} (h : j ≠ 0) : modI (.int i) (.int j) M = .ok (.int (i.fmod j)) M := if_neg h
theorem divI_int {i j : Int} (h : j ≠ 0) (h2 : j.natAbs < 1073741824) : divI (.int i) (.int j) M = .ok (.int (i.fdiv j)) M := by
  refine if_pos ?_
  unfold divOk
  rw [decide_eq_true h, PyProof.noPylong_small h2]; rfl
end
/-! ### the greatest common divisor -/
theorem absD_int (i : Int) (M : List MO) : absD [.int i] M = .ok (.int (i.natAbs : Int)) M := by
  unfold absD
  dsimp only
  by_cases h : i < 0
  · rw [if_pos h]
    have : -i = (i.natAbs : Int) := by omega
    rw [this]
  · rw [if_neg h]
    have : i = (i.natAbs : Int) := by omega
    rw [← this]
theorem fmod_nat (x y : Nat) : ((x : Int)).fmod (y : Int) = ((x % y : Nat) : Int) := by
  rw [Int.fmod_eq_emod_of_nonneg _ (by omega)]
  rfl
abbrev pDivC : FT := dB (d2 neD (dVar 1) (dC (.int 0)))
abbrev pDivB : FS := dPar 0 1 (aCons (dVar 1) (aCons (d2 modI (dVar 0) (dVar 1)) aNil))
theorem div_while {M : List MO} : ∀ (y x : Nat), dWhile pDivC pDivB [.d (.int x), .d (.int y)] M = .nx [.d (.int (Nat.gcd x y : Nat)), .d (.int 0)] M := by
  intro y
  induction y using Nat.strongRecOn with
  | _ y ih =>
    intro x
    by_cases hy : y = 0
    · subst hy
      rw [Nat.gcd_zero_right]
      exact while_end (by simp [pDivC, dB, d2, dVar, dC])
    · have hy' : (y : Int) ≠ 0 := by omega
      refine while_nx (M1 := M) (M2 := M) (ρ2 := [.d (.int y), .d (.int (x % y : Nat))]) (by simp [pDivC, dB, d2, dVar, dC, hy', hy]) ?_ ?_ (by simp)
      · simp [pDivB, dPar, aCons, aNil, d2, dVar, modI_int hy', fmod_nat]
      · rw [ih (x % y) (Nat.mod_lt _ (by omega)) y, Nat.gcd_comm x y, Nat.gcd_rec y x, Nat.gcd_comm]
noncomputable abbrev pDiv : FS := (dSeq (dPar 0 1 (aCons (dCB absD (aCons (dVar 0) aNil)) (aCons (dCB absD (aCons (dVar 1) aNil)) aNil)))
  (dSeq (dWhile pDivC pDivB) (dRet (dVar 0))))
theorem div_is (a b : Int) (M : List MO) : runF 2 pDiv [.int a, .int b] M = .ok (.int (Int.gcd a b : Nat)) M := by
  unfold runF
  have h : start0 2 [.int a, .int b] = [.d (.int a), .d (.int b)] := rfl
  have e : (dPar 0 1 (aCons (dCB absD (aCons (dVar 0) aNil)) (aCons (dCB absD (aCons (dVar 1) aNil)) aNil))) [.d (.int a), .d (.int b)] M = .nx [.d (.int (a.natAbs : Nat)), .d (.int (b.natAbs : Nat))] M := by
    simp [dPar, aCons, aNil, dCB, dVar, absD_int]
  rw [h]
  have e2 : pDiv [.d (.int a), .d (.int b)] M = .rt (.int (Int.gcd a b : Nat)) M := by
    show dSeq _ _ _ _ = _
    unfold dSeq
    rw [e]
    dsimp only
    rw [div_while]
    simp [dRet, dVar, Int.gcd]
  rw [e2]
abbrev pGcdB : FS := (dSeq (dIfS (dB (d2 eqD (dVar 1) (dC (.int 0)))) dBreak dNext)
  (dPar 0 1 (aCons (dVar 1) (aCons (d2 modI (dCB intD2 (aCons (dVar 0) aNil)) (dVar 1)) aNil))))
theorem gcd_stop {M : List MO} {x : Nat} {s : Sl} (d : D) (ds : List D) : forL (gN 2) pGcdB (d :: ds) [.d (.int x), .d (.int 0), s] M = .nx [.d (.int x), .d (.int 0), .d d] M := by
  refine forL_bk (ρ1 := [.d (.int x), .d (.int 0), .d d]) (M1 := M) rfl ?_
  simp [pGcdB, dSeq, dIfS, dB, d2, dVar, dC, dBreak]
theorem gcd_next {M : List MO} {x y : Nat} (hy : y ≠ 0) {s : Sl} (d : D) (ds : List D) : forL (gN 2) pGcdB (d :: ds) [.d (.int x), .d (.int y), s] M = forL (gN 2) pGcdB ds [.d (.int y), .d (.int (x % y : Nat)), .d d] M := by
  have hy' : (y : Int) ≠ 0 := by omega
  refine forL_nx (ρ1 := [.d (.int x), .d (.int y), .d d]) (M1 := M) rfl ?_
  simp [pGcdB, dSeq, dIfS, dB, d2, dVar, dC, dNext, hy, dPar, aCons, aNil, dCB, intD2, intD, modI_int hy', fmod_nat]
theorem gcd_for {M : List MO} : ∀ (n : Nat) (x y : Nat) (s : Sl) (ds : List D), y < 2 ^ n → 2 * n + 1 ≤ ds.length → ∃ s', forL (gN 2) pGcdB ds [.d (.int x), .d (.int y), s] M = .nx [.d (.int (Nat.gcd x y : Nat)), .d (.int 0), s'] M
  | n, x, y, s, [], _, hl => by simp at hl
  | n, x, y, s, d :: ds, hn, hl => by
    by_cases hy : y = 0
    · subst hy
      exact ⟨_, by rw [Nat.gcd_zero_right]; exact gcd_stop d ds⟩
    · rw [gcd_next hy]
      cases n with
      | zero => simp at hn; exact absurd hn hy
      | succ n =>
        have g1 : Nat.gcd x y = Nat.gcd y (x % y) := by rw [Nat.gcd_comm x y, Nat.gcd_rec y x, Nat.gcd_comm]
        cases ds with
        | nil => simp at hl
        | cons d2 ds =>
          by_cases h1 : x % y = 0
          · rw [h1, g1, h1, Nat.gcd_zero_right]
            exact ⟨_, gcd_stop d2 ds⟩
          · rw [gcd_next h1]
            have lt : x % y < y := Nat.mod_lt _ (by omega)
            have half : y % (x % y) < 2 ^ n := by
              have h2 : 2 * (y % (x % y)) < y := by
                have a1 : y % (x % y) < x % y := Nat.mod_lt _ (by omega)
                have a2 : (x % y) + y % (x % y) ≤ y := by
                  have q := Nat.div_add_mod y (x % y)
                  have q2 : 1 ≤ y / (x % y) := Nat.div_pos (by omega) (by omega)
                  have q3 : (x % y) * 1 ≤ (x % y) * (y / (x % y)) := Nat.mul_le_mul_left _ q2
                  omega
                omega
              have : 2 ^ (n + 1) = 2 * 2 ^ n := by rw [Nat.pow_succ]; omega
              omega
            obtain ⟨s', e⟩ := gcd_for n (x % y) (y % (x % y)) (.d d2) ds half (by simp at hl; omega)
            refine ⟨s', ?_⟩
            rw [e, g1, Nat.gcd_comm y (x % y), Nat.gcd_rec (x % y) y, Nat.gcd_comm (y % (x % y))]
abbrev pGcd : FS := (dSeq (dPar 0 1 (aCons (dCB absD (aCons (dVar 0) aNil)) (aCons (dCB absD (aCons (dVar 1) aNil)) aNil)))
  (dSeq (dFor (iRange1 (dC (.int 60000))) (gN 2) pGcdB) (dRet (dVar 0))))
theorem gcd_is (a b : Int) (M : List MO) (hb : b.natAbs < 2 ^ 29000) : runF 3 pGcd [.int a, .int b] M = .ok (.int (Int.gcd a b : Nat)) M := by
  unfold runF
  have h : start0 3 [.int a, .int b] = [.d (.int a), .d (.int b), .mt] := rfl
  have e : (dPar 0 1 (aCons (dCB absD (aCons (dVar 0) aNil)) (aCons (dCB absD (aCons (dVar 1) aNil)) aNil))) [.d (.int a), .d (.int b), .mt] M = .nx [.d (.int (a.natAbs : Nat)), .d (.int (b.natAbs : Nat)), .mt] M := by
    simp [dPar, aCons, aNil, dCB, dVar, absD_int]
  obtain ⟨s', e3⟩ := gcd_for (M := M) 29000 a.natAbs b.natAbs .mt ((List.range (60000 : Int).toNat).map fun (i : Nat) => .int (i : Int)) hb (by rw [List.length_map, List.length_range]; decide)
  have ef : dFor (iRange1 (dC (.int 60000))) (gN 2) pGcdB [.d (.int (a.natAbs : Nat)), .d (.int (b.natAbs : Nat)), .mt] M = .nx [.d (.int (Nat.gcd a.natAbs b.natAbs : Nat)), .d (.int 0), s'] M := by
    rw [← e3]
    unfold dFor iRange1 dC
    rw [R.bind_ok]
    dsimp only
    rw [if_pos (by decide), R.sbind_ok]
  rw [h]
  have e2 : pGcd [.d (.int a), .d (.int b), .mt] M = .rt (.int (Int.gcd a b : Nat)) M := by
    show dSeq _ _ _ _ = _
    unfold dSeq
    rw [e]
    dsimp only
    rw [ef]
    simp [dRet, dVar, Int.gcd]
  rw [e2]
end DL
set_option maxRecDepth 100000
/-! The pen of the laws: a script is folded and drawn from. -/
namespace DL
open PySem L2
/-- the pen's dict -/
def penK (cs : List Int) (at_ dg ct fo : Int) : List (Key × D) := [(.inr "cells", .lst (cs.map .int)), (.inr "at", .int at_), (.inr "digits", .int dg), (.inr "count", .int ct), (.inr "fold", .int fo)]
def penM (cs : List Int) (at_ dg ct fo : Int) : List MO := [.dic (penK cs at_ dg ct fo)]
section
variable {cs : List Int} {a d c f x : Int}
theorem pv_cells : valD (penK cs a d c f) (.inr "cells") = some (.lst (cs.map .int)) := rfl
theorem pv_at : valD (penK cs a d c f) (.inr "at") = some (.int a) := rfl
theorem pv_digits : valD (penK cs a d c f) (.inr "digits") = some (.int d) := rfl
theorem pv_count : valD (penK cs a d c f) (.inr "count") = some (.int c) := rfl
theorem pv_fold : valD (penK cs a d c f) (.inr "fold") = some (.int f) := rfl
theorem pp_at : putD (penK cs a d c f) (.inr "at") (.int x) = penK cs x d c f := rfl
theorem pp_digits : putD (penK cs a d c f) (.inr "digits") (.int x) = penK cs a x c f := rfl
theorem pp_count : putD (penK cs a d c f) (.inr "count") (.int x) = penK cs a d x f := rfl
theorem pp_fold : putD (penK cs a d c f) (.inr "fold") (.int x) = penK cs a d c x := rfl
/-- reading and writing at the pen -/
theorem getK_of {fo : FE} {ρ : List Sl} {M : List MO} {k : Str} {v : D} (h : fo ρ (penM cs a d c f) = .ok (.cel 0) (penM cs a d c f)) (hv : valD (penK cs a d c f) (.inr k) = some v) : dGetK fo (dC (.str k)) ρ (penM cs a d c f) = .ok v (penM cs a d c f) := by
  unfold dGetK
  rw [h]
  simp only [R.bind_ok, dC]
  show (match some (0, penK cs a d c f), some (Sum.inr k) with | some p, some k => ofOpt (valD p.2 k) (penM cs a d c f) | _, _ => .bad) = _
  dsimp only
  rw [hv]; rfl
theorem putK_of {fo fv : FE} {ρ : List Sl} {M : List MO} {k : Str} {v : D} {kvs : List (Key × D)} (h0 : fv ρ (penM cs a d c f) = .ok v (penM cs a d c f)) (h : fo ρ (penM cs a d c f) = .ok (.cel 0) (penM cs a d c f)) (hv : putD (penK cs a d c f) (.inr k) v = kvs) : dPutK fo (dC (.str k)) fv ρ (penM cs a d c f) = .nx ρ [.dic kvs] := by
  unfold dPutK
  rw [h0]
  simp only [R.sbind_ok]
  rw [h]
  simp only [R.sbind_ok, dC]
  show (match some (0, penK cs a d c f), some (Sum.inr k) with | some p, some k => if szOk (p.2.length + 1) then RS.nx ρ ((penM cs a d c f).set p.1 (.dic (putD p.2 k v))) else .bad | _, _ => .bad) = _
  dsimp only
  rw [if_pos (by rfl), hv]; rfl
theorem var0 {d0 : D} {ρ : List Sl} {M : List MO} : dVar 0 (.d d0 :: ρ) M = .ok d0 M := rfl
end
abbrev pG (k : Str) : FE := dGetK (dVar 0) (dC (.str k))
abbrev pDraw : FS :=
  (dSeq (dPutK (dVar 0) (dC (.str "count")) (d2 addD (pG "count") (dC (.int 1))))
  (dSeq (dIfS (dAnd (dB (d2 eqD (pG "digits") (dC (.int 0)))) (dB (d2 ltI (pG "at") (dCB lenD (aCons (pG "cells") aNil))))) (dSeq (dSet 2 (d2 itemD (pG "cells") (pG "at")))
  (dSeq (dPutK (dVar 0) (dC (.str "at")) (d2 addD (pG "at") (dC (.int 1))))
  (dIfS (dB (d2 geI (dVar 2) (d2 powI (dC (.int 10)) (dC (.int 18))))) (dPutK (dVar 0) (dC (.str "digits")) (d2 subI (dVar 2) (d2 powI (dC (.int 10)) (dC (.int 18))))) (dPutK (dVar 0) (dC (.str "fold")) (d2 modI (dCB intD2 (aCons (d2 addD (d2 mulD (pG "fold") (dC (.int 69069))) (dVar 2)) aNil)) (dC (.int 2147483587))))))) dNext)
  (dSeq (dIfS (dB (d2 gtI (pG "digits") (dC (.int 0)))) (dSeq (dSet 3 (d2 modI (dCB intD2 (aCons (pG "digits") aNil)) (dVar 1)))
  (dSeq (dPutK (dVar 0) (dC (.str "digits")) (d2 divI (pG "digits") (dVar 1)))
  (dRet (dVar 3)))) dNext)
  (dSeq (dSet 4 (d2 addD (d2 addD (pG "fold") (d2 mulD (pG "count") (dC (.int 7907)))) (dC (.int 37))))
  (dRet (d2 modI (d2 divI (dCB intD2 (aCons (d2 modI (d2 powI (dVar 4) (dC (.int 17))) (dC (.int 2305843009213693951))) aNil)) (dC (.int 128))) (dVar 1)))))))
theorem atI_pos {α : Type} {xs : List α} {i : Int} (h : 0 ≤ i) (h2 : i < (xs.length : Int)) : atI xs i = xs[i.toNat]? := by
  unfold atI ixN
  rw [if_pos h, if_pos h2]; rfl
/-- the pen as it is drawn from: n draws at most are behind -/
structure Pen (n : Nat) (M : List MO) : Prop where
  is : ∃ cs a d c f, M = penM cs a d c f ∧ 0 ≤ a ∧ 0 ≤ d ∧ 0 ≤ c ∧ c ≤ (n : Int) ∧ 0 ≤ f ∧ f < 2147483587
theorem seq_nx {f g : FS} {ρ ρ1 : List Sl} {M M1 : List MO} (h : f ρ M = .nx ρ1 M1) : dSeq f g ρ M = g ρ1 M1 := by unfold dSeq; rw [h]
theorem seq_rt {f g : FS} {ρ : List Sl} {M M1 : List MO} {d : D} (h : f ρ M = .rt d M1) : dSeq f g ρ M = .rt d M1 := by unfold dSeq; rw [h]
theorem if_t {c : FT} {f g : FS} {ρ : List Sl} {M M1 : List MO} (h : c ρ M = .ok true M1) : dIfS c f g ρ M = f ρ M1 := by unfold dIfS; rw [h]; rfl
theorem if_f {c : FT} {f g : FS} {ρ : List Sl} {M M1 : List MO} (h : c ρ M = .ok false M1) : dIfS c f g ρ M = g ρ M1 := by unfold dIfS; rw [h]; rfl
theorem d2_of {g : D → D → List MO → R D} {fa fb : FE} {ρ : List Sl} {M M1 M2 : List MO} {x y : D} (h1 : fa ρ M = .ok x M1) (h2 : fb ρ M1 = .ok y M2) : d2 g fa fb ρ M = g x y M2 := by unfold d2; rw [h1, R.bind_ok, h2, R.bind_ok]
theorem cb1_of {g : List D → List MO → R D} {fa : FE} {ρ : List Sl} {M M1 : List MO} {x : D} (h1 : fa ρ M = .ok x M1) : dCB g (aCons fa aNil) ρ M = g [x] M1 := by unfold dCB aCons aNil; rw [h1]; rfl
theorem dB_of {f : FE} {ρ : List Sl} {M M1 : List MO} {b : Bool} (h : f ρ M = .ok (.bl b) M1) : dB f ρ M = .ok b M1 := by unfold dB; rw [h]; rfl
theorem set_of {i : Nat} {f : FE} {ρ : List Sl} {M M1 : List MO} {x : D} (h : f ρ M = .ok x M1) : dSet i f ρ M = .nx (ρ.set i (.d x)) M1 := by unfold dSet; rw [h]; rfl
theorem ret_of {f : FE} {ρ : List Sl} {M M1 : List MO} {x : D} (h : f ρ M = .ok x M1) : dRet f ρ M = .rt x M1 := by unfold dRet; rw [h]; rfl
theorem bits64 {i j : Int} (h1 : -(2 ^ 64) < i) (h2 : i < 2 ^ 64) (h3 : -(2 ^ 64) < j) (h4 : j < 2 ^ 64) : intBitsOk i j := by
  unfold intBitsOk
  have a := intBits_le_64 h1 h2
  have b := intBits_le_64 h3 h4
  omega
/-- the second half of a draw -/
theorem draw_end {cs : List Int} {a d c f m : Int} {n : Nat} {y2 y3 y4 : Sl} (hm : 0 < m) (hm2 : m < 1073741824) (hd : 0 ≤ d) (hc : 0 ≤ c) (hcn : c ≤ (n : Int)) (hn : n ≤ 1000000) (hf : 0 ≤ f) (hf2 : f < 2147483587) (ha : 0 ≤ a) :
    ∃ r M', (dSeq (dIfS (dB (d2 gtI (pG "digits") (dC (.int 0)))) (dSeq (dSet 3 (d2 modI (dCB intD2 (aCons (pG "digits") aNil)) (dVar 1)))
  (dSeq (dPutK (dVar 0) (dC (.str "digits")) (d2 divI (pG "digits") (dVar 1)))
  (dRet (dVar 3)))) dNext)
  (dSeq (dSet 4 (d2 addD (d2 addD (pG "fold") (d2 mulD (pG "count") (dC (.int 7907)))) (dC (.int 37))))
  (dRet (d2 modI (d2 divI (dCB intD2 (aCons (d2 modI (d2 powI (dVar 4) (dC (.int 17))) (dC (.int 2305843009213693951))) aNil)) (dC (.int 128))) (dVar 1))))) [.d (.cel 0), .d (.int m), y2, y3, y4] (penM cs a d c f) = .rt (.int r) M' ∧ 0 ≤ r ∧ r < m ∧ Pen n M' := by
  have hm0 : m ≠ 0 := by omega
  have g (k : Str) (v : D) (h : valD (penK cs a d c f) (.inr k) = some v) (ρ : List Sl) : pG k (.d (.cel 0) :: ρ) (penM cs a d c f) = .ok v (penM cs a d c f) := getK_of (M := []) rfl h
  by_cases h : 0 < d
  · refine ⟨d.fmod m, penM cs a (d.fdiv m) c f, ?_, ?_, ?_, ⟨cs, a, d.fdiv m, c, f, rfl, ha, Int.fdiv_nonneg hd (by omega), hc, hcn, hf, hf2⟩⟩
    · refine seq_rt ((if_t (dB_of (b := true) (M1 := penM cs a d c f) ((d2_of (g _ _ pv_digits _) rfl).trans (by simp [h])))).trans ?_)
      refine (seq_nx (set_of ((d2_of ((cb1_of (g _ _ pv_digits _)).trans rfl) rfl).trans (modI_int hm0)))).trans ?_
      refine (seq_nx (putK_of (M := []) (fo := dVar 0) ((d2_of (g _ _ pv_digits _) rfl).trans (divI_int hm0 (by omega))) rfl pp_digits)).trans ?_
      exact ret_of rfl
    · rw [Int.fmod_eq_emod_of_nonneg _ (by omega)]; exact Int.emod_nonneg _ hm0
    · rw [Int.fmod_eq_emod_of_nonneg _ (by omega)]; exact Int.emod_lt_of_pos _ hm
  · have hmx : (f + c * 7907 + 37).natAbs < 2 ^ 64 := by omega
    refine ⟨((((f + c * 7907 + 37) ^ 17).fmod 2305843009213693951).fdiv 128).fmod m, penM cs a d c f, ?_, ?_, ?_, ⟨cs, a, d, c, f, rfl, ha, hd, hc, hcn, hf, hf2⟩⟩
    · refine (seq_nx ((if_f (dB_of (b := false) (M1 := penM cs a d c f) ((d2_of (g _ _ pv_digits _) rfl).trans (by simp [h])))).trans rfl)).trans ?_
      refine (seq_nx (set_of ((d2_of ((d2_of (g _ _ pv_fold _) ((d2_of (g _ _ pv_count _) rfl).trans (mulD_int (bits64 (by omega) (by omega) (by omega) (by omega))))).trans (addD_int _ _)) rfl).trans (addD_int _ _)))).trans ?_
      refine ret_of ((d2_of ((d2_of ((cb1_of ((d2_of ((d2_of rfl rfl).trans ?_) rfl).trans (modI_int (by decide)))).trans rfl) rfl).trans (divI_int (by decide) (by decide))) rfl).trans (modI_int hm0))
      exact if_pos ⟨by decide, by decide, hmx⟩
    · rw [Int.fmod_eq_emod_of_nonneg _ (by omega)]; exact Int.emod_nonneg _ hm0
    · rw [Int.fmod_eq_emod_of_nonneg _ (by omega)]; exact Int.emod_lt_of_pos _ hm
theorem and_t {c1 c2 : FT} {ρ : List Sl} {M M1 : List MO} {r : R Bool} (h : c1 ρ M = .ok true M1) (h2 : c2 ρ M1 = r) : dAnd c1 c2 ρ M = r := by unfold dAnd; rw [h, R.bind_ok, if_pos rfl, h2]
theorem and_f {c1 c2 : FT} {ρ : List Sl} {M M1 : List MO} (h : c1 ρ M = .ok false M1) : dAnd c1 c2 ρ M = .ok false M1 := by unfold dAnd; rw [h]; rfl
theorem or_t {c1 c2 : FT} {ρ : List Sl} {M M1 : List MO} (h : c1 ρ M = .ok true M1) : dOr c1 c2 ρ M = .ok true M1 := by unfold dOr; rw [h]; rfl
theorem or_f {c1 c2 : FT} {ρ : List Sl} {M M1 : List MO} {r : R Bool} (h : c1 ρ M = .ok false M1) (h2 : c2 ρ M1 = r) : dOr c1 c2 ρ M = r := by unfold dOr; rw [h, R.bind_ok, if_neg (by decide), h2]
theorem draw_is {m : Int} {n : Nat} {M : List MO} (P : Pen n M) (hn : n + 1 ≤ 1000000) (hm : 0 < m) (hm2 : m < 1073741824) : ∃ r M', runF 5 pDraw [.cel 0, .int m] M = .ok (.int r) M' ∧ 0 ≤ r ∧ r < m ∧ Pen (n + 1) M' := by
  obtain ⟨cs, a, d, c, f, rfl, ha, hd, hc, hcn, hf, hf2⟩ := P.is
  have g (d' c' f' a' : Int) (k : Str) (v : D) (h : valD (penK cs a' d' c' f') (.inr k) = some v) (ρ : List Sl) : pG k (.d (.cel 0) :: ρ) (penM cs a' d' c' f') = .ok v (penM cs a' d' c' f') := getK_of (M := []) rfl h
  have hs : start0 5 [.cel 0, .int m] = [.d (.cel 0), .d (.int m), .mt, .mt, .mt] := rfl
  -- the count
  have s1 : (dPutK (dVar 0) (dC (.str "count")) (d2 addD (pG "count") (dC (.int 1)))) [.d (.cel 0), .d (.int m), .mt, .mt, .mt] (penM cs a d c f) = .nx [.d (.cel 0), .d (.int m), .mt, .mt, .mt] (penM cs a d (c + 1) f) :=
    putK_of (M := []) ((d2_of (g _ _ _ _ _ _ pv_count _) rfl).trans (addD_int _ _)) rfl pp_count
  have fin : ∀ (a' d' f' : Int) (y2 : Sl), 0 ≤ a' → 0 ≤ d' → 0 ≤ f' → f' < 2147483587 → ∀ r0, (∀ z, r0 = z → True) → r0 = RS.nx [.d (.cel 0), .d (.int m), y2, .mt, .mt] (penM cs a' d' (c + 1) f') → True := fun _ _ _ _ _ _ _ _ _ _ _ => trivial
  -- a cell is read
  have s2 : ∃ (a' d' f' : Int) (y2 : Sl), 0 ≤ a' ∧ 0 ≤ d' ∧ 0 ≤ f' ∧ f' < 2147483587 ∧
      (dIfS (dAnd (dB (d2 eqD (pG "digits") (dC (.int 0)))) (dB (d2 ltI (pG "at") (dCB lenD (aCons (pG "cells") aNil))))) (dSeq (dSet 2 (d2 itemD (pG "cells") (pG "at")))
        (dSeq (dPutK (dVar 0) (dC (.str "at")) (d2 addD (pG "at") (dC (.int 1))))
        (dIfS (dB (d2 geI (dVar 2) (d2 powI (dC (.int 10)) (dC (.int 18))))) (dPutK (dVar 0) (dC (.str "digits")) (d2 subI (dVar 2) (d2 powI (dC (.int 10)) (dC (.int 18))))) (dPutK (dVar 0) (dC (.str "fold")) (d2 modI (dCB intD2 (aCons (d2 addD (d2 mulD (pG "fold") (dC (.int 69069))) (dVar 2)) aNil)) (dC (.int 2147483587))))))) dNext)
        [.d (.cel 0), .d (.int m), .mt, .mt, .mt] (penM cs a d (c + 1) f) = .nx [.d (.cel 0), .d (.int m), y2, .mt, .mt] (penM cs a' d' (c + 1) f') := by
    have cd : (dB (d2 eqD (pG "digits") (dC (.int 0)))) [.d (.cel 0), .d (.int m), .mt, .mt, .mt] (penM cs a d (c + 1) f) = .ok (decide (d = 0)) (penM cs a d (c + 1) f) := dB_of ((d2_of (g _ _ _ _ _ _ pv_digits _) rfl).trans (eqD_int _ _))
    have cl : (dB (d2 ltI (pG "at") (dCB lenD (aCons (pG "cells") aNil)))) [.d (.cel 0), .d (.int m), .mt, .mt, .mt] (penM cs a d (c + 1) f) = .ok (decide (a < ((cs.map D.int).length : Int))) (penM cs a d (c + 1) f) :=
      dB_of ((d2_of (g _ _ _ _ _ _ pv_at _) ((cb1_of (g _ _ _ _ _ _ pv_cells _)).trans rfl)).trans (ltI_int _ _))
    by_cases h1 : d = 0
    · rw [decide_eq_true h1] at cd
      by_cases h2 : a < ((cs.map D.int).length : Int)
      · rw [decide_eq_true h2] at cl
        obtain ⟨z, hz⟩ : ∃ z, cs[a.toNat]? = some z := ⟨cs[a.toNat]'(by simp at h2; omega), List.getElem?_eq_getElem _⟩
        have it : itemD (.lst (cs.map .int)) (.int a) (penM cs a d (c + 1) f) = .ok (.int z) (penM cs a d (c + 1) f) := by
          show ofOpt (atI (cs.map D.int) a) _ = _
          have : atI (cs.map D.int) a = some (.int z) := by
            rw [atI_pos ha h2, List.getElem?_map, hz]; rfl
          rw [this]; rfl
        have e1 := set_of (i := 2) ((d2_of (g _ _ _ _ _ _ pv_cells [.d (.int m), .mt, .mt, .mt]) (g _ _ _ _ _ _ pv_at [.d (.int m), .mt, .mt, .mt])).trans it)
        have e2 : (dPutK (dVar 0) (dC (.str "at")) (d2 addD (pG "at") (dC (.int 1)))) [.d (.cel 0), .d (.int m), .d (.int z), .mt, .mt] (penM cs a d (c + 1) f) = .nx [.d (.cel 0), .d (.int m), .d (.int z), .mt, .mt] (penM cs (a + 1) d (c + 1) f) :=
          putK_of (M := []) ((d2_of (g _ _ _ _ _ _ pv_at _) rfl).trans (addD_int _ _)) rfl pp_at
        have p18 : ∀ ρ M, (d2 powI (dC (.int 10)) (dC (.int 18))) ρ M = .ok (.int (10 ^ 18)) M := fun ρ M => rfl
        have cg : (dB (d2 geI (dVar 2) (d2 powI (dC (.int 10)) (dC (.int 18))))) [.d (.cel 0), .d (.int m), .d (.int z), .mt, .mt] (penM cs (a + 1) d (c + 1) f) = .ok (decide ((10 ^ 18 : Int) ≤ z)) (penM cs (a + 1) d (c + 1) f) :=
          dB_of ((d2_of rfl (p18 _ _)).trans (geI_int _ _))
        by_cases h3 : (10 ^ 18 : Int) ≤ z
        · rw [decide_eq_true h3] at cg
          refine ⟨a + 1, z - 10 ^ 18, f, .d (.int z), by omega, by omega, hf, hf2, ?_⟩
          refine (if_t (and_t cd cl)).trans ((seq_nx e1).trans ((seq_nx e2).trans ((if_t cg).trans ?_)))
          exact putK_of (M := []) ((d2_of rfl (p18 _ _)).trans (subI_int _ _)) rfl pp_digits
        · rw [decide_eq_false h3] at cg
          refine ⟨a + 1, d, (f * 69069 + z).fmod 2147483587, .d (.int z), by omega, hd, ?_, ?_, ?_⟩
          · rw [Int.fmod_eq_emod_of_nonneg _ (by omega)]; exact Int.emod_nonneg _ (by omega)
          · rw [Int.fmod_eq_emod_of_nonneg _ (by omega)]; exact Int.emod_lt_of_pos _ (by omega)
          refine (if_t (and_t cd cl)).trans ((seq_nx e1).trans ((seq_nx e2).trans ((if_f cg).trans ?_)))
          exact putK_of (M := []) ((d2_of ((cb1_of ((d2_of ((d2_of (g _ _ _ _ _ _ pv_fold _) rfl).trans (mulD_int (bits64 (by omega) (by omega) (by omega) (by omega)))) rfl).trans (addD_int _ _))).trans rfl) rfl).trans (modI_int (by decide))) rfl pp_fold
      · rw [decide_eq_false h2] at cl
        exact ⟨a, d, f, .mt, ha, hd, hf, hf2, (if_f (and_t cd cl)).trans rfl⟩
    · rw [decide_eq_false h1] at cd
      exact ⟨a, d, f, .mt, ha, hd, hf, hf2, (if_f (and_f cd)).trans rfl⟩
  obtain ⟨a', d', f', y2, ha', hd', hf', hf2', e2⟩ := s2
  obtain ⟨r, M', e3, h1, h2, h3⟩ := draw_end (cs := cs) (a := a') (d := d') (c := c + 1) (f := f') (n := n + 1) (y2 := y2) (y3 := .mt) (y4 := .mt) hm hm2 hd' (by omega) (by omega) hn hf' hf2' ha'
  refine ⟨r, M', ?_, h1, h2, h3⟩
  unfold runF
  rw [hs, show pDraw [.d (.cel 0), .d (.int m), .mt, .mt, .mt] (penM cs a d c f) = .rt (.int r) M' from (seq_nx s1).trans ((seq_nx e2).trans e3)]
/-! ### the pen is made -/
abbrev pPenB : FS := dSet 1 (d2 modI (dCB intD2 (aCons (d2 addD (d2 mulD (dVar 1) (dC (.int 41))) (dVar 2)) aNil)) (dC (.int 1000000007)))
abbrev pPen : FS := (dSeq (dSet 1 (dC (.int 0)))
  (dSeq (dFor (iSeq (dVar 0)) (gN 2) pPenB)
  (dRet (dDisp ["cells", "at", "digits", "count", "fold"] (aCons (dCB listD (aCons (dVar 0) aNil)) (aCons (dC (.int 0)) (aCons (dC (.int 0)) (aCons (dC (.int 0)) (aCons (dVar 1) aNil)))))))))
theorem pen_for {x : Sl} : ∀ (ns : List Int) (f : Int) (y : Sl), 0 ≤ f → f < 1000000007 → ∃ f' y', 0 ≤ f' ∧ f' < 1000000007 ∧ forL (gN 2) pPenB (ns.map D.int) [x, .d (.int f), y] [] = .nx [x, .d (.int f'), y'] []
  | [], f, y, h1, h2 => ⟨f, y, h1, h2, rfl⟩
  | n :: ns, f, y, h1, h2 => by
    obtain ⟨f', y', h3, h4, e⟩ := pen_for ns ((f * 41 + n).fmod 1000000007) (.d (.int n)) (by rw [Int.fmod_eq_emod_of_nonneg _ (by omega)]; exact Int.emod_nonneg _ (by omega)) (by rw [Int.fmod_eq_emod_of_nonneg _ (by omega)]; exact Int.emod_lt_of_pos _ (by omega))
    refine ⟨f', y', h3, h4, ?_⟩
    rw [List.map_cons]
    refine (forL_nx (ρ1 := [x, .d (.int f), .d (.int n)]) (M1 := []) (ρ2 := [x, .d (.int ((f * 41 + n).fmod 1000000007)), .d (.int n)]) (M2 := []) rfl ?_).trans e
    exact set_of (i := 1) (M1 := []) (x := .int ((f * 41 + n).fmod 1000000007)) ((d2_of (M1 := []) (M2 := []) (x := .int (f * 41 + n)) ((cb1_of (M1 := []) ((d2_of (M1 := []) (M2 := []) ((d2_of rfl rfl).trans (mulD_int (bits64 (by omega) (by omega) (by omega) (by omega)))) rfl).trans (addD_int _ _))).trans rfl) rfl).trans (modI_int (by decide)))
theorem pen_is (ns : List Int) : ∃ M, runF 3 pPen [.rol (ns.map .int)] [] = .ok (.cel 0) M ∧ Pen 0 M := by
  obtain ⟨f, y, h1, h2, e⟩ := pen_for (x := .d (.rol (ns.map .int))) ns 0 .mt (by decide) (by decide)
  refine ⟨penM ns 0 0 0 f, ?_, ⟨ns, 0, 0, 0, f, rfl, by decide, by decide, by decide, by decide, h1, by omega⟩⟩
  have hs : start0 3 [.rol (ns.map .int)] = [.d (.rol (ns.map .int)), .mt, .mt] := rfl
  have ef : dFor (iSeq (dVar 0)) (gN 2) pPenB [.d (.rol (ns.map .int)), .d (.int 0), .mt] [] = .nx [.d (.rol (ns.map .int)), .d (.int f), y] [] := e
  unfold runF
  rw [hs, show pPen [.d (.rol (ns.map .int)), .mt, .mt] [] = .rt (.cel 0) (penM ns 0 0 0 f) from (seq_nx (M1 := []) rfl).trans ((seq_nx ef).trans (ret_of rfl))]
end DL
set_option maxRecDepth 100000
/-! Texts on the pure side. -/
namespace DL
open PySem L2
/-- the text of these signs -/
def tx (cs : List Nat) : Str := ⟨cs.toArray⟩
theorem tx_cps (cs : List Nat) : (tx cs).cps.toList = cs := by simp [tx]
theorem tx_len (cs : List Nat) : (tx cs).length = cs.length := by
  show cs.toArray.size = _
  simp
theorem tx_inj {a b : List Nat} : tx a = tx b ↔ a = b := by
  constructor
  · intro h
    have := congrArg (fun z : Str => z.cps.toList) h
    simpa [tx] using this
  · intro h; rw [h]
theorem tx_of (z : Str) : z = tx z.cps.toList := by
  cases z
  simp [tx]
/-- plain signs, not too many -/
def Asc (cs : List Nat) : Prop := (∀ c ∈ cs, c < 128) ∧ cs.length ≤ 600
theorem Asc.ok {cs : List Nat} (h : Asc cs) : okS (tx cs) = true := by
  unfold okS
  rw [← Array.all_toList]
  show ((tx cs).cps.toList.all _) = true
  rw [tx_cps, List.all_eq_true]
  intro c hc
  have := h.1 c hc
  simp; omega
theorem Asc.sz {cs : List Nat} (h : Asc cs) : szOk (tx cs).length = true := by
  rw [tx_len]
  unfold szOk
  have := h.2
  simp; omega
theorem Asc.take {cs : List Nat} (h : Asc cs) (n : Nat) : Asc (cs.take n) := ⟨fun c hc => h.1 c (List.mem_of_mem_take hc), by rw [List.length_take]; have := h.2; omega⟩
theorem Asc.drop {cs : List Nat} (h : Asc cs) (n : Nat) : Asc (cs.drop n) := ⟨fun c hc => h.1 c (List.mem_of_mem_drop hc), by rw [List.length_drop]; have := h.2; omega⟩
theorem Asc.one {cs : List Nat} {i : Nat} {c : Nat} (h : Asc cs) (e : cs[i]? = some c) : Asc [c] := ⟨fun x hx => by rw [List.mem_singleton.mp hx]; exact h.1 c (List.mem_of_getElem? e), by simp⟩
section
variable {M : List MO}
theorem item_tx {cs : List Nat} {i : Int} {c : Nat} (h : Asc cs) (h0 : 0 ≤ i) (e : cs[i.toNat]? = some c) : itemD (.str (tx cs)) (.int i) M = .ok (.str (tx [c])) M := by
  have hl : i < (cs.length : Int) := by
    have := (List.getElem?_eq_some_iff.mp e).1
    omega
  unfold itemD
  dsimp only
  rw [if_pos h.sz, tx_cps, atI_pos h0 hl, e]
  rfl
theorem len_tx {cs : List Nat} (h : Asc cs) : lenD [.str (tx cs)] M = .ok (.int cs.length) M := by
  unfold lenD
  dsimp only
  rw [if_pos h.sz, tx_len]
theorem eq_tx {a b : List Nat} (h1 : Asc a) (h2 : Asc b) : eqD (.str (tx a)) (.str (tx b)) M = .ok (.bl (decide (a = b))) M := by
  rw [eqD_str h1.ok h2.ok]
  congr 2
  exact decide_eq_decide.mpr tx_inj
theorem ne_tx {a b : List Nat} (h1 : Asc a) (h2 : Asc b) : neD (.str (tx a)) (.str (tx b)) M = .ok (.bl (!decide (a = b))) M := by
  rw [neD_str h1.ok h2.ok]
  congr 3
  exact decide_eq_decide.mpr tx_inj
theorem sIx_nat' (n d : Nat) (k : Int) (h : 0 ≤ k) : HT.sIx n d (some k) = min k.toNat n := by
  show (if k < 0 then (k + (n : Int)).toNat else min k.toNat n) = _
  rw [if_neg (by omega)]
/-- text[:b] -/
theorem cut_to {cs : List Nat} {b : Int} (h : 0 ≤ b) : cutStr (tx cs) none (some b) = tx (cs.take b.toNat) := by
  unfold cutStr cutD
  rw [tx_cps, sIx_nat' _ _ _ h]
  show (⟨((cs.drop 0).take (min b.toNat cs.length - 0)).toArray⟩ : Str) = _
  rw [List.drop_zero, Nat.sub_zero]
  unfold tx
  congr 2
  rw [← List.take_take]
  rw [List.take_length]
/-- text[a:] -/
theorem cut_from {cs : List Nat} {a : Int} (h : 0 ≤ a) : cutStr (tx cs) (some a) none = tx (cs.drop a.toNat) := by
  unfold cutStr cutD
  rw [tx_cps, sIx_nat' _ _ _ h]
  show (⟨((cs.drop (min a.toNat cs.length)).take (cs.length - min a.toNat cs.length)).toArray⟩ : Str) = _
  unfold tx
  congr 2
  rw [List.take_of_length_le (by rw [List.length_drop]; exact Nat.le_refl _)]
  by_cases hh : a.toNat ≤ cs.length
  · rw [Nat.min_eq_left hh]
  · rw [Nat.min_eq_right (by omega), List.drop_of_length_le (by omega), List.drop_of_length_le (by omega)]
/-- text[a:a + 1] -/
theorem cut_one {cs : List Nat} {a : Int} (h : 0 ≤ a) : cutStr (tx cs) (some a) (some (a + 1)) = tx ((cs.drop a.toNat).take 1) := by
  unfold cutStr cutD
  rw [tx_cps, sIx_nat' _ _ _ h, sIx_nat' _ _ _ (by omega)]
  unfold tx
  congr 2
  have e : (a + 1).toNat = a.toNat + 1 := by omega
  rw [e]
  by_cases hh : a.toNat < cs.length
  · rw [Nat.min_eq_left (by omega), Nat.min_eq_left (by omega), Nat.add_sub_cancel_left]
  · rw [Nat.min_eq_right (by omega), Nat.min_eq_right (by omega), List.drop_of_length_le (Nat.le_refl _), List.drop_of_length_le (by omega)]
    simp
theorem slice_to {cs : List Nat} {b : Int} (h : Asc cs) (hb : 0 ≤ b) : sliceD (.str (tx cs)) .non (.int b) M = .ok (.str (tx (cs.take b.toNat))) M := by
  unfold sliceD
  simp only [opI]
  rw [if_pos h.sz, cut_to hb]
theorem slice_from {cs : List Nat} {a : Int} (h : Asc cs) (ha : 0 ≤ a) : sliceD (.str (tx cs)) (.int a) .non M = .ok (.str (tx (cs.drop a.toNat))) M := by
  unfold sliceD
  simp only [opI]
  rw [if_pos h.sz, cut_from ha]
theorem slice_one {cs : List Nat} {a : Int} (h : Asc cs) (ha : 0 ≤ a) : sliceD (.str (tx cs)) (.int a) (.int (a + 1)) M = .ok (.str (tx ((cs.drop a.toNat).take 1))) M := by
  unfold sliceD
  simp only [opI]
  rw [if_pos h.sz, cut_one ha]
theorem dSlice_of {fe fl fu : FE} {ρ : List Sl} {x l u : D} (h1 : fe ρ M = .ok x M) (h2 : fl ρ M = .ok l M) (h3 : fu ρ M = .ok u M) (hl : (opI l).isSome = true) : dSlice fe fl fu ρ M = sliceD x l u M := by
  unfold dSlice
  rw [h1, R.bind_ok, h2, R.bind_ok, if_pos hl, h3, R.bind_ok]
theorem dInt_of {f : FE} {ρ : List Sl} {i : Int} (h : f ρ M = .ok (.int i) M) : dInt f ρ M = .ok (.int i) M := by unfold dInt; rw [h]; rfl
/-- a sign in a text of signs -/
theorem in_tx {c : Nat} {ds : List Nat} : inD false (.str (tx [c])) (.str (tx ds)) M = .ok (.bl (decide (c ∈ ds))) M := by
  unfold inD
  dsimp only
  rw [tx_cps, tx_cps]
  rfl
theorem toV_chars (ds : List Nat) : (ds.map fun c => D.str ⟨#[c]⟩).map toV = ds.map fun c => V.str (tx [c]) := by
  rw [List.map_map]; rfl
theorem flat_chars : ∀ ds : List Nat, (ds.map fun c => D.str ⟨#[c]⟩).all flatD = true
  | [] => rfl
  | _ :: ds => by rw [List.map_cons, List.all_cons, flat_chars ds]; rfl
theorem inV_chars (s : List Nat) : ∀ ds : List Nat, inV (.str (tx s)) (ds.map fun c => V.str (tx [c])) = decide (∃ c ∈ ds, s = [c])
  | [] => by simp [inV]
  | d :: ds => by
    have ih := inV_chars s ds
    unfold inV at ih ⊢
    rw [List.map_cons, List.any_cons, ih]
    have e : eqV (.str (tx [d])) (.str (tx s)) = decide (s = [d]) := by
      show (tx [d] == tx s) = _
      rw [beq_dec]
      exact decide_eq_decide.mpr ⟨fun h => (tx_inj.mp h).symm, fun h => by rw [h]⟩
    rw [e, ← Bool.decide_or]
    exact decide_eq_decide.mpr (by simp)
theorem notIn_chars {s ds : List Nat} : inD true (.str (tx s)) (.tup (ds.map fun c => D.str ⟨#[c]⟩)) M = .ok (.bl (!decide (∃ c ∈ ds, s = [c]))) M := by
  have : inD true (.str (tx s)) (.tup (ds.map fun c => D.str ⟨#[c]⟩)) M = inList (.str (tx s)) (ds.map fun c => D.str ⟨#[c]⟩) M true := rfl
  rw [this]
  unfold inList
  rw [if_pos (by rw [flat_chars]; rfl), toV_chars, if_pos rfl]
  show R.ok (D.bl (!inV (.str (tx s)) _)) M = _
  rw [inV_chars]
end
end DL
set_option maxRecDepth 100000
set_option maxHeartbeats 4000000
namespace LW
open PySem PySem.Spec PyProof.Rows L2 DL
def top (i : Nat) : Stmt := PySem.Challenge.pw_hingeworks_k02_ratio_texts.main.body.getD i (.Pass ⟨0, 0, 0, 0⟩)
abbrev XS : List Nat := [1, 3, 8]
abbrev s_divisor_of : Stmt := top 8
abbrev N_divisor_of : List Str := ["one", "two"]
theorem sc_divisor_of : FnScope N_divisor_of ["one", "two"] (defScope s_divisor_of) := ⟨rfl, rfl, rfl, by decide +kernel, rfl, by decide +kernel, by decide +kernel⟩
noncomputable def b_divisor_of : FS :=
  (dSeq (dPar 0 1 (aCons (dCB absD (aCons (dVar 0) aNil)) (aCons (dCB absD (aCons (dVar 1) aNil)) aNil)))
  (dSeq (dWhile (dB (d2 neD (dVar 1) (dC (.int 0)))) (dPar 0 1 (aCons (dVar 1) (aCons (d2 modI (dVar 0) (dVar 1)) aNil))))
  (dRet (dVar 0))))
noncomputable def F_divisor_of : FN := runF 2 b_divisor_of
abbrev s_Ratio___init__ : Stmt := inClass (top 11) 0
abbrev N_Ratio___init__ : List Str := ["self", "top", "bottom", "by"]
theorem sc_Ratio___init__ : FnScope N_Ratio___init__ ["self", "top", "bottom"] (defScope s_Ratio___init__) := ⟨rfl, rfl, rfl, by decide +kernel, rfl, by decide +kernel, by decide +kernel⟩
noncomputable def b_Ratio___init__ : FS :=
  (dSeq (dIfS (dB (d2 eqD (dVar 2) (dC (.int 0)))) (dRaise 3 (aCons (dC (.str "bottom")) (aCons (dC (.int 0)) aNil))) dNext)
  (dSeq (dSet 3 (dIf (dB (d2 gtI (dVar 2) (dC (.int 0)))) (dCall (lenIs 2 F_divisor_of) [] (aCons (dVar 1) (aCons (dVar 2) aNil))) (d1 negI (dCall (lenIs 2 F_divisor_of) [] (aCons (dVar 1) (aCons (dVar 2) aNil))))))
  (dAsg (dTup (aCons (d2 divI (dVar 1) (dVar 3)) (aCons (d2 divI (dVar 2) (dVar 3)) aNil))) (gTupT 2 (gsCons (gSelf "top") (gsCons (gSelf "bottom") gsNil))))))
noncomputable def F_Ratio___init__ : List D → List MO → R (List D) := runI 0 3 b_Ratio___init__
abbrev s_number_end : Stmt := top 12
abbrev N_number_end : List Str := ["text", "at", "start"]
theorem sc_number_end : FnScope N_number_end ["text", "at"] (defScope s_number_end) := ⟨rfl, rfl, rfl, by decide +kernel, rfl, by decide +kernel, by decide +kernel⟩
noncomputable def b_number_end : FS :=
  (dSeq (dSet 2 (dVar 1))
  (dSeq (dWhile (dAnd (dB (d2 ltI (dVar 1) (dCB lenD (aCons (dVar 0) aNil)))) (dB (d2 (inD false) (d2 itemD (dVar 0) (dVar 1)) (dC (.str "0123456789"))))) (dSeq (dAug addI 1 (dC (.int 1)))
  (dIfS (dAnd (dB (d2 eqD (dVar 1) (d2 addD (dVar 2) (dC (.int 1))))) (dB (d2 eqD (d2 itemD (dVar 0) (dVar 2)) (dC (.str "0"))))) dBreak dNext)))
  (dRet (dVar 1))))
noncomputable def F_number_end : FN := runF 3 b_number_end
abbrev s_ratio_column : Stmt := top 13
abbrev N_ratio_column : List Str := ["text", "start", "slash", "end"]
theorem sc_ratio_column : FnScope N_ratio_column ["text"] (defScope s_ratio_column) := ⟨rfl, rfl, rfl, by decide +kernel, rfl, by decide +kernel, by decide +kernel⟩
noncomputable def b_ratio_column : FS :=
  (dSeq (dSet 1 (dIf (dB (d2 eqD (dSlice (dVar 0) (dC .non) (dInt (dC (.int 1)))) (dC (.str "-")))) (dC (.int 1)) (dC (.int 0))))
  (dSeq (dSet 2 (dCall (lenIs 2 F_number_end) [] (aCons (dVar 0) (aCons (dVar 1) aNil))))
  (dSeq (dIfS (dOr (dB (d2 eqD (dVar 2) (dVar 1))) (dAnd (dB (d2 eqD (dVar 1) (dC (.int 1)))) (dB (d2 eqD (d2 itemD (dVar 0) (dC (.int 1))) (dC (.str "0")))))) (dRet (d2 addD (dVar 1) (dC (.int 1)))) dNext)
  (dSeq (dIfS (dB (d2 eqD (dVar 2) (dCB lenD (aCons (dVar 0) aNil)))) (dRet (dC (.int 0))) dNext)
  (dSeq (dIfS (dOr (dB (d2 neD (d2 itemD (dVar 0) (dVar 2)) (dC (.str "/")))) (dB (d2 eqD (dSlice (dVar 0) (dC .non) (dInt (dVar 2))) (dC (.str "0"))))) (dRet (d2 addD (dVar 2) (dC (.int 1)))) dNext)
  (dSeq (dSet 3 (dCall (lenIs 2 F_number_end) [] (aCons (dVar 0) (aCons (d2 addD (dVar 2) (dC (.int 1))) aNil))))
  (dSeq (dIfS (dOr (dB (d2 eqD (dVar 3) (d2 addD (dVar 2) (dC (.int 1))))) (dB (d2 eqD (d2 itemD (dVar 0) (d2 addD (dVar 2) (dC (.int 1)))) (dC (.str "0"))))) (dRet (d2 addD (dVar 2) (dC (.int 2)))) dNext)
  (dRet (dIf (dB (d2 eqD (dVar 3) (dCB lenD (aCons (dVar 0) aNil)))) (dC (.int 0)) (d2 addD (dVar 3) (dC (.int 1))))))))))))
noncomputable def F_ratio_column : FN := runF 4 b_ratio_column
abbrev s_ratio_of : Stmt := top 14
abbrev N_ratio_of : List Str := ["text", "column", "parts", "digits", "top", "bottom"]
theorem sc_ratio_of : FnScope N_ratio_of ["text"] (defScope s_ratio_of) := ⟨rfl, rfl, rfl, by decide +kernel, rfl, by decide +kernel, by decide +kernel⟩
noncomputable def b_ratio_of : FS :=
  (dSeq (dIfS (dNot (dB (dIs [0] [.str] (dVar 0)))) (dRaise 1 (aCons (dC (.int 1)) (aCons (dC (.int 1)) aNil))) dNext)
  (dSeq (dSet 1 (dCall (lenIs 1 F_ratio_column) [] (aCons (dVar 0) aNil)))
  (dSeq (dIfS (dB (d2 gtI (dVar 1) (dC (.int 0)))) (dRaise 1 (aCons (dC (.int 1)) (aCons (dVar 1) aNil))) dNext)
  (dSeq (dSet 2 (dStr1 splitD (dVar 0) (dC (.str "/"))))
  (dSeq (dSet 3 (dCB maxD (aCons (dLst (aCons (dCB lenD (aCons (dStr1 lstripD (d2 itemD (dVar 2) (dC (.int 0))) (dC (.str "-"))) aNil)) (aCons (dIf (dB (d2 eqD (dCB lenD (aCons (dVar 2) aNil)) (dC (.int 2)))) (dCB lenD (aCons (d2 itemD (dVar 2) (d1 negI (dC (.int 1)))) aNil)) (dC (.int 1))) aNil))) aNil)))
  (dSeq (dIfS (dB (d2 gtI (dVar 3) (dC (.int 4000)))) (dRaise 8 (aCons (dVar 3) aNil)) dNext)
  (dSeq (dIfS (dB (d2 eqD (dCB lenD (aCons (dVar 2) aNil)) (dC (.int 1)))) (dRet (dMake 0 2 F_Ratio___init__ [(.int 1)] (aCons (dCB intD2 (aCons (dVar 0) aNil)) aNil))) dNext)
  (dSeq (dPar 4 5 (aCons (dCB intD2 (aCons (d2 itemD (dVar 2) (dC (.int 0))) aNil)) (aCons (dCB intD2 (aCons (d2 itemD (dVar 2) (dC (.int 1))) aNil)) aNil)))
  (dSeq (dIfS (dOr (dB (d2 eqD (dVar 5) (dC (.int 1)))) (dB (d2 gtI (dCall (lenIs 2 F_divisor_of) [] (aCons (dVar 4) (aCons (dVar 5) aNil))) (dC (.int 1))))) (dRaise 1 (aCons (dC (.int 1)) (aCons (d2 addD (dCB lenD (aCons (d2 itemD (dVar 2) (dC (.int 0))) aNil)) (dC (.int 2))) aNil))) dNext)
  (dRet (dMake 0 2 F_Ratio___init__ [] (aCons (dVar 4) (aCons (dVar 5) aNil)))))))))))))
noncomputable def F_ratio_of : FN := runF 6 b_ratio_of
abbrev s__law_pen : Stmt := top 16
abbrev N__law_pen : List Str := ["_law_script", "_law_fold", "_law_cell"]
theorem sc__law_pen : FnScope N__law_pen ["_law_script"] (defScope s__law_pen) := ⟨rfl, rfl, rfl, by decide +kernel, rfl, by decide +kernel, by decide +kernel⟩
noncomputable def b__law_pen : FS :=
  (dSeq (dSet 1 (dC (.int 0)))
  (dSeq (dFor (iSeq (dVar 0)) (gN 2) (dSet 1 (d2 modI (dCB intD2 (aCons (d2 addD (d2 mulD (dVar 1) (dC (.int 41))) (dVar 2)) aNil)) (dC (.int 1000000007)))))
  (dRet (dDisp ["cells", "at", "digits", "count", "fold"] (aCons (dCB listD (aCons (dVar 0) aNil)) (aCons (dC (.int 0)) (aCons (dC (.int 0)) (aCons (dC (.int 0)) (aCons (dVar 1) aNil)))))))))
noncomputable def F__law_pen : FN := runF 3 b__law_pen
abbrev s__law_draw : Stmt := top 17
abbrev N__law_draw : List Str := ["_law_pen_here", "_law_many", "_law_cell", "_law_digit", "_law_mixed"]
theorem sc__law_draw : FnScope N__law_draw ["_law_pen_here", "_law_many"] (defScope s__law_draw) := ⟨rfl, rfl, rfl, by decide +kernel, rfl, by decide +kernel, by decide +kernel⟩
noncomputable def b__law_draw : FS :=
  (dSeq (dPutK (dVar 0) (dC (.str "count")) (d2 addD (dGetK (dVar 0) (dC (.str "count"))) (dC (.int 1))))
  (dSeq (dIfS (dAnd (dB (d2 eqD (dGetK (dVar 0) (dC (.str "digits"))) (dC (.int 0)))) (dB (d2 ltI (dGetK (dVar 0) (dC (.str "at"))) (dCB lenD (aCons (dGetK (dVar 0) (dC (.str "cells"))) aNil))))) (dSeq (dSet 2 (d2 itemD (dGetK (dVar 0) (dC (.str "cells"))) (dGetK (dVar 0) (dC (.str "at")))))
  (dSeq (dPutK (dVar 0) (dC (.str "at")) (d2 addD (dGetK (dVar 0) (dC (.str "at"))) (dC (.int 1))))
  (dIfS (dB (d2 geI (dVar 2) (d2 powI (dC (.int 10)) (dC (.int 18))))) (dPutK (dVar 0) (dC (.str "digits")) (d2 subI (dVar 2) (d2 powI (dC (.int 10)) (dC (.int 18))))) (dPutK (dVar 0) (dC (.str "fold")) (d2 modI (dCB intD2 (aCons (d2 addD (d2 mulD (dGetK (dVar 0) (dC (.str "fold"))) (dC (.int 69069))) (dVar 2)) aNil)) (dC (.int 2147483587))))))) dNext)
  (dSeq (dIfS (dB (d2 gtI (dGetK (dVar 0) (dC (.str "digits"))) (dC (.int 0)))) (dSeq (dSet 3 (d2 modI (dCB intD2 (aCons (dGetK (dVar 0) (dC (.str "digits"))) aNil)) (dVar 1)))
  (dSeq (dPutK (dVar 0) (dC (.str "digits")) (d2 divI (dGetK (dVar 0) (dC (.str "digits"))) (dVar 1)))
  (dRet (dVar 3)))) dNext)
  (dSeq (dSet 4 (d2 addD (d2 addD (dGetK (dVar 0) (dC (.str "fold"))) (d2 mulD (dGetK (dVar 0) (dC (.str "count"))) (dC (.int 7907)))) (dC (.int 37))))
  (dRet (d2 modI (d2 divI (dCB intD2 (aCons (d2 modI (d2 powI (dVar 4) (dC (.int 17))) (dC (.int 2305843009213693951))) aNil)) (dC (.int 128))) (dVar 1)))))))
noncomputable def F__law_draw : FN := runF 5 b__law_draw
abbrev s__law_pick : Stmt := top 18
abbrev N__law_pick : List Str := ["_law_pen_here", "_law_some"]
theorem sc__law_pick : FnScope N__law_pick ["_law_pen_here", "_law_some"] (defScope s__law_pick) := ⟨rfl, rfl, rfl, by decide +kernel, rfl, by decide +kernel, by decide +kernel⟩
noncomputable def b__law_pick : FS :=
  (dRet (d2 itemD (dVar 1) (dCall (lenIs 2 F__law_draw) [] (aCons (dVar 0) (aCons (dCB lenD (aCons (dVar 1) aNil)) aNil)))))
noncomputable def F__law_pick : FN := runF 2 b__law_pick
abbrev s__law_gcd : Stmt := top 19
abbrev N__law_gcd : List Str := ["_law_one", "_law_two", "_law_lap"]
theorem sc__law_gcd : FnScope N__law_gcd ["_law_one", "_law_two"] (defScope s__law_gcd) := ⟨rfl, rfl, rfl, by decide +kernel, rfl, by decide +kernel, by decide +kernel⟩
noncomputable def b__law_gcd : FS :=
  (dSeq (dPar 0 1 (aCons (dCB absD (aCons (dVar 0) aNil)) (aCons (dCB absD (aCons (dVar 1) aNil)) aNil)))
  (dSeq (dFor (iRange1 (dC (.int 60000))) (gN 2) (dSeq (dIfS (dB (d2 eqD (dVar 1) (dC (.int 0)))) dBreak dNext)
  (dPar 0 1 (aCons (dVar 1) (aCons (d2 modI (dCB intD2 (aCons (dVar 0) aNil)) (dVar 1)) aNil)))))
  (dRet (dVar 0))))
noncomputable def F__law_gcd : FN := runF 3 b__law_gcd
abbrev s__law_q : Stmt := top 20
abbrev N__law_q : List Str := ["_law_top", "_law_bottom", "_law_by"]
theorem sc__law_q : FnScope N__law_q ["_law_top", "_law_bottom"] (defScope s__law_q) := ⟨rfl, rfl, rfl, by decide +kernel, rfl, by decide +kernel, by decide +kernel⟩
noncomputable def b__law_q : FS :=
  (dSeq (dSet 2 (dCall (lenIs 2 F__law_gcd) [] (aCons (dVar 0) (aCons (dVar 1) aNil))))
  (dSeq (dIfS (dB (d2 ltI (dVar 1) (dC (.int 0)))) (dSet 2 (d1 negI (dVar 2))) dNext)
  (dRet (dTup (aCons (d2 divI (dVar 0) (dVar 2)) (aCons (d2 divI (dVar 1) (dVar 2)) aNil))))))
noncomputable def F__law_q : FN := runF 3 b__law_q
abbrev s__law_written : Stmt := top 21
abbrev N__law_written : List Str := ["_law_one"]
theorem sc__law_written : FnScope N__law_written ["_law_one"] (defScope s__law_written) := ⟨rfl, rfl, rfl, by decide +kernel, rfl, by decide +kernel, by decide +kernel⟩
noncomputable def b__law_written : FS :=
  (dRet (dIf (dB (d2 eqD (d2 itemD (dVar 0) (dC (.int 1))) (dC (.int 1)))) (dCB strD (aCons (d2 itemD (dVar 0) (dC (.int 0))) aNil)) (d2 addD (d2 addD (dCB strD (aCons (d2 itemD (dVar 0) (dC (.int 0))) aNil)) (dC (.str "/"))) (dCB strD (aCons (d2 itemD (dVar 0) (dC (.int 1))) aNil)))))
noncomputable def F__law_written : FN := runF 1 b__law_written
abbrev s__law_pair : Stmt := top 22
abbrev N__law_pair : List Str := ["_law_value"]
theorem sc__law_pair : FnScope N__law_pair ["_law_value"] (defScope s__law_pair) := ⟨rfl, rfl, rfl, by decide +kernel, rfl, by decide +kernel, by decide +kernel⟩
noncomputable def b__law_pair : FS :=
  (dRet (dTup (aCons (dFld "top" (dVar 0)) (aCons (dFld "bottom" (dVar 0)) aNil))))
noncomputable def F__law_pair : FN := runF 1 b__law_pair
abbrev s__law_shape_column : Stmt := top 23
abbrev N__law_shape_column : List Str := ["_law_text", "_law_at", "_law_end", "_law_lap", "_law_last"]
theorem sc__law_shape_column : FnScope N__law_shape_column ["_law_text"] (defScope s__law_shape_column) := ⟨rfl, rfl, rfl, by decide +kernel, rfl, by decide +kernel, by decide +kernel⟩
noncomputable def b__law_shape_column : FS :=
  (dSeq (dSet 1 (dCB intD2 (aCons (d2 eqD (dSlice (dVar 0) (dC .non) (dInt (dC (.int 1)))) (dC (.str "-"))) aNil)))
  (dSeq (dIfS (dOr (dB (d2 (inD true) (dSlice (dVar 0) (dInt (dVar 1)) (dInt (d2 addD (dVar 1) (dC (.int 1))))) (dCB tupleD2 (aCons (dC (.str "0123456789")) aNil)))) (dAnd (dB (d2 eqD (dVar 1) (dC (.int 1)))) (dB (d2 eqD (d2 itemD (dVar 0) (dC (.int 1))) (dC (.str "0")))))) (dRet (d2 addD (dVar 1) (dC (.int 1)))) dNext)
  (dSeq (dSet 2 (d2 addD (dVar 1) (dC (.int 1))))
  (dSeq (dFor (iRange1 (dCB lenD (aCons (dVar 0) aNil))) (gN 3) (dSeq (dIfS (dOr (dB (d2 eqD (d2 itemD (dVar 0) (dVar 1)) (dC (.str "0")))) (dB (d2 (inD true) (dSlice (dVar 0) (dInt (dVar 2)) (dInt (d2 addD (dVar 2) (dC (.int 1))))) (dCB tupleD2 (aCons (dC (.str "0123456789")) aNil))))) dBreak dNext)
  (dSet 2 (d2 addD (dVar 2) (dC (.int 1))))))
  (dSeq (dIfS (dB (d2 eqD (dVar 2) (dCB lenD (aCons (dVar 0) aNil)))) (dRet (dC (.int 0))) dNext)
  (dSeq (dIfS (dOr (dB (d2 neD (d2 itemD (dVar 0) (dVar 2)) (dC (.str "/")))) (dB (d2 eqD (dSlice (dVar 0) (dC .non) (dInt (dVar 2))) (dC (.str "0"))))) (dRet (d2 addD (dVar 2) (dC (.int 1)))) dNext)
  (dSeq (dIfS (dB (d2 (inD true) (dSlice (dVar 0) (dInt (d2 addD (dVar 2) (dC (.int 1)))) (dInt (d2 addD (dVar 2) (dC (.int 2))))) (dCB tupleD2 (aCons (dC (.str "123456789")) aNil)))) (dRet (d2 addD (dVar 2) (dC (.int 2)))) dNext)
  (dSeq (dSet 4 (d2 addD (dVar 2) (dC (.int 2))))
  (dSeq (dFor (iRange1 (dCB lenD (aCons (dVar 0) aNil))) (gN 3) (dSeq (dIfS (dB (d2 (inD true) (dSlice (dVar 0) (dInt (dVar 4)) (dInt (d2 addD (dVar 4) (dC (.int 1))))) (dCB tupleD2 (aCons (dC (.str "0123456789")) aNil)))) dBreak dNext)
  (dSet 4 (d2 addD (dVar 4) (dC (.int 1))))))
  (dRet (dIf (dB (d2 eqD (dVar 4) (dCB lenD (aCons (dVar 0) aNil)))) (dC (.int 0)) (d2 addD (dVar 4) (dC (.int 1))))))))))))))
noncomputable def F__law_shape_column : FN := runF 5 b__law_shape_column
abbrev s__law_due : Stmt := top 24
abbrev N__law_due : List Str := ["_law_text", "_law_column", "_law_parts", "_law_top", "_law_bottom"]
theorem sc__law_due : FnScope N__law_due ["_law_text"] (defScope s__law_due) := ⟨rfl, rfl, rfl, by decide +kernel, rfl, by decide +kernel, by decide +kernel⟩
noncomputable def b__law_due : FS :=
  (dSeq (dSet 1 (dCall (lenIs 1 F__law_shape_column) [] (aCons (dVar 0) aNil)))
  (dSeq (dIfS (dB (d2 gtI (dVar 1) (dC (.int 0)))) (dRet (dVar 1)) dNext)
  (dSeq (dSet 2 (dStr1 splitD (dVar 0) (dC (.str "/"))))
  (dSeq (dIfS (dB (d2 eqD (dCB lenD (aCons (dVar 2) aNil)) (dC (.int 1)))) (dRet (dTup (aCons (dCB intD2 (aCons (dVar 0) aNil)) (aCons (dC (.int 1)) aNil)))) dNext)
  (dSeq (dPar 3 4 (aCons (dCB intD2 (aCons (d2 itemD (dVar 2) (dC (.int 0))) aNil)) (aCons (dCB intD2 (aCons (d2 itemD (dVar 2) (dC (.int 1))) aNil)) aNil)))
  (dRet (dIf (dAnd (dB (d2 gtI (dVar 4) (dC (.int 1)))) (dB (d2 eqD (dCall (lenIs 2 F__law_gcd) [] (aCons (dVar 3) (aCons (dVar 4) aNil))) (dC (.int 1))))) (dTup (aCons (dVar 3) (aCons (dVar 4) aNil))) (d2 addD (dCB lenD (aCons (d2 itemD (dVar 2) (dC (.int 0))) aNil)) (dC (.int 2))))))))))
noncomputable def F__law_due : FN := runF 5 b__law_due
abbrev s__law_read : Stmt := top 25
abbrev N__law_read : List Str := ["_law_value", "_law_one", "e"]
theorem sc__law_read : FnScope N__law_read ["_law_value"] (defScope s__law_read) := ⟨rfl, rfl, rfl, by decide +kernel, rfl, by decide +kernel, by decide +kernel⟩
noncomputable def b__law_read : FS :=
  (dSeq (dTryAs XS 1 2 (dSet 1 (dCall (lenIs 1 F_ratio_of) [] (aCons (dVar 0) aNil)))
  (dRet (dIf (dB (d2 eqD (dXf 2 "line") (dC (.int 1)))) (dXf 2 "column") (d1 negI (dC (.int 1))))))
  (dRet (dIf (dB (dIs [0] [(.own 0)] (dVar 1))) (dCall (lenIs 1 F__law_pair) [] (aCons (dVar 1) aNil)) (dC .non))))
noncomputable def F__law_read : FN := runF 3 b__law_read
abbrev s__law_start : Stmt := top 26
abbrev N__law_start : List Str := ["_law_pen_here", "_law_way", "_law_top", "_law_bottom"]
theorem sc__law_start : FnScope N__law_start ["_law_pen_here"] (defScope s__law_start) := ⟨rfl, rfl, rfl, by decide +kernel, rfl, by decide +kernel, by decide +kernel⟩
noncomputable def b__law_start : FS :=
  (dSeq (dSet 1 (dCall (lenIs 2 F__law_draw) [] (aCons (dVar 0) (aCons (dC (.int 4)) aNil))))
  (dSeq (dIfS (dB (d2 eqD (dVar 1) (dC (.int 0)))) (dRet (dCall (lenIs 2 F__law_pick) [] (aCons (dVar 0) (aCons (dLst (aCons (dC (.str "0")) (aCons (dC (.str "-1")) (aCons (dC (.str "2/4")) (aCons (dC (.str "3/1")) (aCons (dC (.str "-6/9")) (aCons (dC (.str "0/2")) (aCons (dC (.str "10/01")) (aCons (dC (.str "7")) (aCons (dC (.str "12/35")) (aCons (dC (.str "")) aNil))))))))))) aNil)))) dNext)
  (dSeq (dPar 2 3 (aCons (d2 subI (dCall (lenIs 2 F__law_draw) [] (aCons (dVar 0) (aCons (d2 powI (dC (.int 10)) (dC (.int 6))) aNil))) (dC (.int 400000))) (aCons (d2 addD (dC (.int 1)) (dCall (lenIs 2 F__law_draw) [] (aCons (dVar 0) (aCons (dC (.int 60)) aNil)))) aNil)))
  (dSeq (dIfS (dB (d2 eqD (dVar 1) (dC (.int 1)))) (dRet (d2 addD (d2 addD (dCB strD (aCons (dVar 2) aNil)) (dC (.str "/"))) (dCB strD (aCons (dVar 3) aNil)))) dNext)
  (dRet (dCall (lenIs 1 F__law_written) [] (aCons (dCall (lenIs 2 F__law_q) [] (aCons (dVar 2) (aCons (dVar 3) aNil))) aNil)))))))
noncomputable def F__law_start : FN := runF 4 b__law_start
abbrev s_law : Stmt := top 27
abbrev N_law : List Str := ["_law_script", "_law_pen_here", "_law_turn", "_law_text", "_law_bend", "_law_at", "_law_sign", "_law_odd"]
theorem sc_law : FnScope N_law ["_law_script"] (defScope s_law) := ⟨rfl, rfl, rfl, by decide +kernel, rfl, by decide +kernel, by decide +kernel⟩
noncomputable def b_law : FS :=
  (dSeq (dSet 1 (dCall (lenIs 1 F__law_pen) [] (aCons (dVar 0) aNil)))
  (dSeq (dFor (iRange1 (dC (.int 4))) (gN 2) (dSeq (dSet 3 (dCall (lenIs 1 F__law_start) [] (aCons (dVar 1) aNil)))
  (dSeq (dFor (iRange1 (dC (.int 4))) (gN 4) (dSeq (dIfS (dB (d2 neD (dCall (lenIs 1 F__law_read) [] (aCons (dVar 3) aNil)) (dCall (lenIs 1 F__law_due) [] (aCons (dVar 3) aNil)))) (dRet (dC (.bl false))) dNext)
  (dSeq (dSet 5 (dCall (lenIs 2 F__law_draw) [] (aCons (dVar 1) (aCons (d2 addD (dCB lenD (aCons (dVar 3) aNil)) (dC (.int 1))) aNil))))
  (dSeq (dSet 6 (dCall (lenIs 2 F__law_pick) [] (aCons (dVar 1) (aCons (dLst (aCons (dC (.str "0")) (aCons (dC (.str "1")) (aCons (dC (.str "7")) (aCons (dC (.str "/")) (aCons (dC (.str "-")) (aCons (dC (.str "+")) (aCons (dC (.str " ")) (aCons (dC (.str "a")) (aCons (dC (.str "")) aNil)))))))))) aNil))))
  (dSet 3 (d2 addD (d2 addD (dSlice (dVar 3) (dC .non) (dInt (dVar 5))) (dVar 6)) (dSlice (dVar 3) (dInt (d2 addD (dVar 5) (dCall (lenIs 2 F__law_draw) [] (aCons (dVar 1) (aCons (dC (.int 2)) aNil))))) (dC .non))))))))
  (dSeq (dSet 7 (d2 itemD (dLst (aCons (dC .non) (aCons (dC (.int 3)) (aCons (dMake 0 2 F_Ratio___init__ [] (aCons (dC (.int 1)) (aCons (dC (.int 2)) aNil))) (aCons (dTup (aCons (dC (.str "1")) aNil)) (aCons (dLst (aCons (dC (.str "1")) aNil)) (aCons (dC (.bl true)) aNil))))))) (dCall (lenIs 2 F__law_draw) [] (aCons (dVar 1) (aCons (dC (.int 6)) aNil)))))
  (dIfS (dB (d2 neD (dCall (lenIs 1 F__law_read) [] (aCons (dVar 7) aNil)) (dC (.int 1)))) (dRet (dC (.bl false))) dNext)))))
  (dRet (dC (.bl true)))))
noncomputable def F_law : FN := runF 8 b_law
abbrev s_BadText : Stmt := inClass (top 3) 0
theorem ss_BadText : ScopeS ["self", "line", "column"] (defScope s_BadText) := ⟨rfl, rfl, rfl, by decide +kernel, by decide +kernel, by decide +kernel, by decide +kernel, rfl, rfl⟩
abbrev s_BadNumber : Stmt := inClass (top 4) 0
theorem ss_BadNumber : ScopeS ["self", "what", "number"] (defScope s_BadNumber) := ⟨rfl, rfl, rfl, by decide +kernel, by decide +kernel, by decide +kernel, by decide +kernel, rfl, rfl⟩
abbrev s_TooLong : Stmt := inClass (top 5) 0
theorem ss_TooLong : ScopeS ["self", "digits"] (defScope s_TooLong) := ⟨rfl, rfl, rfl, by decide +kernel, by decide +kernel, by decide +kernel, by decide +kernel, rfl, rfl⟩
structure TxtB (K : PySem.W.Frag) (mg : Str → Option Value) (Γ : Gam) : Prop where
  hK : Γ.K = K
  gok : GOk Γ
  iok : IsOk Γ K [0]
  b_abs : mg "abs" = none
  b_int : mg "int" = none
  b_isinstance : mg "isinstance" = none
  b_len : mg "len" = none
  b_list : mg "list" = none
  b_max : mg "max" = none
  b_range : mg "range" = none
  b_str : mg "str" = none
  b_tuple : mg "tuple" = none
theorem TxtB.wx {K : PySem.W.Frag} {mg : Str → Option Value} {Γ : Gam} (T : TxtB K mg Γ) (a : Addr) (c : Nat) (d : Addr) : TxtB K mg (Γ.wx a c d) := ⟨T.hK, T.gok.wx a c d, T.iok.wx a c d, T.b_abs, T.b_int, T.b_isinstance, T.b_len, T.b_list, T.b_max, T.b_range, T.b_str, T.b_tuple⟩
structure Txt (P : Program) (K : PySem.W.Frag) (mg : Str → Option Value) (A : Nat → Addr) (fd : Nat → FuncData) (Γ : Gam) : Prop extends TxtB K mg Γ where
  v_DIGITS : ∃ t, mg "DIGITS" = some (.str "0123456789" t)
  g_divisor_of : mg "divisor_of" = some (.ref (A 1))
  f_divisor_of : Fn1 K "divisor_of" "divisor_of" s_divisor_of (A 1) (fd 1)
  n_divisor_of : Binds K (fd 1) ["one", "two"] []
  f_Ratio___init__ : Fn1 K "__init__" "Ratio.__init__" s_Ratio___init__ (A 4) (fd 4)
  n_Ratio___init__ : Binds K (fd 4) ["self", "top", "bottom"] []
  nd1_Ratio___init__ : ∃ ds, Vals ([.int 1] : List V) ds ∧ Binds K (fd 4) ["self", "top", "bottom"] ds
  g_number_end : mg "number_end" = some (.ref (A 15))
  f_number_end : Fn1 K "number_end" "number_end" s_number_end (A 15) (fd 15)
  n_number_end : Binds K (fd 15) ["text", "at"] []
  g_ratio_column : mg "ratio_column" = some (.ref (A 16))
  f_ratio_column : Fn1 K "ratio_column" "ratio_column" s_ratio_column (A 16) (fd 16)
  n_ratio_column : Binds K (fd 16) ["text"] []
  g_ratio_of : mg "ratio_of" = some (.ref (A 17))
  f_ratio_of : Fn1 K "ratio_of" "ratio_of" s_ratio_of (A 17) (fd 17)
  n_ratio_of : Binds K (fd 17) ["text"] []
  g__law_pen : mg "_law_pen" = some (.ref (A 18))
  f__law_pen : Fn1 K "_law_pen" "_law_pen" s__law_pen (A 18) (fd 18)
  n__law_pen : Binds K (fd 18) ["_law_script"] []
  g__law_draw : mg "_law_draw" = some (.ref (A 19))
  f__law_draw : Fn1 K "_law_draw" "_law_draw" s__law_draw (A 19) (fd 19)
  n__law_draw : Binds K (fd 19) ["_law_pen_here", "_law_many"] []
  g__law_pick : mg "_law_pick" = some (.ref (A 20))
  f__law_pick : Fn1 K "_law_pick" "_law_pick" s__law_pick (A 20) (fd 20)
  n__law_pick : Binds K (fd 20) ["_law_pen_here", "_law_some"] []
  g__law_gcd : mg "_law_gcd" = some (.ref (A 21))
  f__law_gcd : Fn1 K "_law_gcd" "_law_gcd" s__law_gcd (A 21) (fd 21)
  n__law_gcd : Binds K (fd 21) ["_law_one", "_law_two"] []
  g__law_q : mg "_law_q" = some (.ref (A 22))
  f__law_q : Fn1 K "_law_q" "_law_q" s__law_q (A 22) (fd 22)
  n__law_q : Binds K (fd 22) ["_law_top", "_law_bottom"] []
  g__law_written : mg "_law_written" = some (.ref (A 23))
  f__law_written : Fn1 K "_law_written" "_law_written" s__law_written (A 23) (fd 23)
  n__law_written : Binds K (fd 23) ["_law_one"] []
  g__law_pair : mg "_law_pair" = some (.ref (A 24))
  f__law_pair : Fn1 K "_law_pair" "_law_pair" s__law_pair (A 24) (fd 24)
  n__law_pair : Binds K (fd 24) ["_law_value"] []
  g__law_shape_column : mg "_law_shape_column" = some (.ref (A 25))
  f__law_shape_column : Fn1 K "_law_shape_column" "_law_shape_column" s__law_shape_column (A 25) (fd 25)
  n__law_shape_column : Binds K (fd 25) ["_law_text"] []
  g__law_due : mg "_law_due" = some (.ref (A 26))
  f__law_due : Fn1 K "_law_due" "_law_due" s__law_due (A 26) (fd 26)
  n__law_due : Binds K (fd 26) ["_law_text"] []
  g__law_read : mg "_law_read" = some (.ref (A 27))
  f__law_read : Fn1 K "_law_read" "_law_read" s__law_read (A 27) (fd 27)
  n__law_read : Binds K (fd 27) ["_law_value"] []
  g__law_start : mg "_law_start" = some (.ref (A 28))
  f__law_start : Fn1 K "_law_start" "_law_start" s__law_start (A 28) (fd 28)
  n__law_start : Binds K (fd 28) ["_law_pen_here"] []
  g_law : mg "law" = some (.ref (A 29))
  f_law : Fn1 K "law" "law" s_law (A 29) (fd 29)
  n_law : Binds K (fd 29) ["_law_script"] []
  c_Ratio : mg "Ratio" = some (.ref (Γ.cA 0))
  mk_Ratio : Mk K (Γ.cA 0) (A 4)
  g_BadText : mg "BadText" = some (.ref (Γ.eA 1))
  ek_BadText : ErrK P K mg (Γ.eA 1) (A 30) "__init__" "BadText.__init__" (defArgs s_BadText) (defBody s_BadText) (defScope s_BadText) (fd 30)
  oi_BadText : PySem.W.findIn K (.ref (Γ.eA 1)) "__init__" = some (some (.ref (A 30)))
  ot_BadText : PySem.W.typeIn K (.ref (A 30)) = some (.type "function")
  on_BadText : Binds K (fd 30) ["self", "line", "column"] []
  xf_BadText : XfC K (Γ.eA 1)
  g_BadNumber : mg "BadNumber" = some (.ref (Γ.eA 3))
  ek_BadNumber : ErrK P K mg (Γ.eA 3) (A 31) "__init__" "BadNumber.__init__" (defArgs s_BadNumber) (defBody s_BadNumber) (defScope s_BadNumber) (fd 31)
  oi_BadNumber : PySem.W.findIn K (.ref (Γ.eA 3)) "__init__" = some (some (.ref (A 31)))
  ot_BadNumber : PySem.W.typeIn K (.ref (A 31)) = some (.type "function")
  on_BadNumber : Binds K (fd 31) ["self", "what", "number"] []
  g_TooLong : mg "TooLong" = some (.ref (Γ.eA 8))
  ek_TooLong : ErrK P K mg (Γ.eA 8) (A 32) "__init__" "TooLong.__init__" (defArgs s_TooLong) (defBody s_TooLong) (defScope s_TooLong) (fd 32)
  oi_TooLong : PySem.W.findIn K (.ref (Γ.eA 8)) "__init__" = some (some (.ref (A 32)))
  ot_TooLong : PySem.W.typeIn K (.ref (A 32)) = some (.type "function")
  on_TooLong : Binds K (fd 32) ["self", "digits"] []
  of_BadNumber_number : PySem.W.findIn K (.ref (Γ.eA 3)) "number" = some none
  of_BadNumber_what : PySem.W.findIn K (.ref (Γ.eA 3)) "what" = some none
  of_BadText_column : PySem.W.findIn K (.ref (Γ.eA 1)) "column" = some none
  of_BadText_line : PySem.W.findIn K (.ref (Γ.eA 1)) "line" = some none
  of_TooLong_digits : PySem.W.findIn K (.ref (Γ.eA 8)) "digits" = some none
  xm : XmOk Γ K XS
section
variable {P : Program} {w : World} {K : PySem.W.Frag} {mg : Str → Option Value} {base : Heap} {A : Nat → Addr} {fd : Nat → FuncData} {Γ : Gam}
theorem eok_TooLong (T : Txt P K mg A fd Γ) : EOk Γ P w K mg base 8 (A 32) (fd 32) ["self", "digits"] := ⟨T.ek_TooLong.T, T.oi_TooLong, T.ot_TooLong, T.on_TooLong, (err_ok (k := 0) T.ek_TooLong ss_TooLong rfl rfl (fun _ _ _ _ _ _ _ => (pa_cons (pe_var (i := 1) rfl (.inl rfl)) pa_nil)) (hta1 rfl) (fun _ _ _ _ _ _ _ => pss_one (ps_ost (pe_var (i := 0) rfl (.inl rfl)) (pe_var (i := 1) rfl (.inl rfl)))) (fun _ _ _ => rfl) (fun _ _ _ => rfl) (fun _ _ _ => rfl)).imp fun vs H Q E s => spx1 T.ek_TooLong.T T.of_TooLong_digits rfl s⟩
theorem eok_BadNumber (T : Txt P K mg A fd Γ) : EOk Γ P w K mg base 3 (A 31) (fd 31) ["self", "what", "number"] := ⟨T.ek_BadNumber.T, T.oi_BadNumber, T.ot_BadNumber, T.on_BadNumber, (err_ok (k := 0) T.ek_BadNumber ss_BadNumber rfl rfl (fun _ _ _ _ _ _ _ => (pa_cons (pe_var (i := 1) rfl (.inl rfl)) (pa_cons (pe_var (i := 2) rfl (.inl rfl)) pa_nil))) (hta2 rfl) (fun _ _ _ _ _ _ _ => pss_one (ps_asg (pe_tup (pa_cons (pe_var (i := 1) rfl (.inl rfl)) (pa_cons (pe_var (i := 2) rfl (.inl rfl)) pa_nil))) (pg_tup rfl (pgs_cons (pg_ost (pe_var (i := 0) rfl (.inl rfl))) (pgs_cons (pg_ost (pe_var (i := 0) rfl (.inl rfl))) pgs_nil))))) (fun _ _ _ => rfl) (fun _ _ _ => rfl) (fun _ _ _ => rfl)).imp fun vs H Q E s => spx2 T.ek_BadNumber.T T.of_BadNumber_what T.of_BadNumber_number rfl s⟩
theorem eok_BadText (T : Txt P K mg A fd Γ) : EOk Γ P w K mg base 1 (A 30) (fd 30) ["self", "line", "column"] := ⟨T.ek_BadText.T, T.oi_BadText, T.ot_BadText, T.on_BadText, (err_ok (k := 0) T.ek_BadText ss_BadText rfl rfl (fun _ _ _ _ _ _ _ => (pa_cons (pe_var (i := 1) rfl (.inl rfl)) (pa_cons (pe_var (i := 2) rfl (.inl rfl)) pa_nil))) (hta2 rfl) (fun _ _ _ _ _ _ _ => pss_one (ps_asg (pe_tup (pa_cons (pe_var (i := 1) rfl (.inl rfl)) (pa_cons (pe_var (i := 2) rfl (.inl rfl)) pa_nil))) (pg_tup rfl (pgs_cons (pg_ost (pe_var (i := 0) rfl (.inl rfl))) (pgs_cons (pg_ost (pe_var (i := 0) rfl (.inl rfl))) pgs_nil))))) (fun _ _ _ => rfl) (fun _ _ _ => rfl) (fun _ _ _ => rfl)).imp fun vs H Q E s => spx2 T.ek_BadText.T T.of_BadText_line T.of_BadText_column rfl s⟩
theorem ok_divisor_of (T : Txt P K mg A fd Γ) : FnOk P w K mg base (L2.CX P w) 1 (A 1) (fd 1) ["one", "two"] (spF Γ 2 F_divisor_of) := fn_ok T.f_divisor_of sc_divisor_of fun cdv A' outer s H E hr tk => by
  exact (q_seq (q_par (ps_par (i := 0) (j := 1) rfl sc_divisor_of.nd rfl rfl (by decide) rfl rfl (qa_cons (q_callB call_abs ka_abs rfl T.b_abs (by decide +kernel) (qa_cons (q_var (pv 0)) qa_nil)) (qa_cons (q_callB call_abs ka_abs rfl T.b_abs (by decide +kernel) (qa_cons (q_var (pv 1)) qa_nil)) qa_nil)) rfl))
  (q_seq (q_while (passes_of rfl) (q_cmpT (op_neD hr.units) (k_neD T.hK) (q_var (pv 1)) q_int (nomark _)) (q_one (q_par (ps_par (i := 0) (j := 1) rfl sc_divisor_of.nd rfl rfl (by decide) rfl rfl (qa_cons (q_var (pv 1)) (qa_cons (q_op op_modN k_modI (q_var (pv 0)) (q_var (pv 1))) qa_nil)) rfl))))
  (q_one (q_ret (q_var (pv 0))))))
theorem ok_Ratio___init__ (T : Txt P K mg A fd Γ) : FnOk P w K mg base (L2.CX P w) 3 (A 4) (fd 4) ["self", "top", "bottom"] (spI Γ 0 2 F_Ratio___init__) := init_ok T.f_Ratio___init__ sc_Ratio___init__ fun cdv A' outer s H E hr tk => by
  exact (q_seq (q_ifS (q_cmpT (op_eqD hr.units) (k_eqD T.hK) (q_var (pv 2)) q_int (nomark _)) (q_one (q_raise (eok_BadNumber T) rfl tk (hr.mono (by decide)) rfl T.g_BadNumber (qa_cons q_str (qa_cons q_int qa_nil)))) q_nil)
  (q_seq (q_set (ps_set (i := 3) sc_Ratio___init__.nd rfl (Or.inl rfl) (q_if (q_cmpT op_gt k_gtI (q_var (pv 2)) q_int (nomark _)) (q_call (ok_divisor_of T) (hr.mono (by decide)) rfl T.g_divisor_of T.f_divisor_of.kp T.n_divisor_of .nil (fun _ _ => RepL.nil) tk (qa_cons (q_var (pv 1)) (qa_cons (q_var (pv 2)) qa_nil))) (q_neg (q_call (ok_divisor_of T) (hr.mono (by decide)) rfl T.g_divisor_of T.f_divisor_of.kp T.n_divisor_of .nil (fun _ _ => RepL.nil) tk (qa_cons (q_var (pv 1)) (qa_cons (q_var (pv 2)) qa_nil)))))))
  (q_one (q_asg (q_tup (qa_cons (q_op op_divO k_divI (q_var (pv 1)) (q_var (pv 3))) (qa_cons (q_op op_divO k_divI (q_var (pv 2)) (q_var (pv 3))) qa_nil))) (qg_tup T.hK rfl (qgs_cons (qg_self T.gok T.hK (pv 0)) (qgs_cons (qg_self T.gok T.hK (pv 0)) qgs_nil)))))))
theorem ok_number_end (T : Txt P K mg A fd Γ) : FnOk P w K mg base (L2.CX P w) 1 (A 15) (fd 15) ["text", "at"] (spF Γ 2 F_number_end) := fn_ok T.f_number_end sc_number_end fun cdv A' outer s H E hr tk => by
  exact (q_seq (q_set (ps_set (i := 2) sc_number_end.nd rfl (Or.inl rfl) (q_var (pv 1))))
  (q_seq (q_while (passes_of rfl) (PW.pt (q_and (q_cmpT op_lt k_ltI (q_var (pv 1)) (q_callB call_lenK (ka_len T.hK) rfl T.b_len (by decide +kernel) (qa_cons (q_var (pv 0)) qa_nil)) (nomark _)) (q_and1 (q_cmpT op_inD (k_inD T.hK) (q_ix T.hK (q_var (pv 0)) (q_var (pv 1)) (fun _ _ => rfl)) (q_c (fun _ _ => rfl) (pe_glob rfl T.v_DIGITS.choose_spec ⟨_, rfl⟩)) rfl)))) (q_seq (q_aug (i := 1) sc_number_end.nd rfl (Or.inl rfl) q_int ip_add (fun a b M => by cases a <;> cases b <;> rfl))
  (q_one (q_ifS (PW.pt (q_and (q_cmpT (op_eqD hr.units) (k_eqD T.hK) (q_var (pv 1)) (q_op op_addAll (k_addAll T.hK) (q_var (pv 2)) q_int) (nomark _)) (q_and1 (q_cmpT (op_eqD hr.units) (k_eqD T.hK) (q_ix T.hK (q_var (pv 0)) (q_var (pv 2)) (fun _ _ => rfl)) q_str (nomark _))))) (q_one q_break) q_nil))))
  (q_one (q_ret (q_var (pv 1))))))
theorem ok_ratio_column (T : Txt P K mg A fd Γ) : FnOk P w K mg base (L2.CX P w) 2 (A 16) (fd 16) ["text"] (spF Γ 1 F_ratio_column) := fn_ok T.f_ratio_column sc_ratio_column fun cdv A' outer s H E hr tk => by
  exact (q_seq (q_set (ps_set (i := 1) sc_ratio_column.nd rfl (Or.inl rfl) (q_if (q_cmpT (op_eqD hr.units) (k_eqD T.hK) (q_slice T.hK (q_var (pv 0)) qp_none (qp_some q_int)) q_str (nomark _)) q_int q_int)))
  (q_seq (q_set (ps_set (i := 2) sc_ratio_column.nd rfl (Or.inl rfl) (q_call (ok_number_end T) (hr.mono (by decide)) rfl T.g_number_end T.f_number_end.kp T.n_number_end .nil (fun _ _ => RepL.nil) tk (qa_cons (q_var (pv 0)) (qa_cons (q_var (pv 1)) qa_nil)))))
  (q_seq (q_ifS (PW.pt (q_or (q_cmpT (op_eqD hr.units) (k_eqD T.hK) (q_var (pv 2)) (q_var (pv 1)) (nomark _)) (q_or1 (PW.pt (q_and (q_cmpT (op_eqD hr.units) (k_eqD T.hK) (q_var (pv 1)) q_int (nomark _)) (q_and1 (q_cmpT (op_eqD hr.units) (k_eqD T.hK) (q_ix T.hK (q_var (pv 0)) q_int (fun _ _ => rfl)) q_str (nomark _)))))))) (q_one (q_ret (q_op op_addAll (k_addAll T.hK) (q_var (pv 1)) q_int))) q_nil)
  (q_seq (q_ifS (q_cmpT (op_eqD hr.units) (k_eqD T.hK) (q_var (pv 2)) (q_callB call_lenK (ka_len T.hK) rfl T.b_len (by decide +kernel) (qa_cons (q_var (pv 0)) qa_nil)) (nomark _)) (q_one (q_ret q_int)) q_nil)
  (q_seq (q_ifS (PW.pt (q_or (q_cmpT (op_neD hr.units) (k_neD T.hK) (q_ix T.hK (q_var (pv 0)) (q_var (pv 2)) (fun _ _ => rfl)) q_str (nomark _)) (q_or1 (q_cmpT (op_eqD hr.units) (k_eqD T.hK) (q_slice T.hK (q_var (pv 0)) qp_none (qp_some (q_var (pv 2)))) q_str (nomark _))))) (q_one (q_ret (q_op op_addAll (k_addAll T.hK) (q_var (pv 2)) q_int))) q_nil)
  (q_seq (q_set (ps_set (i := 3) sc_ratio_column.nd rfl (Or.inl rfl) (q_call (ok_number_end T) (hr.mono (by decide)) rfl T.g_number_end T.f_number_end.kp T.n_number_end .nil (fun _ _ => RepL.nil) tk (qa_cons (q_var (pv 0)) (qa_cons (q_op op_addAll (k_addAll T.hK) (q_var (pv 2)) q_int) qa_nil)))))
  (q_seq (q_ifS (PW.pt (q_or (q_cmpT (op_eqD hr.units) (k_eqD T.hK) (q_var (pv 3)) (q_op op_addAll (k_addAll T.hK) (q_var (pv 2)) q_int) (nomark _)) (q_or1 (q_cmpT (op_eqD hr.units) (k_eqD T.hK) (q_ix T.hK (q_var (pv 0)) (q_op op_addAll (k_addAll T.hK) (q_var (pv 2)) q_int) (fun _ _ => rfl)) q_str (nomark _))))) (q_one (q_ret (q_op op_addAll (k_addAll T.hK) (q_var (pv 2)) q_int))) q_nil)
  (q_one (q_ret (q_if (q_cmpT (op_eqD hr.units) (k_eqD T.hK) (q_var (pv 3)) (q_callB call_lenK (ka_len T.hK) rfl T.b_len (by decide +kernel) (qa_cons (q_var (pv 0)) qa_nil)) (nomark _)) q_int (q_op op_addAll (k_addAll T.hK) (q_var (pv 3)) q_int)))))))))))
theorem ok_ratio_of (T : Txt P K mg A fd Γ) : FnOk P w K mg base (L2.CX P w) 5 (A 17) (fd 17) ["text"] (spF Γ 1 F_ratio_of) := fn_ok T.f_ratio_of sc_ratio_of fun cdv A' outer s H E hr tk => by
  exact (q_seq (q_ifS (q_not (q_val (q_is1 (cl := .str) T.iok T.hK rfl T.b_isinstance (q_var (pv 0)) (pe_tyI "str" "str" rfl T.b_str (by decide +kernel))))) (q_one (q_raise (eok_BadText T) rfl tk (hr.mono (by decide)) rfl T.g_BadText (qa_cons q_int (qa_cons q_int qa_nil)))) q_nil)
  (q_seq (q_set (ps_set (i := 1) sc_ratio_of.nd rfl (Or.inl rfl) (q_call (ok_ratio_column T) (hr.mono (by decide)) rfl T.g_ratio_column T.f_ratio_column.kp T.n_ratio_column .nil (fun _ _ => RepL.nil) tk (qa_cons (q_var (pv 0)) qa_nil))))
  (q_seq (q_ifS (q_cmpT op_gt k_gtI (q_var (pv 1)) q_int (nomark _)) (q_one (q_raise (eok_BadText T) rfl tk (hr.mono (by decide)) rfl T.g_BadText (qa_cons q_int (qa_cons (q_var (pv 1)) qa_nil)))) q_nil)
  (q_seq (q_set (ps_set (i := 2) sc_ratio_of.nd rfl (Or.inl rfl) (q_split (q_var (pv 0)) q_str)))
  (q_seq (q_set (ps_set (i := 3) sc_ratio_of.nd rfl (Or.inl rfl) (q_callB (cr_max rfl) (ka_max T.hK) rfl T.b_max (by decide +kernel) (qa_cons (q_lst (qa_cons (q_callB call_lenK (ka_len T.hK) rfl T.b_len (by decide +kernel) (qa_cons (q_lstrip (q_ix T.hK (q_var (pv 2)) q_int (fun _ _ => rfl)) q_str) qa_nil)) (qa_cons (q_if (q_cmpT (op_eqD hr.units) (k_eqD T.hK) (q_callB call_lenK (ka_len T.hK) rfl T.b_len (by decide +kernel) (qa_cons (q_var (pv 2)) qa_nil)) q_int (nomark _)) (q_callB call_lenK (ka_len T.hK) rfl T.b_len (by decide +kernel) (qa_cons (q_ix T.hK (q_var (pv 2)) (q_neg q_int) (fun _ _ => rfl)) qa_nil)) q_int) qa_nil))) qa_nil))))
  (q_seq (q_ifS (q_cmpT op_gt k_gtI (q_var (pv 3)) q_int (nomark _)) (q_one (q_raise (eok_TooLong T) rfl tk (hr.mono (by decide)) rfl T.g_TooLong (qa_cons (q_var (pv 3)) qa_nil))) q_nil)
  (q_seq (q_ifS (q_cmpT (op_eqD hr.units) (k_eqD T.hK) (q_callB call_lenK (ka_len T.hK) rfl T.b_len (by decide +kernel) (qa_cons (q_var (pv 2)) qa_nil)) q_int (nomark _)) (q_one (q_ret (q_make T.mk_Ratio (ok_Ratio___init__ T) (hr.mono (by decide)) rfl T.c_Ratio (T.nd1_Ratio___init__).choose_spec.2 (T.nd1_Ratio___init__).choose_spec.1 (fun _ _ => (RepL.cons rfl RepL.nil)) tk (qa_cons (q_callTy call_intAll ka_intAll rfl T.b_int (by decide +kernel) (qa_cons (q_var (pv 0)) qa_nil)) qa_nil)))) q_nil)
  (q_seq (q_par (ps_par (i := 4) (j := 5) rfl sc_ratio_of.nd rfl rfl (by decide) rfl rfl (qa_cons (q_callTy call_intAll ka_intAll rfl T.b_int (by decide +kernel) (qa_cons (q_ix T.hK (q_var (pv 2)) q_int (fun _ _ => rfl)) qa_nil)) (qa_cons (q_callTy call_intAll ka_intAll rfl T.b_int (by decide +kernel) (qa_cons (q_ix T.hK (q_var (pv 2)) q_int (fun _ _ => rfl)) qa_nil)) qa_nil)) rfl))
  (q_seq (q_ifS (PW.pt (q_or (q_cmpT (op_eqD hr.units) (k_eqD T.hK) (q_var (pv 5)) q_int (nomark _)) (q_or1 (q_cmpT op_gt k_gtI (q_call (ok_divisor_of T) (hr.mono (by decide)) rfl T.g_divisor_of T.f_divisor_of.kp T.n_divisor_of .nil (fun _ _ => RepL.nil) tk (qa_cons (q_var (pv 4)) (qa_cons (q_var (pv 5)) qa_nil))) q_int (nomark _))))) (q_one (q_raise (eok_BadText T) rfl tk (hr.mono (by decide)) rfl T.g_BadText (qa_cons q_int (qa_cons (q_op op_addAll (k_addAll T.hK) (q_callB call_lenK (ka_len T.hK) rfl T.b_len (by decide +kernel) (qa_cons (q_ix T.hK (q_var (pv 2)) q_int (fun _ _ => rfl)) qa_nil)) q_int) qa_nil)))) q_nil)
  (q_one (q_ret (q_make T.mk_Ratio (ok_Ratio___init__ T) (hr.mono (by decide)) rfl T.c_Ratio T.n_Ratio___init__ .nil (fun _ _ => RepL.nil) tk (qa_cons (q_var (pv 4)) (qa_cons (q_var (pv 5)) qa_nil))))))))))))))
theorem ok__law_pen (T : Txt P K mg A fd Γ) : FnOk P w K mg base (L2.CX P w) 1 (A 18) (fd 18) ["_law_script"] (spF Γ 1 F__law_pen) := fn_ok T.f__law_pen sc__law_pen fun cdv A' outer s H E hr tk => by
  exact (q_seq (q_set (ps_set (i := 1) sc__law_pen.nd rfl (Or.inl rfl) q_int))
  (q_seq (q_for (passes_of rfl) rfl (qi_seq T.hK (q_var (pv 0))) (qg_name (pg_name (i := 2) sc__law_pen.nd rfl (Or.inl rfl))) (q_one (q_set (ps_set (i := 1) sc__law_pen.nd rfl (Or.inl rfl) (q_op op_modN k_modI (q_callTy call_intAll ka_intAll rfl T.b_int (by decide +kernel) (qa_cons (q_op op_addAll (k_addAll T.hK) (q_op op_mulAll (k_mulAll T.hK) (q_var (pv 1)) q_int) (q_var (pv 2))) qa_nil)) q_int)))))
  (q_one (q_ret (q_disp (qd_cons (q_callTy call_list_of (ka_list T.hK) rfl T.b_list (by decide +kernel) (qa_cons (q_var (pv 0)) qa_nil)) (qd_cons q_int (qd_cons q_int (qd_cons q_int (qd_cons (q_var (pv 1)) qd_nil))))) rfl rfl (fun z => nomatch z) (by decide))))))
theorem ok__law_draw (T : Txt P K mg A fd Γ) : FnOk P w K mg base (L2.CX P w) 1 (A 19) (fd 19) ["_law_pen_here", "_law_many"] (spF Γ 2 F__law_draw) := fn_ok T.f__law_draw sc__law_draw fun cdv A' outer s H E hr tk => by
  exact (q_seq (q_putK (ps_dput (hu_of hr) (q_var (pv 0)) q_str (q_op op_addAll (k_addAll T.hK) (q_getK (hu_of hr) (q_var (pv 0)) q_str (fun _ _ => rfl)) q_int) rfl))
  (q_seq (q_ifS (PW.pt (q_and (q_cmpT (op_eqD hr.units) (k_eqD T.hK) (q_getK (hu_of hr) (q_var (pv 0)) q_str (fun _ _ => rfl)) q_int (nomark _)) (q_and1 (q_cmpT op_lt k_ltI (q_getK (hu_of hr) (q_var (pv 0)) q_str (fun _ _ => rfl)) (q_callB call_lenK (ka_len T.hK) rfl T.b_len (by decide +kernel) (qa_cons (q_getK (hu_of hr) (q_var (pv 0)) q_str (fun _ _ => rfl)) qa_nil)) (nomark _))))) (q_seq (q_set (ps_set (i := 2) sc__law_draw.nd rfl (Or.inl rfl) (q_ix T.hK (q_getK (hu_of hr) (q_var (pv 0)) q_str (fun _ _ => rfl)) (q_getK (hu_of hr) (q_var (pv 0)) q_str (fun _ _ => rfl)) (fun _ _ => rfl))))
  (q_seq (q_putK (ps_dput (hu_of hr) (q_var (pv 0)) q_str (q_op op_addAll (k_addAll T.hK) (q_getK (hu_of hr) (q_var (pv 0)) q_str (fun _ _ => rfl)) q_int) rfl))
  (q_one (q_ifS (q_cmpT op_ge k_geI (q_var (pv 2)) (q_op op_pow k_powI q_int q_int) (nomark _)) (q_one (q_putK (ps_dput (hu_of hr) (q_var (pv 0)) q_str (q_op op_sub k_subI (q_var (pv 2)) (q_op op_pow k_powI q_int q_int)) rfl))) (q_one (q_putK (ps_dput (hu_of hr) (q_var (pv 0)) q_str (q_op op_modN k_modI (q_callTy call_intAll ka_intAll rfl T.b_int (by decide +kernel) (qa_cons (q_op op_addAll (k_addAll T.hK) (q_op op_mulAll (k_mulAll T.hK) (q_getK (hu_of hr) (q_var (pv 0)) q_str (fun _ _ => rfl)) q_int) (q_var (pv 2))) qa_nil)) q_int) rfl))))))) q_nil)
  (q_seq (q_ifS (q_cmpT op_gt k_gtI (q_getK (hu_of hr) (q_var (pv 0)) q_str (fun _ _ => rfl)) q_int (nomark _)) (q_seq (q_set (ps_set (i := 3) sc__law_draw.nd rfl (Or.inl rfl) (q_op op_modN k_modI (q_callTy call_intAll ka_intAll rfl T.b_int (by decide +kernel) (qa_cons (q_getK (hu_of hr) (q_var (pv 0)) q_str (fun _ _ => rfl)) qa_nil)) (q_var (pv 1)))))
  (q_seq (q_putK (ps_dput (hu_of hr) (q_var (pv 0)) q_str (q_op op_divO k_divI (q_getK (hu_of hr) (q_var (pv 0)) q_str (fun _ _ => rfl)) (q_var (pv 1))) rfl))
  (q_one (q_ret (q_var (pv 3)))))) q_nil)
  (q_seq (q_set (ps_set (i := 4) sc__law_draw.nd rfl (Or.inl rfl) (q_op op_addAll (k_addAll T.hK) (q_op op_addAll (k_addAll T.hK) (q_getK (hu_of hr) (q_var (pv 0)) q_str (fun _ _ => rfl)) (q_op op_mulAll (k_mulAll T.hK) (q_getK (hu_of hr) (q_var (pv 0)) q_str (fun _ _ => rfl)) q_int)) q_int)))
  (q_one (q_ret (q_op op_modN k_modI (q_op op_divO k_divI (q_callTy call_intAll ka_intAll rfl T.b_int (by decide +kernel) (qa_cons (q_op op_modN k_modI (q_op op_pow k_powI (q_var (pv 4)) q_int) q_int) qa_nil)) q_int) (q_var (pv 1)))))))))
theorem ok__law_pick (T : Txt P K mg A fd Γ) : FnOk P w K mg base (L2.CX P w) 2 (A 20) (fd 20) ["_law_pen_here", "_law_some"] (spF Γ 2 F__law_pick) := fn_ok T.f__law_pick sc__law_pick fun cdv A' outer s H E hr tk => by
  exact (q_one (q_ret (q_ix T.hK (q_var (pv 1)) (q_call (ok__law_draw T) (hr.mono (by decide)) rfl T.g__law_draw T.f__law_draw.kp T.n__law_draw .nil (fun _ _ => RepL.nil) tk (qa_cons (q_var (pv 0)) (qa_cons (q_callB call_lenK (ka_len T.hK) rfl T.b_len (by decide +kernel) (qa_cons (q_var (pv 1)) qa_nil)) qa_nil))) (fun _ _ => rfl))))
theorem ok__law_gcd (T : Txt P K mg A fd Γ) : FnOk P w K mg base (L2.CX P w) 1 (A 21) (fd 21) ["_law_one", "_law_two"] (spF Γ 2 F__law_gcd) := fn_ok T.f__law_gcd sc__law_gcd fun cdv A' outer s H E hr tk => by
  exact (q_seq (q_par (ps_par (i := 0) (j := 1) rfl sc__law_gcd.nd rfl rfl (by decide) rfl rfl (qa_cons (q_callB call_abs ka_abs rfl T.b_abs (by decide +kernel) (qa_cons (q_var (pv 0)) qa_nil)) (qa_cons (q_callB call_abs ka_abs rfl T.b_abs (by decide +kernel) (qa_cons (q_var (pv 1)) qa_nil)) qa_nil)) rfl))
  (q_seq (q_for (passes_of rfl) rfl (qi_range1 rfl T.b_range q_int) (qg_name (pg_name (i := 2) sc__law_gcd.nd rfl (Or.inl rfl))) (q_seq (q_ifS (q_cmpT (op_eqD hr.units) (k_eqD T.hK) (q_var (pv 1)) q_int (nomark _)) (q_one q_break) q_nil)
  (q_one (q_par (ps_par (i := 0) (j := 1) rfl sc__law_gcd.nd rfl rfl (by decide) rfl rfl (qa_cons (q_var (pv 1)) (qa_cons (q_op op_modN k_modI (q_callTy call_intAll ka_intAll rfl T.b_int (by decide +kernel) (qa_cons (q_var (pv 0)) qa_nil)) (q_var (pv 1))) qa_nil)) rfl)))))
  (q_one (q_ret (q_var (pv 0))))))
theorem ok__law_q (T : Txt P K mg A fd Γ) : FnOk P w K mg base (L2.CX P w) 2 (A 22) (fd 22) ["_law_top", "_law_bottom"] (spF Γ 2 F__law_q) := fn_ok T.f__law_q sc__law_q fun cdv A' outer s H E hr tk => by
  exact (q_seq (q_set (ps_set (i := 2) sc__law_q.nd rfl (Or.inl rfl) (q_call (ok__law_gcd T) (hr.mono (by decide)) rfl T.g__law_gcd T.f__law_gcd.kp T.n__law_gcd .nil (fun _ _ => RepL.nil) tk (qa_cons (q_var (pv 0)) (qa_cons (q_var (pv 1)) qa_nil)))))
  (q_seq (q_ifS (q_cmpT op_lt k_ltI (q_var (pv 1)) q_int (nomark _)) (q_one (q_set (ps_set (i := 2) sc__law_q.nd rfl (Or.inl rfl) (q_neg (q_var (pv 2)))))) q_nil)
  (q_one (q_ret (q_tup (qa_cons (q_op op_divO k_divI (q_var (pv 0)) (q_var (pv 2))) (qa_cons (q_op op_divO k_divI (q_var (pv 1)) (q_var (pv 2))) qa_nil)))))))
theorem ok__law_written (T : Txt P K mg A fd Γ) : FnOk P w K mg base (L2.CX P w) 1 (A 23) (fd 23) ["_law_one"] (spF Γ 1 F__law_written) := fn_ok T.f__law_written sc__law_written fun cdv A' outer s H E hr tk => by
  exact (q_one (q_ret (q_if (q_cmpT (op_eqD hr.units) (k_eqD T.hK) (q_ix T.hK (q_var (pv 0)) q_int (fun _ _ => rfl)) q_int (nomark _)) (q_callTy call_str_int ka_str rfl T.b_str (by decide +kernel) (qa_cons (q_ix T.hK (q_var (pv 0)) q_int (fun _ _ => rfl)) qa_nil)) (q_op op_addAll (k_addAll T.hK) (q_op op_addAll (k_addAll T.hK) (q_callTy call_str_int ka_str rfl T.b_str (by decide +kernel) (qa_cons (q_ix T.hK (q_var (pv 0)) q_int (fun _ _ => rfl)) qa_nil)) q_str) (q_callTy call_str_int ka_str rfl T.b_str (by decide +kernel) (qa_cons (q_ix T.hK (q_var (pv 0)) q_int (fun _ _ => rfl)) qa_nil))))))
theorem ok__law_pair (T : Txt P K mg A fd Γ) : FnOk P w K mg base (L2.CX P w) 1 (A 24) (fd 24) ["_law_value"] (spF Γ 1 F__law_pair) := fn_ok T.f__law_pair sc__law_pair fun cdv A' outer s H E hr tk => by
  exact (q_one (q_ret (q_tup (qa_cons (q_fld T.gok T.hK (q_var (pv 0))) (qa_cons (q_fld T.gok T.hK (q_var (pv 0))) qa_nil)))))
theorem ok__law_shape_column (T : Txt P K mg A fd Γ) : FnOk P w K mg base (L2.CX P w) 1 (A 25) (fd 25) ["_law_text"] (spF Γ 1 F__law_shape_column) := fn_ok T.f__law_shape_column sc__law_shape_column fun cdv A' outer s H E hr tk => by
  exact (q_seq (q_set (ps_set (i := 1) sc__law_shape_column.nd rfl (Or.inl rfl) (q_callTy call_intAll ka_intAll rfl T.b_int (by decide +kernel) (qa_cons (q_cmp (op_eqD hr.units) (k_eqD T.hK) (q_slice T.hK (q_var (pv 0)) qp_none (qp_some q_int)) q_str (nomark _)) qa_nil))))
  (q_seq (q_ifS (PW.pt (q_or (q_cmpT op_notInD (k_inD T.hK) (q_slice T.hK (q_var (pv 0)) (qp_some (q_var (pv 1))) (qp_some (q_op op_addAll (k_addAll T.hK) (q_var (pv 1)) q_int))) (q_callTy (call_tupAll rfl) (ka_tupAll T.hK) rfl T.b_tuple (by decide +kernel) (qa_cons q_str qa_nil)) rfl) (q_or1 (PW.pt (q_and (q_cmpT (op_eqD hr.units) (k_eqD T.hK) (q_var (pv 1)) q_int (nomark _)) (q_and1 (q_cmpT (op_eqD hr.units) (k_eqD T.hK) (q_ix T.hK (q_var (pv 0)) q_int (fun _ _ => rfl)) q_str (nomark _)))))))) (q_one (q_ret (q_op op_addAll (k_addAll T.hK) (q_var (pv 1)) q_int))) q_nil)
  (q_seq (q_set (ps_set (i := 2) sc__law_shape_column.nd rfl (Or.inl rfl) (q_op op_addAll (k_addAll T.hK) (q_var (pv 1)) q_int)))
  (q_seq (q_for (passes_of rfl) rfl (qi_range1 rfl T.b_range (q_callB call_lenK (ka_len T.hK) rfl T.b_len (by decide +kernel) (qa_cons (q_var (pv 0)) qa_nil))) (qg_name (pg_name (i := 3) sc__law_shape_column.nd rfl (Or.inl rfl))) (q_seq (q_ifS (PW.pt (q_or (q_cmpT (op_eqD hr.units) (k_eqD T.hK) (q_ix T.hK (q_var (pv 0)) (q_var (pv 1)) (fun _ _ => rfl)) q_str (nomark _)) (q_or1 (q_cmpT op_notInD (k_inD T.hK) (q_slice T.hK (q_var (pv 0)) (qp_some (q_var (pv 2))) (qp_some (q_op op_addAll (k_addAll T.hK) (q_var (pv 2)) q_int))) (q_callTy (call_tupAll rfl) (ka_tupAll T.hK) rfl T.b_tuple (by decide +kernel) (qa_cons q_str qa_nil)) rfl)))) (q_one q_break) q_nil)
  (q_one (q_set (ps_set (i := 2) sc__law_shape_column.nd rfl (Or.inl rfl) (q_op op_addAll (k_addAll T.hK) (q_var (pv 2)) q_int))))))
  (q_seq (q_ifS (q_cmpT (op_eqD hr.units) (k_eqD T.hK) (q_var (pv 2)) (q_callB call_lenK (ka_len T.hK) rfl T.b_len (by decide +kernel) (qa_cons (q_var (pv 0)) qa_nil)) (nomark _)) (q_one (q_ret q_int)) q_nil)
  (q_seq (q_ifS (PW.pt (q_or (q_cmpT (op_neD hr.units) (k_neD T.hK) (q_ix T.hK (q_var (pv 0)) (q_var (pv 2)) (fun _ _ => rfl)) q_str (nomark _)) (q_or1 (q_cmpT (op_eqD hr.units) (k_eqD T.hK) (q_slice T.hK (q_var (pv 0)) qp_none (qp_some (q_var (pv 2)))) q_str (nomark _))))) (q_one (q_ret (q_op op_addAll (k_addAll T.hK) (q_var (pv 2)) q_int))) q_nil)
  (q_seq (q_ifS (q_cmpT op_notInD (k_inD T.hK) (q_slice T.hK (q_var (pv 0)) (qp_some (q_op op_addAll (k_addAll T.hK) (q_var (pv 2)) q_int)) (qp_some (q_op op_addAll (k_addAll T.hK) (q_var (pv 2)) q_int))) (q_callTy (call_tupAll rfl) (ka_tupAll T.hK) rfl T.b_tuple (by decide +kernel) (qa_cons q_str qa_nil)) rfl) (q_one (q_ret (q_op op_addAll (k_addAll T.hK) (q_var (pv 2)) q_int))) q_nil)
  (q_seq (q_set (ps_set (i := 4) sc__law_shape_column.nd rfl (Or.inl rfl) (q_op op_addAll (k_addAll T.hK) (q_var (pv 2)) q_int)))
  (q_seq (q_for (passes_of rfl) rfl (qi_range1 rfl T.b_range (q_callB call_lenK (ka_len T.hK) rfl T.b_len (by decide +kernel) (qa_cons (q_var (pv 0)) qa_nil))) (qg_name (pg_name (i := 3) sc__law_shape_column.nd rfl (Or.inl rfl))) (q_seq (q_ifS (q_cmpT op_notInD (k_inD T.hK) (q_slice T.hK (q_var (pv 0)) (qp_some (q_var (pv 4))) (qp_some (q_op op_addAll (k_addAll T.hK) (q_var (pv 4)) q_int))) (q_callTy (call_tupAll rfl) (ka_tupAll T.hK) rfl T.b_tuple (by decide +kernel) (qa_cons q_str qa_nil)) rfl) (q_one q_break) q_nil)
  (q_one (q_set (ps_set (i := 4) sc__law_shape_column.nd rfl (Or.inl rfl) (q_op op_addAll (k_addAll T.hK) (q_var (pv 4)) q_int))))))
  (q_one (q_ret (q_if (q_cmpT (op_eqD hr.units) (k_eqD T.hK) (q_var (pv 4)) (q_callB call_lenK (ka_len T.hK) rfl T.b_len (by decide +kernel) (qa_cons (q_var (pv 0)) qa_nil)) (nomark _)) q_int (q_op op_addAll (k_addAll T.hK) (q_var (pv 4)) q_int)))))))))))))
theorem ok__law_due (T : Txt P K mg A fd Γ) : FnOk P w K mg base (L2.CX P w) 2 (A 26) (fd 26) ["_law_text"] (spF Γ 1 F__law_due) := fn_ok T.f__law_due sc__law_due fun cdv A' outer s H E hr tk => by
  exact (q_seq (q_set (ps_set (i := 1) sc__law_due.nd rfl (Or.inl rfl) (q_call (ok__law_shape_column T) (hr.mono (by decide)) rfl T.g__law_shape_column T.f__law_shape_column.kp T.n__law_shape_column .nil (fun _ _ => RepL.nil) tk (qa_cons (q_var (pv 0)) qa_nil))))
  (q_seq (q_ifS (q_cmpT op_gt k_gtI (q_var (pv 1)) q_int (nomark _)) (q_one (q_ret (q_var (pv 1)))) q_nil)
  (q_seq (q_set (ps_set (i := 2) sc__law_due.nd rfl (Or.inl rfl) (q_split (q_var (pv 0)) q_str)))
  (q_seq (q_ifS (q_cmpT (op_eqD hr.units) (k_eqD T.hK) (q_callB call_lenK (ka_len T.hK) rfl T.b_len (by decide +kernel) (qa_cons (q_var (pv 2)) qa_nil)) q_int (nomark _)) (q_one (q_ret (q_tup (qa_cons (q_callTy call_intAll ka_intAll rfl T.b_int (by decide +kernel) (qa_cons (q_var (pv 0)) qa_nil)) (qa_cons q_int qa_nil))))) q_nil)
  (q_seq (q_par (ps_par (i := 3) (j := 4) rfl sc__law_due.nd rfl rfl (by decide) rfl rfl (qa_cons (q_callTy call_intAll ka_intAll rfl T.b_int (by decide +kernel) (qa_cons (q_ix T.hK (q_var (pv 2)) q_int (fun _ _ => rfl)) qa_nil)) (qa_cons (q_callTy call_intAll ka_intAll rfl T.b_int (by decide +kernel) (qa_cons (q_ix T.hK (q_var (pv 2)) q_int (fun _ _ => rfl)) qa_nil)) qa_nil)) rfl))
  (q_one (q_ret (q_if (PW.pt (q_and (q_cmpT op_gt k_gtI (q_var (pv 4)) q_int (nomark _)) (q_and1 (q_cmpT (op_eqD hr.units) (k_eqD T.hK) (q_call (ok__law_gcd T) (hr.mono (by decide)) rfl T.g__law_gcd T.f__law_gcd.kp T.n__law_gcd .nil (fun _ _ => RepL.nil) tk (qa_cons (q_var (pv 3)) (qa_cons (q_var (pv 4)) qa_nil))) q_int (nomark _))))) (q_tup (qa_cons (q_var (pv 3)) (qa_cons (q_var (pv 4)) qa_nil))) (q_op op_addAll (k_addAll T.hK) (q_callB call_lenK (ka_len T.hK) rfl T.b_len (by decide +kernel) (qa_cons (q_ix T.hK (q_var (pv 2)) q_int (fun _ _ => rfl)) qa_nil)) q_int)))))))))
theorem ok__law_read (T : Txt P K mg A fd Γ) : FnOk P w K mg base (L2.CX P w) 6 (A 27) (fd 27) ["_law_value"] (spF Γ 1 F__law_read) := fn_ok T.f__law_read sc__law_read fun cdv A' outer s H E hr tk => by
  exact (q_seq (q_tryAs (i := 2) T.xm rfl rfl sc__law_read.nd rfl rfl ⟨rfl, by decide, .inl T.g_BadText⟩ tk (fun W' pn xe tk' hp' => (q_one (q_set (ps_set (i := 1) sc__law_read.nd rfl (Or.inl rfl) (q_call (ok_ratio_of T) (hr.mono (by decide)) rfl T.g_ratio_of T.f_ratio_of.kp T.n_ratio_of .nil (fun _ _ => RepL.nil) tk' (qa_cons (q_var (pv 0)) qa_nil)))))) (fun a oe cls d pn hz hf => q_sui fun d' ed ec => (by
  have T0 := T.toTxtB.wx a 1 d'
  exact (q_one (q_ret (q_if (q_cmpT (op_eqD hr.units) (k_eqD T0.hK) (q_xf T.xf_BadText T.of_BadText_line hz hf ed ec (pv 2)) q_int (nomark _)) (q_xf T.xf_BadText T.of_BadText_column hz hf ed ec (pv 2)) (q_neg q_int)))))))
  (q_one (q_ret (q_if (q_val (q_is1 (cl := (.own 0)) T.iok T.hK rfl T.b_isinstance (q_var (pv 1)) (pe_glob rfl T.c_Ratio rfl))) (q_call (ok__law_pair T) (hr.mono (by decide)) rfl T.g__law_pair T.f__law_pair.kp T.n__law_pair .nil (fun _ _ => RepL.nil) tk (qa_cons (q_var (pv 1)) qa_nil)) q_non))))
theorem ok__law_start (T : Txt P K mg A fd Γ) : FnOk P w K mg base (L2.CX P w) 3 (A 28) (fd 28) ["_law_pen_here"] (spF Γ 1 F__law_start) := fn_ok T.f__law_start sc__law_start fun cdv A' outer s H E hr tk => by
  exact (q_seq (q_set (ps_set (i := 1) sc__law_start.nd rfl (Or.inl rfl) (q_call (ok__law_draw T) (hr.mono (by decide)) rfl T.g__law_draw T.f__law_draw.kp T.n__law_draw .nil (fun _ _ => RepL.nil) tk (qa_cons (q_var (pv 0)) (qa_cons q_int qa_nil)))))
  (q_seq (q_ifS (q_cmpT (op_eqD hr.units) (k_eqD T.hK) (q_var (pv 1)) q_int (nomark _)) (q_one (q_ret (q_call (ok__law_pick T) (hr.mono (by decide)) rfl T.g__law_pick T.f__law_pick.kp T.n__law_pick .nil (fun _ _ => RepL.nil) tk (qa_cons (q_var (pv 0)) (qa_cons (q_lst (qa_cons q_str (qa_cons q_str (qa_cons q_str (qa_cons q_str (qa_cons q_str (qa_cons q_str (qa_cons q_str (qa_cons q_str (qa_cons q_str (qa_cons q_str qa_nil))))))))))) qa_nil))))) q_nil)
  (q_seq (q_par (ps_par (i := 2) (j := 3) rfl sc__law_start.nd rfl rfl (by decide) rfl rfl (qa_cons (q_op op_sub k_subI (q_call (ok__law_draw T) (hr.mono (by decide)) rfl T.g__law_draw T.f__law_draw.kp T.n__law_draw .nil (fun _ _ => RepL.nil) tk (qa_cons (q_var (pv 0)) (qa_cons (q_op op_pow k_powI q_int q_int) qa_nil))) q_int) (qa_cons (q_op op_addAll (k_addAll T.hK) q_int (q_call (ok__law_draw T) (hr.mono (by decide)) rfl T.g__law_draw T.f__law_draw.kp T.n__law_draw .nil (fun _ _ => RepL.nil) tk (qa_cons (q_var (pv 0)) (qa_cons q_int qa_nil)))) qa_nil)) rfl))
  (q_seq (q_ifS (q_cmpT (op_eqD hr.units) (k_eqD T.hK) (q_var (pv 1)) q_int (nomark _)) (q_one (q_ret (q_op op_addAll (k_addAll T.hK) (q_op op_addAll (k_addAll T.hK) (q_callTy call_str_int ka_str rfl T.b_str (by decide +kernel) (qa_cons (q_var (pv 2)) qa_nil)) q_str) (q_callTy call_str_int ka_str rfl T.b_str (by decide +kernel) (qa_cons (q_var (pv 3)) qa_nil))))) q_nil)
  (q_one (q_ret (q_call (ok__law_written T) (hr.mono (by decide)) rfl T.g__law_written T.f__law_written.kp T.n__law_written .nil (fun _ _ => RepL.nil) tk (qa_cons (q_call (ok__law_q T) (hr.mono (by decide)) rfl T.g__law_q T.f__law_q.kp T.n__law_q .nil (fun _ _ => RepL.nil) tk (qa_cons (q_var (pv 2)) (qa_cons (q_var (pv 3)) qa_nil))) qa_nil))))))))
theorem ok_law (T : Txt P K mg A fd Γ) : FnOk P w K mg base (L2.CX P w) 7 (A 29) (fd 29) ["_law_script"] (spF Γ 1 F_law) := fn_ok T.f_law sc_law fun cdv A' outer s H E hr tk => by
  exact (q_seq (q_set (ps_set (i := 1) sc_law.nd rfl (Or.inl rfl) (q_call (ok__law_pen T) (hr.mono (by decide)) rfl T.g__law_pen T.f__law_pen.kp T.n__law_pen .nil (fun _ _ => RepL.nil) tk (qa_cons (q_var (pv 0)) qa_nil))))
  (q_seq (q_for (passes_of rfl) rfl (qi_range1 rfl T.b_range q_int) (qg_name (pg_name (i := 2) sc_law.nd rfl (Or.inl rfl))) (q_seq (q_set (ps_set (i := 3) sc_law.nd rfl (Or.inl rfl) (q_call (ok__law_start T) (hr.mono (by decide)) rfl T.g__law_start T.f__law_start.kp T.n__law_start .nil (fun _ _ => RepL.nil) tk (qa_cons (q_var (pv 1)) qa_nil))))
  (q_seq (q_for (passes_of rfl) rfl (qi_range1 rfl T.b_range q_int) (qg_name (pg_name (i := 4) sc_law.nd rfl (Or.inl rfl))) (q_seq (q_ifS (q_cmpT (op_neD hr.units) (k_neD T.hK) (q_call (ok__law_read T) (hr.mono (by decide)) rfl T.g__law_read T.f__law_read.kp T.n__law_read .nil (fun _ _ => RepL.nil) tk (qa_cons (q_var (pv 3)) qa_nil)) (q_call (ok__law_due T) (hr.mono (by decide)) rfl T.g__law_due T.f__law_due.kp T.n__law_due .nil (fun _ _ => RepL.nil) tk (qa_cons (q_var (pv 3)) qa_nil)) (nomark _)) (q_one (q_ret q_bl)) q_nil)
  (q_seq (q_set (ps_set (i := 5) sc_law.nd rfl (Or.inl rfl) (q_call (ok__law_draw T) (hr.mono (by decide)) rfl T.g__law_draw T.f__law_draw.kp T.n__law_draw .nil (fun _ _ => RepL.nil) tk (qa_cons (q_var (pv 1)) (qa_cons (q_op op_addAll (k_addAll T.hK) (q_callB call_lenK (ka_len T.hK) rfl T.b_len (by decide +kernel) (qa_cons (q_var (pv 3)) qa_nil)) q_int) qa_nil)))))
  (q_seq (q_set (ps_set (i := 6) sc_law.nd rfl (Or.inl rfl) (q_call (ok__law_pick T) (hr.mono (by decide)) rfl T.g__law_pick T.f__law_pick.kp T.n__law_pick .nil (fun _ _ => RepL.nil) tk (qa_cons (q_var (pv 1)) (qa_cons (q_lst (qa_cons q_str (qa_cons q_str (qa_cons q_str (qa_cons q_str (qa_cons q_str (qa_cons q_str (qa_cons q_str (qa_cons q_str (qa_cons q_str qa_nil)))))))))) qa_nil)))))
  (q_one (q_set (ps_set (i := 3) sc_law.nd rfl (Or.inl rfl) (q_op op_addAll (k_addAll T.hK) (q_op op_addAll (k_addAll T.hK) (q_slice T.hK (q_var (pv 3)) qp_none (qp_some (q_var (pv 5)))) (q_var (pv 6))) (q_slice T.hK (q_var (pv 3)) (qp_some (q_op op_addAll (k_addAll T.hK) (q_var (pv 5)) (q_call (ok__law_draw T) (hr.mono (by decide)) rfl T.g__law_draw T.f__law_draw.kp T.n__law_draw .nil (fun _ _ => RepL.nil) tk (qa_cons (q_var (pv 1)) (qa_cons q_int qa_nil))))) qp_none)))))))))
  (q_seq (q_set (ps_set (i := 7) sc_law.nd rfl (Or.inl rfl) (q_ix T.hK (q_lst (qa_cons q_non (qa_cons q_int (qa_cons (q_make T.mk_Ratio (ok_Ratio___init__ T) (hr.mono (by decide)) rfl T.c_Ratio T.n_Ratio___init__ .nil (fun _ _ => RepL.nil) tk (qa_cons q_int (qa_cons q_int qa_nil))) (qa_cons (q_tup (qa_cons q_str qa_nil)) (qa_cons (q_lst (qa_cons q_str qa_nil)) (qa_cons q_bl qa_nil))))))) (q_call (ok__law_draw T) (hr.mono (by decide)) rfl T.g__law_draw T.f__law_draw.kp T.n__law_draw .nil (fun _ _ => RepL.nil) tk (qa_cons (q_var (pv 1)) (qa_cons q_int qa_nil))) (fun _ _ => rfl))))
  (q_one (q_ifS (q_cmpT (op_neD hr.units) (k_neD T.hK) (q_call (ok__law_read T) (hr.mono (by decide)) rfl T.g__law_read T.f__law_read.kp T.n__law_read .nil (fun _ _ => RepL.nil) tk (qa_cons (q_var (pv 7)) qa_nil)) q_int (nomark _)) (q_one (q_ret q_bl)) q_nil))))))
  (q_one (q_ret q_bl))))
end
end LW
set_option maxRecDepth 100000
namespace LW
open PySem L2 DL
def digs : List Nat := [48, 49, 50, 51, 52, 53, 54, 55, 56, 57]
def digs1 : List Nat := [49, 50, 51, 52, 53, 54, 55, 56, 57]
theorem s_dig : ("0123456789" : Str) = tx digs := by kernel_rfl
theorem s_dig1 : ("123456789" : Str) = tx digs1 := by kernel_rfl
theorem s_minus : ("-" : Str) = tx [45] := by kernel_rfl
theorem s_slash : ("/" : Str) = tx [47] := by kernel_rfl
theorem s_zero : ("0" : Str) = tx [48] := by kernel_rfl
theorem asc1 (c : Nat) (h : c < 128) : Asc [c] := ⟨fun x hx => by rw [List.mem_singleton.mp hx]; exact h, by simp⟩
/-- behind the digits from i on -/
def Rn (cs : List Nat) (i : Nat) : Nat := i + ((cs.drop i).takeWhile fun c => decide (c ∈ digs)).length
theorem Rn_step {cs : List Nat} {i c : Nat} (e : cs[i]? = some c) (h : c ∈ digs) : Rn cs i = Rn cs (i + 1) := by
  obtain ⟨hl, e'⟩ := List.getElem?_eq_some_iff.mp e
  unfold Rn
  rw [List.drop_eq_getElem_cons hl, e', List.takeWhile_cons, if_pos (by simpa using h), List.length_cons]
  omega
theorem Rn_stop {cs : List Nat} {i : Nat} (h : ∀ c, cs[i]? = some c → c ∉ digs) : Rn cs i = i := by
  unfold Rn
  by_cases hl : i < cs.length
  · have := h _ (List.getElem?_eq_getElem hl)
    rw [List.drop_eq_getElem_cons hl, List.takeWhile_cons, if_neg (by simpa using this)]
    rfl
  · rw [List.drop_of_length_le (by omega)]; rfl
theorem Rn_le (cs : List Nat) (i : Nat) (h : i ≤ cs.length) : i ≤ Rn cs i ∧ Rn cs i ≤ cs.length := by
  unfold Rn
  have h1 := (List.takeWhile_prefix (l := cs.drop i) (fun c => decide (c ∈ digs))).length_le
  rw [List.length_drop] at h1
  omega
/-- where a number ends -/
def neS (cs : List Nat) (a : Nat) : Nat := match cs[a]? with
  | some c => if c ∈ digs then (if c = 48 then a + 1 else Rn cs a) else a
  | none => a
theorem neS_le (cs : List Nat) (a : Nat) (h : a ≤ cs.length) : a ≤ neS cs a ∧ neS cs a ≤ cs.length := by
  unfold neS
  split
  · rename_i c e
    have := (List.getElem?_eq_some_iff.mp e).1
    have := Rn_le cs a h
    split
    · split <;> omega
    · omega
  · omega
abbrev neC : FT := dAnd (dB (d2 ltI (dVar 1) (dCB lenD (aCons (dVar 0) aNil)))) (dB (d2 (inD false) (d2 itemD (dVar 0) (dVar 1)) (dC (.str "0123456789"))))
abbrev neB : FS := (dSeq (dAug addI 1 (dC (.int 1)))
  (dIfS (dAnd (dB (d2 eqD (dVar 1) (d2 addD (dVar 2) (dC (.int 1))))) (dB (d2 eqD (d2 itemD (dVar 0) (dVar 2)) (dC (.str "0"))))) dBreak dNext))
section
variable {cs : List Nat} {M : List MO}
abbrev neR (cs : List Nat) (a s : Nat) : List Sl := [.d (.str (tx cs)), .d (.int (a : Int)), .d (.int (s : Int))]
theorem lt_ev (h : Asc cs) (a s : Nat) : dB (d2 ltI (dVar 1) (dCB lenD (aCons (dVar 0) aNil))) (neR cs a s) M = .ok (decide (a < cs.length)) M :=
  dB_of ((d2_of rfl ((cb1_of rfl).trans (len_tx h))).trans ((ltI_int _ _).trans (by congr 2; exact decide_eq_decide.mpr (by omega))))
theorem neC_none (h : Asc cs) {a s : Nat} (e : cs[a]? = none) : neC (neR cs a s) M = .ok false M := by
  refine and_f ?_
  rw [lt_ev h, decide_eq_false (by have := List.getElem?_eq_none_iff.mp e; omega)]
theorem neC_some (h : Asc cs) {a s c : Nat} (e : cs[a]? = some c) : neC (neR cs a s) M = .ok (decide (c ∈ digs)) M := by
  have hl := (List.getElem?_eq_some_iff.mp e).1
  refine and_t (M1 := M) (by rw [lt_ev h, decide_eq_true hl]) (dB_of ?_)
  refine (d2_of (d2_of rfl rfl |>.trans (item_tx h (i := (a : Int)) (by omega) (by simpa using e))) rfl).trans ?_
  rw [s_dig]
  exact in_tx
theorem neB_ev (h : Asc cs) {a s c0 : Nat} (e : cs[s]? = some c0) : neB (neR cs a s) M = if a = s ∧ c0 = 48 then .bk (neR cs (a + 1) s) M else .nx (neR cs (a + 1) s) M := by
  have s1 : (dAug addI 1 (dC (.int 1))) (neR cs a s) M = .nx (neR cs (a + 1) s) M := rfl
  have c1 : (dB (d2 eqD (dVar 1) (d2 addD (dVar 2) (dC (.int 1))))) (neR cs (a + 1) s) M = .ok (decide (a = s)) M :=
    dB_of ((d2_of rfl ((d2_of rfl rfl).trans (addD_int _ _))).trans ((eqD_int _ _).trans (by congr 2; exact decide_eq_decide.mpr (by omega))))
  have c2 : (dB (d2 eqD (d2 itemD (dVar 0) (dVar 2)) (dC (.str "0")))) (neR cs (a + 1) s) M = .ok (decide (c0 = 48)) M := by
    refine dB_of ((d2_of (d2_of rfl rfl |>.trans (item_tx h (i := (s : Int)) (by omega) (by simpa using e))) rfl).trans ?_)
    rw [s_zero, eq_tx (h.one e) (asc1 48 (by decide))]
    congr 2
    exact decide_eq_decide.mpr (by simp)
  refine (seq_nx s1).trans ?_
  by_cases h1 : a = s
  · rw [decide_eq_true h1] at c1
    by_cases h2 : c0 = 48
    · rw [decide_eq_true h2] at c2
      rw [if_pos ⟨h1, h2⟩]
      exact (if_t (and_t c1 c2)).trans rfl
    · rw [decide_eq_false h2] at c2
      rw [if_neg fun z => h2 z.2]
      exact (if_f (and_t c1 c2)).trans rfl
  · rw [decide_eq_false h1] at c1
    rw [if_neg fun z => h1 z.1]
    exact (if_f (and_f c1)).trans rfl
theorem ne_while (h : Asc cs) {s c0 : Nat} (e0 : cs[s]? = some c0) (h0 : c0 ≠ 48) : ∀ (k a : Nat), cs.length - a ≤ k → dWhile neC neB (neR cs a s) M = .nx (neR cs (Rn cs a) s) M := by
  intro k
  induction k with
  | zero =>
    intro a ha
    have e : cs[a]? = none := List.getElem?_eq_none_iff.mpr (by omega)
    rw [Rn_stop (fun c z => by rw [e] at z; cases z)]
    exact while_end (neC_none h e)
  | succ k ih =>
    intro a ha
    cases e : cs[a]? with
    | none =>
      rw [Rn_stop (fun c z => by rw [e] at z; cases z)]
      exact while_end (neC_none h e)
    | some c =>
      have hl := (List.getElem?_eq_some_iff.mp e).1
      by_cases hd : c ∈ digs
      · rw [Rn_step e hd]
        refine while_nx (M1 := M) (M2 := M) (ρ2 := neR cs (a + 1) s) ((neC_some h e).trans (by rw [decide_eq_true hd])) ?_ (ih (a + 1) (by omega)) (by simp)
        rw [neB_ev h e0, if_neg fun z => h0 z.2]
      · rw [Rn_stop (fun c' z => by rw [e] at z; cases z; exact hd)]
        exact while_end ((neC_some h e).trans (by rw [decide_eq_false hd]))
theorem number_end_is (h : Asc cs) (a : Nat) : F_number_end [.str (tx cs), .int (a : Int)] M = .ok (.int (neS cs a : Nat)) M := by
  have hs : start0 3 [.str (tx cs), .int (a : Int)] = [.d (.str (tx cs)), .d (.int (a : Int)), .mt] := rfl
  have s1 : (dSet 2 (dVar 1)) [.d (.str (tx cs)), .d (.int (a : Int)), .mt] M = .nx (neR cs a a) M := rfl
  have w : dWhile neC neB (neR cs a a) M = .nx (neR cs (neS cs a) a) M := by
    unfold neS
    cases e : cs[a]? with
    | none => exact while_end (neC_none h e)
    | some c =>
      dsimp only
      by_cases hd : c ∈ digs
      · rw [if_pos hd]
        by_cases h0 : c = 48
        · rw [if_pos h0]
          exact while_bk (M1 := M) ((neC_some h e).trans (by rw [decide_eq_true hd])) (by rw [neB_ev h e, if_pos ⟨rfl, h0⟩])
        · rw [if_neg h0]
          exact ne_while h e h0 _ a (Nat.le_refl _)
      · rw [if_neg hd]
        exact while_end ((neC_some h e).trans (by rw [decide_eq_false hd]))
  unfold F_number_end runF
  rw [hs, show b_number_end [.d (.str (tx cs)), .d (.int (a : Int)), .mt] M = .rt (.int (neS cs a : Nat)) M from (seq_nx s1).trans ((seq_nx w).trans (ret_of rfl))]
end
end LW
set_option maxRecDepth 100000
namespace LW
open PySem L2 DL
def stS (cs : List Nat) : Nat := if cs.take 1 = [45] then 1 else 0
def col2 (cs : List Nat) (sl : Nat) : Nat :=
  if neS cs (sl + 1) = sl + 1 ∨ cs[sl + 1]? = some 48 then sl + 2 else
  if neS cs (sl + 1) = cs.length then 0 else neS cs (sl + 1) + 1
def col1 (cs : List Nat) (st sl : Nat) : Nat :=
  if sl = st ∨ (st = 1 ∧ cs[1]? = some 48) then st + 1 else
  if sl = cs.length then 0 else
  if cs[sl]? ≠ some 47 ∨ cs.take sl = [48] then sl + 1 else col2 cs sl
/-- the first wrong column, 0: none -/
def colS (cs : List Nat) : Nat := col1 cs (stS cs) (neS cs (stS cs))
section
variable {M : List MO} {ρ : List Sl}
theorem eqi {fa fb : FE} {i j : Int} (h1 : fa ρ M = .ok (.int i) M) (h2 : fb ρ M = .ok (.int j) M) : dB (d2 eqD fa fb) ρ M = .ok (decide (i = j)) M := dB_of ((d2_of h1 h2).trans (eqD_int _ _))
theorem eqs {fa fb : FE} {a b : List Nat} (h1 : fa ρ M = .ok (.str (tx a)) M) (h2 : fb ρ M = .ok (.str (tx b)) M) (o1 : Asc a) (o2 : Asc b) : dB (d2 eqD fa fb) ρ M = .ok (decide (a = b)) M := dB_of ((d2_of h1 h2).trans (eq_tx o1 o2))
theorem nes {fa fb : FE} {a b : List Nat} (h1 : fa ρ M = .ok (.str (tx a)) M) (h2 : fb ρ M = .ok (.str (tx b)) M) (o1 : Asc a) (o2 : Asc b) : dB (d2 neD fa fb) ρ M = .ok (!decide (a = b)) M := dB_of ((d2_of h1 h2).trans (ne_tx o1 o2))
theorem call2_of {F : FN} {fa fb : FE} {x y : D} (h1 : fa ρ M = .ok x M) (h2 : fb ρ M = .ok y M) : dCall (lenIs 2 F) [] (aCons fa (aCons fb aNil)) ρ M = F [x, y] M := by
  unfold dCall aCons aNil
  rw [h1, R.bind_ok]
  rw [h2]
  rfl
theorem call1_of {F : FN} {fa : FE} {x : D} (h1 : fa ρ M = .ok x M) : dCall (lenIs 1 F) [] (aCons fa aNil) ρ M = F [x] M := by
  unfold dCall aCons aNil
  rw [h1]
  rfl
theorem dif_of {c : FT} {f g : FE} {b : Bool} (h : c ρ M = .ok b M) : dIf c f g ρ M = if b = true then f ρ M else g ρ M := by unfold dIf; rw [h]; rfl
theorem dec_of {p q : Prop} [Decidable p] [Decidable q] (h : p ↔ q) : (R.ok (decide p) M : R Bool) = .ok (decide q) M := by rw [decide_eq_decide.mpr h]
theorem orD {c1 c2 : FT} {p q : Prop} [Decidable p] [Decidable q] (h1 : c1 ρ M = .ok (decide p) M) (h2 : ¬ p → c2 ρ M = .ok (decide q) M) : dOr c1 c2 ρ M = .ok (decide (p ∨ q)) M := by
  by_cases hp : p
  · rw [decide_eq_true hp] at h1
    rw [or_t h1, decide_eq_true (Or.inl hp)]
  · rw [decide_eq_false hp] at h1
    rw [or_f h1 (h2 hp)]
    exact dec_of ⟨Or.inr, fun z => z.resolve_left hp⟩
theorem andD {c1 c2 : FT} {p q : Prop} [Decidable p] [Decidable q] (h1 : c1 ρ M = .ok (decide p) M) (h2 : p → c2 ρ M = .ok (decide q) M) : dAnd c1 c2 ρ M = .ok (decide (p ∧ q)) M := by
  by_cases hp : p
  · rw [decide_eq_true hp] at h1
    rw [and_t h1 (h2 hp)]
    exact dec_of ⟨fun z => ⟨hp, z⟩, And.right⟩
  · rw [decide_eq_false hp] at h1
    rw [and_f h1, decide_eq_false fun z => hp z.1]
theorem notD {p : Prop} [Decidable p] {b : Bool} (h : b = decide p) : (R.ok (!b) M : R Bool) = .ok (decide (¬ p)) M := by rw [h, decide_not]
/-- if c: return e -/
theorem ifret {c : FT} {f : FE} {g : FS} {p : Prop} [Decidable p] {x : D} {r : RS} (hc : c ρ M = .ok (decide p) M) (h1 : p → f ρ M = .ok x M ∧ r = .rt x M) (h2 : ¬ p → g ρ M = r) : dSeq (dIfS c (dRet f) dNext) g ρ M = r := by
  by_cases hp : p
  · rw [decide_eq_true hp] at hc
    obtain ⟨e, rfl⟩ := h1 hp
    exact seq_rt ((if_t hc).trans (ret_of e))
  · rw [decide_eq_false hp] at hc
    exact (seq_nx ((if_f hc).trans rfl)).trans (h2 hp)
end
section
variable {cs : List Nat} {M : List MO}
theorem stS_le (cs : List Nat) : stS cs ≤ cs.length := by
  unfold stS
  split
  · rename_i h
    have := congrArg List.length h
    rw [List.length_take] at this
    simp at this
    omega
  · omega
theorem stS_int (cs : List Nat) : ((stS cs : Nat) : Int) = if cs.take 1 = [45] then 1 else 0 := by
  unfold stS
  split <;> rfl
theorem first_ev (h : Asc cs) {ρ : List Sl} : dB (d2 eqD (dSlice (dVar 0) (dC .non) (dInt (dC (.int 1)))) (dC (.str "-"))) (.d (.str (tx cs)) :: ρ) M = .ok (decide (cs.take 1 = [45])) M := by
  rw [s_minus]
  exact eqs ((dSlice_of rfl rfl (dInt_of rfl) rfl).trans (slice_to h (by decide))) rfl (h.take 1) (asc1 45 (by decide))
abbrev rcR (cs : List Nat) (a b : Nat) (y : Sl) : List Sl := [.d (.str (tx cs)), .d (.int (a : Int)), .d (.int (b : Int)), y]
theorem item_ev (h : Asc cs) {i c : Nat} {ρ : List Sl} {f : FE} (e : cs[i]? = some c) (hf : f (.d (.str (tx cs)) :: ρ) M = .ok (.int (i : Int)) M) : d2 itemD (dVar 0) f (.d (.str (tx cs)) :: ρ) M = .ok (.str (tx [c])) M :=
  (d2_of rfl hf).trans (item_tx h (i := (i : Int)) (by omega) (by simpa using e))
theorem len_ev (h : Asc cs) {ρ : List Sl} : dCB lenD (aCons (dVar 0) aNil) (.d (.str (tx cs)) :: ρ) M = .ok (.int (cs.length : Nat)) M := (cb1_of rfl).trans (len_tx h)
theorem one_eq {c d : Nat} : ([c] = [d]) ↔ c = d := by simp
theorem ratio_column_is (h : Asc cs) : F_ratio_column [.str (tx cs)] M = .ok (.int (colS cs : Nat)) M := by
  have hs : start0 4 [.str (tx cs)] = [.d (.str (tx cs)), .mt, .mt, .mt] := rfl
  have s1 : (dSet 1 (dIf (dB (d2 eqD (dSlice (dVar 0) (dC .non) (dInt (dC (.int 1)))) (dC (.str "-")))) (dC (.int 1)) (dC (.int 0)))) [.d (.str (tx cs)), .mt, .mt, .mt] M = .nx [.d (.str (tx cs)), .d (.int (stS cs : Nat)), .mt, .mt] M := by
    refine set_of (i := 1) (x := .int (stS cs : Nat)) ((dif_of (first_ev h)).trans ?_)
    rw [stS_int]
    by_cases hp : cs.take 1 = [45]
    · rw [if_pos (decide_eq_true hp), if_pos hp]; rfl
    · rw [if_neg (by rw [decide_eq_false hp]; exact Bool.false_ne_true), if_neg hp]; rfl
  have hst := stS_le cs
  have s2 : (dSet 2 (dCall (lenIs 2 F_number_end) [] (aCons (dVar 0) (aCons (dVar 1) aNil)))) [.d (.str (tx cs)), .d (.int (stS cs : Nat)), .mt, .mt] M = .nx (rcR cs (stS cs) (neS cs (stS cs)) .mt) M :=
    set_of (i := 2) ((call2_of rfl rfl).trans (number_end_is h (stS cs)))
  have key : ∀ st sl : Nat, st ≤ 1 → st ≤ sl → sl ≤ cs.length → (dSeq (dIfS (dOr (dB (d2 eqD (dVar 2) (dVar 1))) (dAnd (dB (d2 eqD (dVar 1) (dC (.int 1)))) (dB (d2 eqD (d2 itemD (dVar 0) (dC (.int 1))) (dC (.str "0")))))) (dRet (d2 addD (dVar 1) (dC (.int 1)))) dNext)
      (dSeq (dIfS (dB (d2 eqD (dVar 2) (dCB lenD (aCons (dVar 0) aNil)))) (dRet (dC (.int 0))) dNext)
      (dSeq (dIfS (dOr (dB (d2 neD (d2 itemD (dVar 0) (dVar 2)) (dC (.str "/")))) (dB (d2 eqD (dSlice (dVar 0) (dC .non) (dInt (dVar 2))) (dC (.str "0"))))) (dRet (d2 addD (dVar 2) (dC (.int 1)))) dNext)
      (dSeq (dSet 3 (dCall (lenIs 2 F_number_end) [] (aCons (dVar 0) (aCons (d2 addD (dVar 2) (dC (.int 1))) aNil))))
      (dSeq (dIfS (dOr (dB (d2 eqD (dVar 3) (d2 addD (dVar 2) (dC (.int 1))))) (dB (d2 eqD (d2 itemD (dVar 0) (d2 addD (dVar 2) (dC (.int 1)))) (dC (.str "0"))))) (dRet (d2 addD (dVar 2) (dC (.int 2)))) dNext)
      (dRet (dIf (dB (d2 eqD (dVar 3) (dCB lenD (aCons (dVar 0) aNil)))) (dC (.int 0)) (d2 addD (dVar 3) (dC (.int 1)))))))))) (rcR cs st sl .mt) M = .rt (.int (col1 cs st sl : Nat)) M := by
    intro st sl h1 h2 h3
    refine ifret (p := sl = st ∨ (st = 1 ∧ cs[1]? = some 48)) (x := .int (st + 1 : Nat)) ?_ (fun hp => ⟨rfl, by unfold col1; rw [if_pos hp]⟩) fun n1 => ?_
    · refine orD ((eqi rfl rfl).trans (dec_of (by omega))) fun hne => andD ((eqi rfl rfl).trans (dec_of (by omega))) fun h4 => ?_
      obtain ⟨c, e⟩ : ∃ c, cs[1]? = some c := ⟨cs[1]'(by omega), List.getElem?_eq_getElem _⟩
      rw [s_zero]
      exact (eqs (item_ev h e rfl) rfl (h.one e) (asc1 48 (by decide))).trans (dec_of (by rw [e, one_eq]; simp))
    refine ifret (p := sl = cs.length) (x := .int 0) ((eqi rfl (len_ev h)).trans (dec_of (by omega))) (fun hp => ⟨rfl, by unfold col1; rw [if_neg n1, if_pos hp]; rfl⟩) fun n2 => ?_
    obtain ⟨c, e⟩ : ∃ c, cs[sl]? = some c := ⟨cs[sl]'(by omega), List.getElem?_eq_getElem _⟩
    refine ifret (p := cs[sl]? ≠ some 47 ∨ cs.take sl = [48]) (x := .int (sl + 1 : Nat)) ?_ (fun hp => ⟨rfl, by unfold col1; rw [if_neg n1, if_neg n2, if_pos hp]⟩) fun n3 => ?_
    · rw [s_slash, s_zero]
      refine orD ((nes (item_ev h e rfl) rfl (h.one e) (asc1 47 (by decide))).trans ?_) fun _ => ?_
      · rw [← decide_not]
        exact dec_of (by rw [e, one_eq]; simp)
      · exact eqs ((dSlice_of rfl rfl (dInt_of rfl) rfl).trans ((slice_to h (by omega)).trans (by rw [show ((sl : Nat) : Int).toNat = sl by omega]))) rfl (h.take sl) (asc1 48 (by decide))
    have s3 : (dSet 3 (dCall (lenIs 2 F_number_end) [] (aCons (dVar 0) (aCons (d2 addD (dVar 2) (dC (.int 1))) aNil)))) (rcR cs st sl .mt) M = .nx (rcR cs st sl (.d (.int (neS cs (sl + 1) : Nat)))) M :=
      set_of (i := 3) ((call2_of rfl rfl).trans (number_end_is h (sl + 1)))
    refine (seq_nx s3).trans ?_
    have ec : col1 cs st sl = col2 cs sl := by unfold col1; rw [if_neg n1, if_neg n2, if_neg n3]
    rw [ec]
    have hle := neS_le cs (sl + 1) (by omega)
    refine ifret (p := neS cs (sl + 1) = sl + 1 ∨ cs[sl + 1]? = some 48) (x := .int (sl + 2 : Nat)) ?_ (fun hp => ⟨rfl, by unfold col2; rw [if_pos hp]⟩) fun n4 => ?_
    · rw [s_zero]
      refine orD ((eqi rfl rfl).trans (dec_of (by omega))) fun hne => ?_
      obtain ⟨c2, e2⟩ : ∃ c2, cs[sl + 1]? = some c2 := ⟨cs[sl + 1]'(by omega), List.getElem?_eq_getElem _⟩
      exact (eqs (item_ev h e2 rfl) rfl (h.one e2) (asc1 48 (by decide))).trans (dec_of (by rw [e2, one_eq]; simp))
    refine ret_of ((dif_of ((eqi rfl (len_ev h)).trans (dec_of (q := neS cs (sl + 1) = cs.length) (by omega)))).trans ?_)
    unfold col2
    rw [if_neg n4]
    by_cases hp : neS cs (sl + 1) = cs.length
    · rw [if_pos (decide_eq_true hp), if_pos hp]; rfl
    · rw [if_neg (by rw [decide_eq_false hp]; exact Bool.false_ne_true), if_neg hp]; rfl
  unfold F_ratio_column runF
  rw [hs, show b_ratio_column [.d (.str (tx cs)), .mt, .mt, .mt] M = .rt (.int (colS cs : Nat)) M from (seq_nx s1).trans ((seq_nx s2).trans (key _ _ (by unfold stS; split <;> omega) (neS_le cs _ hst).1 (neS_le cs _ hst).2))]
end
end LW
set_option maxRecDepth 100000
namespace LW
open PySem L2 DL
section
variable {cs : List Nat} {M : List MO}
theorem seq_bk {f g : FS} {ρ ρ1 : List Sl} {M M1 : List MO} (h : f ρ M = .bk ρ1 M1) : dSeq f g ρ M = .bk ρ1 M1 := by unfold dSeq; rw [h]
theorem take1 {cs : List Nat} {a c : Nat} : (cs.drop a).take 1 = [c] ↔ cs[a]? = some c := by
  by_cases hl : a < cs.length
  · rw [List.drop_eq_getElem_cons hl, List.getElem?_eq_getElem hl, List.take_succ_cons, List.take_zero]
    simp only [List.cons.injEq, and_true, Option.some.injEq]
  · rw [List.drop_of_length_le (by omega), List.getElem?_eq_none (by omega)]
    simp
theorem neS_not {cs : List Nat} {a : Nat} : neS cs a = a ↔ ¬ ∃ c ∈ digs, cs[a]? = some c := by
  unfold neS
  cases e : cs[a]? with
  | none => simp
  | some c =>
    dsimp only
    by_cases hd : c ∈ digs
    · rw [if_pos hd]
      have hl := (List.getElem?_eq_some_iff.mp e).1
      refine ⟨fun z => ?_, fun z => absurd ⟨c, hd, rfl⟩ z⟩
      exfalso
      split at z
      · omega
      · rw [Rn_step e hd] at z
        have := Rn_le cs (a + 1) (by omega)
        omega
    · rw [if_neg hd]
      exact ⟨fun _ ⟨c', h1, h2⟩ => hd (by cases h2; exact h1), fun _ => rfl⟩
theorem tup_ev {ρ : List Sl} : dCB tupleD2 (aCons (dC (.str "0123456789")) aNil) ρ M = .ok (.tup (digs.map fun c => D.str ⟨#[c]⟩)) M := by
  rw [s_dig]
  refine (cb1_of rfl).trans ?_
  unfold tupleD2
  dsimp only
  rw [if_pos (by rw [tx_len]; decide), tx_cps]
theorem tup1_ev {ρ : List Sl} : dCB tupleD2 (aCons (dC (.str "123456789")) aNil) ρ M = .ok (.tup (digs1.map fun c => D.str ⟨#[c]⟩)) M := by
  rw [s_dig1]
  refine (cb1_of rfl).trans ?_
  unfold tupleD2
  dsimp only
  rw [if_pos (by rw [tx_len]; decide), tx_cps]
/-- text[a:a + 1] not in the digits -/
theorem nin_ev (h : Asc cs) {a : Nat} {b : Int} {ρ : List Sl} {f g : FE} (hf : f (.d (.str (tx cs)) :: ρ) M = .ok (.int (a : Int)) M) (hg : g (.d (.str (tx cs)) :: ρ) M = .ok (.int b) M) (hb : b = (a : Int) + 1) :
    dB (d2 (inD true) (dSlice (dVar 0) (dInt f) (dInt g)) (dCB tupleD2 (aCons (dC (.str "0123456789")) aNil))) (.d (.str (tx cs)) :: ρ) M = .ok (decide (neS cs a = a)) M := by
  subst hb
  refine dB_of ((d2_of ((dSlice_of rfl (dInt_of hf) (dInt_of hg) rfl).trans (slice_one h (by omega))) tup_ev).trans (notIn_chars.trans ?_))
  rw [← decide_not]
  congr 2
  refine decide_eq_decide.mpr ?_
  rw [neS_not, show ((a : Nat) : Int).toNat = a by omega]
  simp only [take1]
theorem nin1_ev (h : Asc cs) {a : Nat} {b : Int} {ρ : List Sl} {f g : FE} (hf : f (.d (.str (tx cs)) :: ρ) M = .ok (.int (a : Int)) M) (hg : g (.d (.str (tx cs)) :: ρ) M = .ok (.int b) M) (hb : b = (a : Int) + 1) :
    dB (d2 (inD true) (dSlice (dVar 0) (dInt f) (dInt g)) (dCB tupleD2 (aCons (dC (.str "123456789")) aNil))) (.d (.str (tx cs)) :: ρ) M = .ok (decide (neS cs a = a ∨ cs[a]? = some 48)) M := by
  subst hb
  refine dB_of ((d2_of ((dSlice_of rfl (dInt_of hf) (dInt_of hg) rfl).trans (slice_one h (by omega))) tup1_ev).trans (notIn_chars.trans ?_))
  rw [← decide_not]
  congr 2
  refine decide_eq_decide.mpr ?_
  rw [neS_not, show ((a : Nat) : Int).toNat = a by omega]
  simp only [take1]
  constructor
  · intro z
    by_cases h48 : cs[a]? = some 48
    · exact .inr h48
    · refine .inl fun ⟨c, h1, h2⟩ => z ⟨c, ?_, h2⟩
      have : c ≠ 48 := fun e => h48 (by rw [h2, e])
      simp [digs] at h1
      simp [digs1]
      omega
  · rintro (z | z) ⟨c, h1, h2⟩
    · exact z ⟨c, by simp [digs1] at h1; simp [digs]; omega, h2⟩
    · rw [z] at h2
      cases h2
      simp [digs1] at h1
abbrev scR (cs : List Nat) (a b : Nat) (y z : Sl) : List Sl := [.d (.str (tx cs)), .d (.int (a : Int)), .d (.int (b : Int)), y, z]
abbrev scB1 : FS := (dSeq (dIfS (dOr (dB (d2 eqD (d2 itemD (dVar 0) (dVar 1)) (dC (.str "0")))) (dB (d2 (inD true) (dSlice (dVar 0) (dInt (dVar 2)) (dInt (d2 addD (dVar 2) (dC (.int 1))))) (dCB tupleD2 (aCons (dC (.str "0123456789")) aNil))))) dBreak dNext)
  (dSet 2 (d2 addD (dVar 2) (dC (.int 1)))))
theorem sc_for1 (h : Asc cs) {a c : Nat} (e : cs[a]? = some c) (hc : c ≠ 48) {z : Sl} : ∀ (ds : List D) (b : Nat) (y : Sl), cs.length - b < ds.length → ∃ y', forL (gN 3) scB1 ds (scR cs a b y z) M = .nx (scR cs a (Rn cs b) y' z) M
  | [], b, y, hl => absurd hl (by simp)
  | d :: ds, b, y, hl => by
    have t : (dOr (dB (d2 eqD (d2 itemD (dVar 0) (dVar 1)) (dC (.str "0")))) (dB (d2 (inD true) (dSlice (dVar 0) (dInt (dVar 2)) (dInt (d2 addD (dVar 2) (dC (.int 1))))) (dCB tupleD2 (aCons (dC (.str "0123456789")) aNil))))) (scR cs a b (.d d) z) M = .ok (decide (c = 48 ∨ neS cs b = b)) M := by
      refine orD ?_ fun _ => nin_ev h rfl rfl rfl
      rw [s_zero]
      exact (eqs (item_ev h e rfl) rfl (h.one e) (asc1 48 (by decide))).trans (dec_of one_eq)
    by_cases hn : neS cs b = b
    · rw [decide_eq_true (Or.inr hn)] at t
      have : Rn cs b = b := Rn_stop fun c' e' hd => neS_not.mp hn ⟨c', hd, e'⟩
      rw [this]
      refine ⟨.d d, forL_bk (ρ1 := scR cs a b (.d d) z) (M1 := M) rfl (seq_bk ((if_t t).trans rfl))⟩
    · rw [decide_eq_false (by rintro (x | x); exact hc x; exact hn x)] at t
      obtain ⟨c', hd, e'⟩ := Decidable.not_not.mp fun z => hn (neS_not.mpr z)
      have hb := (List.getElem?_eq_some_iff.mp e').1
      obtain ⟨y', e2⟩ := sc_for1 h e hc (z := z) ds (b + 1) (.d d) (by simp at hl; omega)
      refine ⟨y', ?_⟩
      rw [Rn_step e' hd, ← e2]
      refine forL_nx (ρ1 := scR cs a b (.d d) z) (M1 := M) rfl ?_
      exact (seq_nx ((if_f t).trans rfl)).trans rfl
theorem sc_for0 (h : Asc cs) {a : Nat} (e : cs[a]? = some 48) {z : Sl} {b : Nat} {y : Sl} : ∀ (ds : List D), 0 < ds.length → ∃ y', forL (gN 3) scB1 ds (scR cs a b y z) M = .nx (scR cs a b y' z) M
  | [], hl => absurd hl (by simp)
  | d :: ds, hl => by
    have t : (dOr (dB (d2 eqD (d2 itemD (dVar 0) (dVar 1)) (dC (.str "0")))) (dB (d2 (inD true) (dSlice (dVar 0) (dInt (dVar 2)) (dInt (d2 addD (dVar 2) (dC (.int 1))))) (dCB tupleD2 (aCons (dC (.str "0123456789")) aNil))))) (scR cs a b (.d d) z) M = .ok true M := by
      refine or_t ?_
      rw [s_zero]
      exact eqs (item_ev h e rfl) rfl (h.one e) (asc1 48 (by decide))
    refine ⟨.d d, forL_bk (ρ1 := scR cs a b (.d d) z) (M1 := M) rfl (seq_bk ((if_t t).trans rfl))⟩
abbrev scR2 (cs : List Nat) (a b : Nat) (y : Sl) (l : Nat) : List Sl := [.d (.str (tx cs)), .d (.int (a : Int)), .d (.int (b : Int)), y, .d (.int (l : Int))]
abbrev scB2 : FS := (dSeq (dIfS (dB (d2 (inD true) (dSlice (dVar 0) (dInt (dVar 4)) (dInt (d2 addD (dVar 4) (dC (.int 1))))) (dCB tupleD2 (aCons (dC (.str "0123456789")) aNil)))) dBreak dNext)
  (dSet 4 (d2 addD (dVar 4) (dC (.int 1)))))
theorem sc_for2 (h : Asc cs) {a b : Nat} : ∀ (ds : List D) (l : Nat) (y : Sl), cs.length - l < ds.length → ∃ y', forL (gN 3) scB2 ds (scR2 cs a b y l) M = .nx (scR2 cs a b y' (Rn cs l)) M
  | [], l, y, hl => absurd hl (by simp)
  | d :: ds, l, y, hl => by
    have t : (dB (d2 (inD true) (dSlice (dVar 0) (dInt (dVar 4)) (dInt (d2 addD (dVar 4) (dC (.int 1))))) (dCB tupleD2 (aCons (dC (.str "0123456789")) aNil)))) (scR2 cs a b (.d d) l) M = .ok (decide (neS cs l = l)) M := nin_ev h rfl rfl rfl
    by_cases hn : neS cs l = l
    · rw [decide_eq_true hn] at t
      have : Rn cs l = l := Rn_stop fun c' e' hd => neS_not.mp hn ⟨c', hd, e'⟩
      rw [this]
      refine ⟨.d d, forL_bk (ρ1 := scR2 cs a b (.d d) l) (M1 := M) rfl (seq_bk ((if_t t).trans rfl))⟩
    · rw [decide_eq_false hn] at t
      obtain ⟨c', hd, e'⟩ := Decidable.not_not.mp fun z => hn (neS_not.mpr z)
      have hb := (List.getElem?_eq_some_iff.mp e').1
      obtain ⟨y', e2⟩ := sc_for2 h (a := a) (b := b) ds (l + 1) (.d d) (by simp at hl; omega)
      refine ⟨y', ?_⟩
      rw [Rn_step e' hd, ← e2]
      refine forL_nx (ρ1 := scR2 cs a b (.d d) l) (M1 := M) rfl ?_
      exact (seq_nx ((if_f t).trans rfl)).trans rfl
theorem range_len (h : Asc cs) {ρ : List Sl} {t : TGt} {b : FS} {r : RS} (e : forL t b ((List.range cs.length).map fun (i : Nat) => D.int (i : Int)) (.d (.str (tx cs)) :: ρ) M = r) : dFor (iRange1 (dCB lenD (aCons (dVar 0) aNil))) t b (.d (.str (tx cs)) :: ρ) M = r := by
  unfold dFor iRange1
  rw [len_ev h, R.bind_ok]
  dsimp only
  have := h.2
  rw [if_pos (by omega), R.sbind_ok, show ((cs.length : Nat) : Int).toNat = cs.length by omega]
  exact e
theorem shape_is (h : Asc cs) : F__law_shape_column [.str (tx cs)] M = .ok (.int (colS cs : Nat)) M := by
  have hs : start0 5 [.str (tx cs)] = [.d (.str (tx cs)), .mt, .mt, .mt, .mt] := rfl
  have s1 : (dSet 1 (dCB intD2 (aCons (d2 eqD (dSlice (dVar 0) (dC .non) (dInt (dC (.int 1)))) (dC (.str "-"))) aNil))) [.d (.str (tx cs)), .mt, .mt, .mt, .mt] M = .nx [.d (.str (tx cs)), .d (.int (stS cs : Nat)), .mt, .mt, .mt] M := by
    refine set_of (i := 1) (x := .int (stS cs : Nat)) ((cb1_of (x := .bl (decide (cs.take 1 = [45]))) (M1 := M) ?_).trans ?_)
    · rw [s_minus]
      exact (d2_of (x := .str (tx (cs.take 1))) (M1 := M) ((dSlice_of rfl rfl (dInt_of rfl) rfl).trans (slice_to (b := 1) h (by decide))) rfl).trans (eq_tx (h.take 1) (asc1 45 (by decide)))
    · rw [stS_int]
      by_cases hp : cs.take 1 = [45]
      · rw [decide_eq_true hp, if_pos hp]; rfl
      · rw [decide_eq_false hp, if_neg hp]; rfl
  have hst := stS_le cs
  have key : ∀ st : Nat, st ≤ 1 → st ≤ cs.length → (dSeq (dIfS (dOr (dB (d2 (inD true) (dSlice (dVar 0) (dInt (dVar 1)) (dInt (d2 addD (dVar 1) (dC (.int 1))))) (dCB tupleD2 (aCons (dC (.str "0123456789")) aNil)))) (dAnd (dB (d2 eqD (dVar 1) (dC (.int 1)))) (dB (d2 eqD (d2 itemD (dVar 0) (dC (.int 1))) (dC (.str "0")))))) (dRet (d2 addD (dVar 1) (dC (.int 1)))) dNext)
      (dSeq (dSet 2 (d2 addD (dVar 1) (dC (.int 1))))
      (dSeq (dFor (iRange1 (dCB lenD (aCons (dVar 0) aNil))) (gN 3) scB1)
      (dSeq (dIfS (dB (d2 eqD (dVar 2) (dCB lenD (aCons (dVar 0) aNil)))) (dRet (dC (.int 0))) dNext)
      (dSeq (dIfS (dOr (dB (d2 neD (d2 itemD (dVar 0) (dVar 2)) (dC (.str "/")))) (dB (d2 eqD (dSlice (dVar 0) (dC .non) (dInt (dVar 2))) (dC (.str "0"))))) (dRet (d2 addD (dVar 2) (dC (.int 1)))) dNext)
      (dSeq (dIfS (dB (d2 (inD true) (dSlice (dVar 0) (dInt (d2 addD (dVar 2) (dC (.int 1)))) (dInt (d2 addD (dVar 2) (dC (.int 2))))) (dCB tupleD2 (aCons (dC (.str "123456789")) aNil)))) (dRet (d2 addD (dVar 2) (dC (.int 2)))) dNext)
      (dSeq (dSet 4 (d2 addD (dVar 2) (dC (.int 2))))
      (dSeq (dFor (iRange1 (dCB lenD (aCons (dVar 0) aNil))) (gN 3) scB2)
      (dRet (dIf (dB (d2 eqD (dVar 4) (dCB lenD (aCons (dVar 0) aNil)))) (dC (.int 0)) (d2 addD (dVar 4) (dC (.int 1)))))))))))))
      [.d (.str (tx cs)), .d (.int (st : Int)), .mt, .mt, .mt] M = .rt (.int (col1 cs st (neS cs st) : Nat)) M := by
    intro st h1 h3
    have hle0 := neS_le cs st h3
    refine ifret (p := neS cs st = st ∨ (st = 1 ∧ cs[1]? = some 48)) (x := .int (st + 1 : Nat)) ?_ (fun hp => ⟨rfl, by unfold col1; rw [if_pos hp]⟩) fun n1 => ?_
    · refine orD (nin_ev h rfl rfl rfl) fun hne => andD ((eqi rfl rfl).trans (dec_of (by omega))) fun h4 => ?_
      obtain ⟨c, _, e⟩ := Decidable.not_not.mp fun z => hne (neS_not.mpr z)
      rw [h4] at e
      rw [s_zero]
      exact (eqs (item_ev h e rfl) rfl (h.one e) (asc1 48 (by decide))).trans (dec_of (by rw [e, one_eq]; simp))
    have n1' : neS cs st ≠ st := fun z => n1 (.inl z)
    obtain ⟨c, hd, e⟩ := Decidable.not_not.mp fun z => n1' (neS_not.mpr z)
    have hl := (List.getElem?_eq_some_iff.mp e).1
    have e1 : neS cs st = if c = 48 then st + 1 else Rn cs (st + 1) := by
      unfold neS
      rw [e]
      dsimp only
      rw [if_pos hd]
      by_cases h48 : c = 48
      · rw [if_pos h48, if_pos h48]
      · rw [if_neg h48, if_neg h48, Rn_step e hd]
    have s3 : (dSet 2 (d2 addD (dVar 1) (dC (.int 1)))) [.d (.str (tx cs)), .d (.int (st : Int)), .mt, .mt, .mt] M = .nx (scR cs st (st + 1) .mt .mt) M := rfl
    obtain ⟨y, f1⟩ : ∃ y, dFor (iRange1 (dCB lenD (aCons (dVar 0) aNil))) (gN 3) scB1 (scR cs st (st + 1) .mt .mt) M = .nx (scR cs st (neS cs st) y .mt) M := by
      by_cases h48 : c = 48
      · subst h48
        rw [e1, if_pos rfl]
        obtain ⟨y, q⟩ := sc_for0 (M := M) h e (z := .mt) (b := st + 1) (y := .mt) ((List.range cs.length).map fun (i : Nat) => D.int (i : Int)) (by rw [List.length_map, List.length_range]; omega)
        exact ⟨y, range_len h q⟩
      · rw [e1, if_neg h48]
        obtain ⟨y, q⟩ := sc_for1 (M := M) h e h48 (z := .mt) ((List.range cs.length).map fun (i : Nat) => D.int (i : Int)) (st + 1) .mt (by rw [List.length_map, List.length_range]; omega)
        exact ⟨y, range_len h q⟩
    refine (seq_nx s3).trans ((seq_nx f1).trans ?_)
    generalize neS cs st = sl at *
    refine ifret (p := sl = cs.length) (x := .int 0) ((eqi rfl (len_ev h)).trans (dec_of (by omega))) (fun hp => ⟨rfl, by unfold col1; rw [if_neg n1, if_pos hp]; rfl⟩) fun n2 => ?_
    obtain ⟨c', e'⟩ : ∃ c, cs[sl]? = some c := ⟨cs[sl]'(by omega), List.getElem?_eq_getElem _⟩
    refine ifret (p := cs[sl]? ≠ some 47 ∨ cs.take sl = [48]) (x := .int (sl + 1 : Nat)) ?_ (fun hp => ⟨rfl, by unfold col1; rw [if_neg n1, if_neg n2, if_pos hp]⟩) fun n3 => ?_
    · rw [s_slash, s_zero]
      refine orD ((nes (item_ev h e' rfl) rfl (h.one e') (asc1 47 (by decide))).trans ?_) fun _ => ?_
      · rw [← decide_not]
        exact dec_of (by rw [e', one_eq]; simp)
      · exact eqs ((dSlice_of rfl rfl (dInt_of rfl) rfl).trans ((slice_to h (by omega)).trans (by rw [show ((sl : Nat) : Int).toNat = sl by omega]))) rfl (h.take sl) (asc1 48 (by decide))
    have ec : col1 cs st sl = col2 cs sl := by unfold col1; rw [if_neg n1, if_neg n2, if_neg n3]
    rw [ec]
    refine ifret (p := neS cs (sl + 1) = sl + 1 ∨ cs[sl + 1]? = some 48) (x := .int (sl + 2 : Nat)) (nin1_ev h (a := sl + 1) (b := (sl : Int) + 2) rfl rfl (by omega)) (fun hp => ⟨rfl, by unfold col2; rw [if_pos hp]⟩) fun n4 => ?_
    obtain ⟨c2, hd2, e2⟩ := Decidable.not_not.mp fun z => n4 (.inl (neS_not.mpr z))
    have hl2 := (List.getElem?_eq_some_iff.mp e2).1
    have h48 : c2 ≠ 48 := fun z => n4 (.inr (by rw [e2, z]))
    have e3 : neS cs (sl + 1) = Rn cs (sl + 2) := by
      unfold neS
      rw [e2]
      dsimp only
      rw [if_pos hd2, if_neg h48, Rn_step e2 hd2]
    have s8 : (dSet 4 (d2 addD (dVar 2) (dC (.int 2)))) (scR cs st sl y .mt) M = .nx (scR2 cs st sl y (sl + 2)) M := rfl
    obtain ⟨y2, f2⟩ : ∃ y2, dFor (iRange1 (dCB lenD (aCons (dVar 0) aNil))) (gN 3) scB2 (scR2 cs st sl y (sl + 2)) M = .nx (scR2 cs st sl y2 (neS cs (sl + 1))) M := by
      rw [e3]
      obtain ⟨y2, q⟩ := sc_for2 (M := M) h (a := st) (b := sl) ((List.range cs.length).map fun (i : Nat) => D.int (i : Int)) (sl + 2) y (by rw [List.length_map, List.length_range]; omega)
      exact ⟨y2, range_len h q⟩
    refine (seq_nx s8).trans ((seq_nx f2).trans ?_)
    refine ret_of ((dif_of ((eqi rfl (len_ev h)).trans (dec_of (q := neS cs (sl + 1) = cs.length) (by omega)))).trans ?_)
    unfold col2
    rw [if_neg n4]
    by_cases hp : neS cs (sl + 1) = cs.length
    · rw [if_pos (decide_eq_true hp), if_pos hp]; rfl
    · rw [if_neg (by rw [decide_eq_false hp]; exact Bool.false_ne_true), if_neg hp]; rfl
  unfold F__law_shape_column runF
  rw [hs, show b__law_shape_column [.d (.str (tx cs)), .mt, .mt, .mt, .mt] M = .rt (.int (colS cs : Nat)) M from (seq_nx s1).trans (key _ (by unfold stS; split <;> omega) hst)]
end
end LW
set_option maxRecDepth 100000
namespace LW
open PySem L2 DL
section
variable {cs : List Nat} {M : List MO}
theorem dig_of {c : Nat} (h : c ∈ digs) : 48 ≤ c ∧ c ≤ 57 := by simp [digs] at h; omega
theorem ne_digits {a : Nat} (hne : neS cs a ≠ a) : ∃ ds, cs.drop a = ds ++ cs.drop (neS cs a) ∧ ds ≠ [] ∧ NumText.AllDigits ds ∧ a + ds.length = neS cs a := by
  obtain ⟨c, hd, e⟩ := Decidable.not_not.mp fun z => hne (neS_not.mpr z)
  have hl := (List.getElem?_eq_some_iff.mp e).1
  have ec := (List.getElem?_eq_some_iff.mp e).2
  unfold neS
  rw [e]
  dsimp only
  rw [if_pos hd]
  by_cases h48 : c = 48
  · rw [if_pos h48]
    refine ⟨[c], ?_, by simp, fun x hx => by rw [List.mem_singleton.mp hx]; exact dig_of hd, rfl⟩
    rw [List.drop_eq_getElem_cons hl, ec]
    rfl
  · rw [if_neg h48]
    refine ⟨(cs.drop a).takeWhile fun c => decide (c ∈ digs), ?_, ?_, fun x hx => ?_, rfl⟩
    · unfold Rn
      rw [← List.drop_drop]
      have z := List.takeWhile_append_dropWhile (p := fun c => decide (c ∈ digs)) (l := cs.drop a)
      have z2 : (cs.drop a).drop ((cs.drop a).takeWhile fun c => decide (c ∈ digs)).length = (cs.drop a).dropWhile fun c => decide (c ∈ digs) := by
        conv => lhs; arg 2; rw [← z]
        rw [List.drop_left]
      rw [z2, z]
    · rw [List.drop_eq_getElem_cons hl, ec, List.takeWhile_cons, if_pos (by simpa using hd)]
      simp
    · have := List.all_eq_true.mp List.all_takeWhile x hx
      exact dig_of (by simpa using this)
/-- what stands ahead of the digits -/
theorem pre_of (cs : List Nat) : cs.take (stS cs) = [] ∧ stS cs = 0 ∨ cs.take (stS cs) = [45] ∧ stS cs = 1 := by
  unfold stS
  by_cases h : cs.take 1 = [45]
  · rw [if_pos h]; exact .inr ⟨h, rfl⟩
  · rw [if_neg h]; exact .inl ⟨rfl, rfl⟩
theorem val_lt : ∀ (ds : List Nat) (acc : Nat), NumText.AllDigits ds → ds.foldl (fun acc c => acc * 10 + (c - 48)) acc < (acc + 1) * 10 ^ ds.length
  | [], acc, _ => by simp
  | d :: ds, acc, h => by
    have ih := val_lt ds (acc * 10 + (d - 48)) h.tail
    have hd := h.head
    rw [List.foldl_cons, List.length_cons, Nat.pow_succ]
    refine Nat.lt_of_lt_of_le ih ?_
    rw [Nat.mul_comm (10 ^ ds.length) 10, ← Nat.mul_assoc]
    refine Nat.mul_le_mul_right _ ?_
    omega
theorem val_ge : ∀ (ds : List Nat) (acc : Nat), acc ≤ ds.foldl (fun acc c => acc * 10 + (c - 48)) acc
  | [], acc => Nat.le_refl _
  | d :: ds, acc => by
    rw [List.foldl_cons]
    exact Nat.le_trans (by omega) (val_ge ds _)
theorem int_pre {pre ds : List Nat} (hp : pre = [] ∨ pre = [45]) (hne : ds ≠ []) (hd : NumText.AllDigits ds) (hl : (pre ++ ds).length ≤ 600) : ∃ t, PySem.intText? (tx (pre ++ ds)) = some t := by
  rcases hp with rfl | rfl
  · exact ⟨_, PySem.intText_digits (x := tx ([] ++ ds)) (by rw [tx_cps]; exact hd) (by rw [tx_cps]; exact hne) (by rw [tx_len]; omega)⟩
  · exact ⟨_, PySem.intText_neg (x := tx ([45] ++ ds)) (cs := ds) (by rw [tx_cps]; rfl) hd hne (by rw [tx_len]; omega)⟩
theorem split_one {p : List Nat} (h : 47 ∉ p) : Txt.split (tx p) (tx [47]) = [tx p] := by
  have e : Txt.join (tx [47]) [tx p] = tx p := by rw [TL.join_eq]; rfl
  have := TL.split_join (y := tx [47]) (s := 47) (S := []) (by show (tx [47]).cps.toList = _; rw [tx_cps]) (by decide +kernel) (parts := [tx p]) (by simp) (fun q hq => by rw [List.mem_singleton.mp hq]; show 47 ∉ (tx p).cps.toList; rw [tx_cps]; exact h)
  rw [e] at this
  exact this
theorem split_two {p q : List Nat} (h : 47 ∉ p) (h2 : 47 ∉ q) : Txt.split (tx (p ++ 47 :: q)) (tx [47]) = [tx p, tx q] := by
  have e : Txt.join (tx [47]) [tx p, tx q] = tx (p ++ 47 :: q) := by
    refine TL.ext_tl ?_
    rw [TL.join_eq, TL.tl_join]
    show (tx p).cps.toList ++ ((tx [47]).cps.toList ++ (tx q).cps.toList) = (tx (p ++ 47 :: q)).cps.toList
    rw [tx_cps, tx_cps, tx_cps, tx_cps]; rfl
  have := TL.split_join (y := tx [47]) (s := 47) (S := []) (by show (tx [47]).cps.toList = _; rw [tx_cps]) (by decide +kernel) (parts := [tx p, tx q]) (by simp) (fun z hz => by
    rcases List.mem_cons.mp hz with rfl | hz
    · show 47 ∉ (tx p).cps.toList; rw [tx_cps]; exact h
    · rw [List.mem_singleton.mp hz]; show 47 ∉ (tx q).cps.toList; rw [tx_cps]; exact h2)
  rw [e] at this
  exact this
theorem no47 {pre ds : List Nat} (hp : pre = [] ∨ pre = [45]) (hd : NumText.AllDigits ds) : 47 ∉ pre ++ ds := fun z => by
  rcases List.mem_append.mp z with z | z
  · rcases hp with rfl | rfl
    · cases z
    · simp at z
  · have := hd _ z
    omega
/-- what a text without a wrong column is -/
theorem parse (h : Asc cs) (h0 : colS cs = 0) :
    (Txt.split (tx cs) (tx [47]) = [tx cs] ∧ ∃ t, PySem.intText? (tx cs) = some t) ∨
    (∃ (p q : List Nat) (t : Int) (b : Nat), Asc p ∧ Asc q ∧ Txt.split (tx cs) (tx [47]) = [tx p, tx q] ∧ PySem.intText? (tx p) = some t ∧ PySem.intText? (tx q) = some (b : Int) ∧ 1 ≤ b ∧ b < 2 ^ 29000) := by
  have hst := stS_le cs
  have hpre : cs.take (stS cs) = [] ∨ cs.take (stS cs) = [45] := (pre_of cs).elim (fun z => .inl z.1) fun z => .inr z.1
  unfold colS col1 at h0
  split at h0
  · omega
  rename_i n1
  have hne : neS cs (stS cs) ≠ stS cs := fun z => n1 (.inl z)
  obtain ⟨ds, e1, e2, e3, e4⟩ := ne_digits hne
  have hcs : cs = cs.take (stS cs) ++ ds ++ cs.drop (neS cs (stS cs)) := by
    rw [List.append_assoc, ← e1, List.take_append_drop]
  have hle := neS_le cs (stS cs) hst
  generalize hp : cs.take (stS cs) = pre at *
  split at h0
  · rename_i n2
    rw [n2, List.drop_length, List.append_nil] at hcs
    refine .inl ⟨?_, ?_⟩
    · rw [hcs]; exact split_one (no47 hpre e3)
    · have hlen := h.2
      rw [hcs] at hlen ⊢
      exact int_pre hpre e2 e3 hlen
  · rename_i n2
    split at h0
    · omega
    rename_i n3
    unfold col2 at h0
    split at h0
    · omega
    rename_i n4
    split at h0
    · rename_i n5
      have n6 : neS cs (neS cs (stS cs) + 1) ≠ neS cs (stS cs) + 1 := fun z => n4 (.inl z)
      obtain ⟨ds2, g1, g2, g3, g4⟩ := ne_digits n6
      rw [n5, List.drop_length, List.append_nil] at g1
      have h47 : cs[neS cs (stS cs)]? = some 47 := Decidable.not_not.mp fun z => n3 (.inl z)
      obtain ⟨hl, e47⟩ := List.getElem?_eq_some_iff.mp h47
      rw [List.drop_eq_getElem_cons hl, e47, g1] at hcs
      have ap : Asc (pre ++ ds) := by
        refine ⟨fun c hc => h.1 c ?_, ?_⟩
        · rw [hcs]; exact List.mem_append_left _ hc
        · have := h.2; rw [hcs] at this; simp at this ⊢; omega
      have aq : Asc ds2 := by
        refine ⟨fun c hc => h.1 c ?_, ?_⟩
        · rw [hcs]; exact List.mem_append_right _ (List.mem_cons_of_mem _ hc)
        · have := h.2; rw [hcs] at this; simp at this ⊢; omega
      obtain ⟨t, ht⟩ := int_pre hpre e2 e3 ap.2
      have hq : PySem.intText? (tx ds2) = some ((NumText.digitsVal ds2 : Nat) : Int) := by
        have := PySem.intText_digits (x := tx ds2) (by rw [tx_cps]; exact g3) (by rw [tx_cps]; exact g2) (by rw [tx_len]; have := aq.2; omega)
        rw [tx_cps] at this
        exact this
      have h1 : 1 ≤ NumText.digitsVal ds2 := by
        cases ds2 with
        | nil => exact absurd rfl g2
        | cons d r =>
          have hd := g3.head
          have hd48 : d ≠ 48 := fun z => n4 (.inr (by
            have : cs.drop (neS cs (stS cs) + 1) = d :: r := g1
            have w : (cs.drop (neS cs (stS cs) + 1))[0]? = some d := by rw [this]; rfl
            rw [List.getElem?_drop] at w
            rw [← z]
            simpa using w))
          unfold NumText.digitsVal
          rw [List.foldl_cons]
          exact Nat.le_trans (by omega) (val_ge r _)
      have h2 : NumText.digitsVal ds2 < 2 ^ 29000 := by
        have a1 := val_lt ds2 0 g3
        rw [Nat.zero_add, Nat.one_mul] at a1
        have a2 : 10 ^ ds2.length ≤ 10 ^ 600 := Nat.pow_le_pow_right (by decide) aq.2
        have a3 : (10 : Nat) ^ 600 ≤ 16 ^ 600 := Nat.pow_le_pow_left (by decide) 600
        have a4 : (16 : Nat) ^ 600 = 2 ^ 2400 := by rw [show (16 : Nat) = 2 ^ 4 by decide, ← Nat.pow_mul]
        have a5 : (2 : Nat) ^ 2400 ≤ 2 ^ 29000 := Nat.pow_le_pow_right (by decide) (by decide)
        unfold NumText.digitsVal
        omega
      refine .inr ⟨pre ++ ds, ds2, t, _, ap, aq, ?_, ht, hq, h1, h2⟩
      rw [hcs]
      exact split_two (no47 hpre e3) (by simpa using no47 (pre := []) (.inl rfl) g3)
    · omega
end
end LW
set_option maxRecDepth 100000
namespace LW
open PySem L2 DL
section
variable {cs : List Nat} {M : List MO}
theorem divisor_is (a b : Int) : F_divisor_of [.int a, .int b] M = .ok (.int (Int.gcd a b : Nat)) M := div_is a b M
theorem lgcd_is (a b : Int) (hb : b.natAbs < 2 ^ 29000) : F__law_gcd [.int a, .int b] M = .ok (.int (Int.gcd a b : Nat)) M := gcd_is a b M hb
/-- a ratio in lowest terms is kept -/
theorem init_is (t b : Int) (hb : 0 < b) (hg : Int.gcd t b = 1) : F_Ratio___init__ [.int t, .int b] M = .ok [.int t, .int b] M := by
  have hs : (Sl.obj 0 [] [] :: start0 3 [D.int t, D.int b]) = [.obj 0 [] [], .d (.int t), .d (.int b), .mt] := rfl
  have c1 : dB (d2 eqD (dVar 2) (dC (.int 0))) [.obj 0 [] [], .d (.int t), .d (.int b), .mt] M = .ok false M := by
    rw [eqi (i := b) (j := 0) rfl rfl, decide_eq_false (by omega)]
  have c2 : dB (d2 gtI (dVar 2) (dC (.int 0))) [.obj 0 [] [], .d (.int t), .d (.int b), .mt] M = .ok true M := by
    rw [dB_of ((d2_of rfl rfl).trans (gtI_int b 0)), decide_eq_true hb]
  have s2 : (dSet 3 (dIf (dB (d2 gtI (dVar 2) (dC (.int 0)))) (dCall (lenIs 2 F_divisor_of) [] (aCons (dVar 1) (aCons (dVar 2) aNil))) (d1 negI (dCall (lenIs 2 F_divisor_of) [] (aCons (dVar 1) (aCons (dVar 2) aNil)))))) [.obj 0 [] [], .d (.int t), .d (.int b), .mt] M = .nx [.obj 0 [] [], .d (.int t), .d (.int b), .d (.int 1)] M := by
    refine set_of (i := 3) (x := .int 1) ((dif_of c2).trans ?_)
    rw [if_pos rfl]
    refine (call2_of rfl rfl).trans ((divisor_is t b).trans ?_)
    rw [hg]; rfl
  have s3 : (dAsg (dTup (aCons (d2 divI (dVar 1) (dVar 3)) (aCons (d2 divI (dVar 2) (dVar 3)) aNil))) (gTupT 2 (gsCons (gSelf "top") (gsCons (gSelf "bottom") gsNil)))) [.obj 0 [] [], .d (.int t), .d (.int b), .d (.int 1)] M = .nx [.obj 0 ["top", "bottom"] [.int t, .int b], .d (.int t), .d (.int b), .d (.int 1)] M := by
    have e1 : (dTup (aCons (d2 divI (dVar 1) (dVar 3)) (aCons (d2 divI (dVar 2) (dVar 3)) aNil))) [.obj 0 [] [], .d (.int t), .d (.int b), .d (.int 1)] M = .ok (.tup [.int t, .int b]) M := by
      have a1 : d2 divI (dVar 1) (dVar 3) [.obj 0 [] [], .d (.int t), .d (.int b), .d (.int 1)] M = .ok (.int t) M := (d2_of rfl rfl).trans ((divI_int (by decide) (by decide)).trans (by rw [Int.fdiv_one]))
      have a2 : d2 divI (dVar 2) (dVar 3) [.obj 0 [] [], .d (.int t), .d (.int b), .d (.int 1)] M = .ok (.int b) M := (d2_of rfl rfl).trans ((divI_int (by decide) (by decide)).trans (by rw [Int.fdiv_one]))
      unfold dTup aCons
      rw [a1, R.bind_ok, a2]
      rfl
    unfold dAsg
    rw [e1, R.sbind_ok]
    rfl
  have run : b_Ratio___init__ [.obj 0 [] [], .d (.int t), .d (.int b), .mt] M = .nx [.obj 0 ["top", "bottom"] [.int t, .int b], .d (.int t), .d (.int b), .d (.int 1)] M :=
    (seq_nx ((if_f c1).trans rfl)).trans ((seq_nx s2).trans s3)
  unfold F_Ratio___init__ runI
  rw [hs, run]
  rfl
theorem make_of {c n : Nat} {F : List D → List MO → R (List D)} {ddv ds xs : List D} {fa : FA} {ρ : List Sl} (h1 : fa ρ M = .ok ds M) (hl : (ds ++ ddv).length = n) (h2 : F (ds ++ ddv) M = .ok xs M) : dMake c n F ddv fa ρ M = .ok (.ins c xs) M := by
  unfold dMake
  rw [h1, R.bind_ok, if_pos hl, h2]
  rfl
/-- what reading makes of a text: the ratio's parts, or the column -/
def readS (cs : List Nat) : D := if 0 < colS cs then .int (colS cs : Nat) else match Txt.split (tx cs) (tx [47]) with
  | [_] => match PySem.intText? (tx cs) with
    | some t => .tup [.int t, .int 1]
    | none => .non
  | p :: q :: _ => match PySem.intText? p, PySem.intText? q with
    | some t, some b => if b = 1 ∨ 1 < Int.gcd t b then .int ((p.length : Int) + 2) else .tup [.int t, .int b]
    | _, _ => .non
  | [] => .non
/-- what ratio_of does -/
def outS (cs : List Nat) (M : List MO) : R D := match readS cs with
  | .int i => .ex 1 [.int i, .int 1] M
  | .tup xs => .ok (.ins 0 xs) M
  | _ => .bad
abbrev roR (cs : List Nat) (a b c d e : Sl) : List Sl := [.d (.str (tx cs)), a, b, c, d, e]
theorem seq_ex {f g : FS} {ρ ρ1 : List Sl} {M1 : List MO} {c : Nat} {xs : List D} (h : f ρ M = .ex c xs ρ1 M1) : dSeq f g ρ M = .ex c xs ρ1 M1 := by unfold dSeq; rw [h]
theorem raise2_of {fa fb : FE} {ρ : List Sl} {x y : D} (h1 : fa ρ M = .ok x M) (h2 : fb ρ M = .ok y M) : dRaise 1 (aCons fa (aCons fb aNil)) ρ M = .ex 1 [y, x] ρ M := by
  unfold dRaise aCons
  rw [h1, R.bind_ok, h2]
  rfl
theorem itemL {xs : List D} {i : Int} {d : D} (h : atI xs i = some d) : itemD (.lst xs) (.int i) M = .ok d M := by
  show ofOpt (atI xs i) M = _
  rw [h]; rfl
theorem lenL {xs : List D} : lenD [.lst xs] M = .ok (.int (xs.length : Nat)) M := rfl
theorem len_str {z : Str} (h : z.length ≤ 600) : lenD [.str z] M = .ok (.int (z.length : Nat)) M := by
  unfold lenD
  dsimp only
  rw [if_pos (by unfold szOk; simp; omega)]
theorem strip_of {p : List Nat} (h : Asc p) : lstripD (tx p) (tx [45]) M = .ok (.str (Txt.lstripChars (tx p) (tx [45]))) M := by
  unfold lstripD
  rw [if_pos h.sz]
theorem strip_len {p : List Nat} (h : Asc p) : (Txt.lstripChars (tx p) (tx [45])).length ≤ 600 := Nat.le_trans (PyProof.Rows.len_stripBy _ _ _ _) (by rw [tx_len]; exact h.2)
theorem int_of {p : List Nat} {t : Int} (h : Asc p) (e : PySem.intText? (tx p) = some t) : intD2 [.str (tx p)] M = .ok (.int t) M := by
  unfold intD2
  dsimp only
  rw [if_pos (by rw [tx_len]; have := h.2; omega), e]
theorem max_of {i j : Int} : maxD [.lst [.int i, .int j]] M = .ok (.int (maxL i [j])) M := rfl
theorem maxL_le {i j : Int} (h : i ≤ 600) (h2 : j ≤ 600) : maxL i [j] ≤ 600 := by
  show (if j > i then j else i) ≤ 600
  split <;> omega
theorem split_of {p : List Nat} (h : Asc p) : splitD (tx p) (tx [47]) M = .ok (.lst ((Txt.split (tx p) (tx [47])).map .str)) M := by
  unfold splitD
  rw [if_pos ⟨rfl, by rw [tx_len]; unfold szOk; have := h.2; simp; omega⟩]
theorem str1_of {g : Str → Str → List MO → R D} {fo fe : FE} {ρ : List Sl} {a b : Str} (h1 : fo ρ M = .ok (.str a) M) (h2 : fe ρ M = .ok (.str b) M) : dStr1 g fo fe ρ M = g a b M := by
  unfold dStr1
  rw [h1, R.bind_ok]
  dsimp only
  rw [h2]
  rfl
theorem ratio_of_is (h : Asc cs) : F_ratio_of [.str (tx cs)] M = outS cs M := by
  have hs : start0 6 [.str (tx cs)] = roR cs .mt .mt .mt .mt .mt := rfl
  have run : ∀ r : RS, b_ratio_of (roR cs .mt .mt .mt .mt .mt) M = r → F_ratio_of [.str (tx cs)] M = (match r with | .rt d M => .ok d M | .nx _ M => .ok .non M | .ex c xs _ M => .ex c xs M | _ => .bad) := fun r e => by
    unfold F_ratio_of runF
    rw [hs, e]
    cases r <;> rfl
  have s1 : (dIfS (dNot (dB (dIs [0] [.str] (dVar 0)))) (dRaise 1 (aCons (dC (.int 1)) (aCons (dC (.int 1)) aNil))) dNext) (roR cs .mt .mt .mt .mt .mt) M = .nx (roR cs .mt .mt .mt .mt .mt) M := (if_f (M1 := M) rfl).trans rfl
  have s2 : (dSet 1 (dCall (lenIs 1 F_ratio_column) [] (aCons (dVar 0) aNil))) (roR cs .mt .mt .mt .mt .mt) M = .nx (roR cs (.d (.int (colS cs : Nat))) .mt .mt .mt .mt) M :=
    set_of (i := 1) ((call1_of rfl).trans (ratio_column_is h))
  have c3 : dB (d2 gtI (dVar 1) (dC (.int 0))) (roR cs (.d (.int (colS cs : Nat))) .mt .mt .mt .mt) M = .ok (decide (0 < colS cs)) M :=
    (dB_of ((d2_of rfl rfl).trans (gtI_int _ _))).trans (dec_of (by omega))
  by_cases h0 : 0 < colS cs
  · rw [decide_eq_true h0] at c3
    rw [run _ ((seq_nx s1).trans ((seq_nx s2).trans (seq_ex ((if_t c3).trans (raise2_of rfl rfl)))))]
    unfold outS readS
    rw [if_pos h0]
  rw [decide_eq_false h0] at c3
  have s4 : (dSet 2 (dStr1 splitD (dVar 0) (dC (.str "/")))) (roR cs (.d (.int (colS cs : Nat))) .mt .mt .mt .mt) M = .nx (roR cs (.d (.int (colS cs : Nat))) (.d (.lst ((Txt.split (tx cs) (tx [47])).map .str))) .mt .mt .mt) M := by
    rw [s_slash]
    exact set_of (i := 2) ((str1_of rfl rfl).trans (split_of h))
  have pre : ∀ r, (dSeq (dSet 3 (dCB maxD (aCons (dLst (aCons (dCB lenD (aCons (dStr1 lstripD (d2 itemD (dVar 2) (dC (.int 0))) (dC (.str "-"))) aNil)) (aCons (dIf (dB (d2 eqD (dCB lenD (aCons (dVar 2) aNil)) (dC (.int 2)))) (dCB lenD (aCons (d2 itemD (dVar 2) (d1 negI (dC (.int 1)))) aNil)) (dC (.int 1))) aNil))) aNil)))
      (dSeq (dIfS (dB (d2 gtI (dVar 3) (dC (.int 4000)))) (dRaise 8 (aCons (dVar 3) aNil)) dNext)
      (dSeq (dIfS (dB (d2 eqD (dCB lenD (aCons (dVar 2) aNil)) (dC (.int 1)))) (dRet (dMake 0 2 F_Ratio___init__ [(.int 1)] (aCons (dCB intD2 (aCons (dVar 0) aNil)) aNil))) dNext)
      (dSeq (dPar 4 5 (aCons (dCB intD2 (aCons (d2 itemD (dVar 2) (dC (.int 0))) aNil)) (aCons (dCB intD2 (aCons (d2 itemD (dVar 2) (dC (.int 1))) aNil)) aNil)))
      (dSeq (dIfS (dOr (dB (d2 eqD (dVar 5) (dC (.int 1)))) (dB (d2 gtI (dCall (lenIs 2 F_divisor_of) [] (aCons (dVar 4) (aCons (dVar 5) aNil))) (dC (.int 1))))) (dRaise 1 (aCons (dC (.int 1)) (aCons (d2 addD (dCB lenD (aCons (d2 itemD (dVar 2) (dC (.int 0))) aNil)) (dC (.int 2))) aNil))) dNext)
      (dRet (dMake 0 2 F_Ratio___init__ [] (aCons (dVar 4) (aCons (dVar 5) aNil))))))))) (roR cs (.d (.int (colS cs : Nat))) (.d (.lst ((Txt.split (tx cs) (tx [47])).map .str))) .mt .mt .mt) M = r → b_ratio_of (roR cs .mt .mt .mt .mt .mt) M = r := fun r e =>
    (seq_nx s1).trans ((seq_nx s2).trans ((seq_nx ((if_f c3).trans rfl)).trans ((seq_nx s4).trans e)))
  have hc0 : colS cs = 0 := by omega
  rcases parse h hc0 with ⟨e1, t, e2⟩ | ⟨p, q, t, b, ap, aq, e1, e2, e3, hb1, hb2⟩
  · rw [e1] at pre
    have i0 : ∀ ρ, d2 itemD (dVar 2) (dC (.int 0)) (.d (.str (tx cs)) :: .d (.int (colS cs : Nat)) :: .d (.lst [.str (tx cs)]) :: ρ) M = .ok (.str (tx cs)) M := fun ρ => (d2_of rfl rfl).trans (itemL rfl)
    have m1 : dCB lenD (aCons (dStr1 lstripD (d2 itemD (dVar 2) (dC (.int 0))) (dC (.str "-"))) aNil) (roR cs (.d (.int (colS cs : Nat))) (.d (.lst [.str (tx cs)])) .mt .mt .mt) M = .ok (.int ((Txt.lstripChars (tx cs) (tx [45])).length : Nat)) M := by
      rw [s_minus]
      exact (cb1_of ((str1_of (i0 _) rfl).trans (strip_of h))).trans (len_str (strip_len h))
    have m2 : dIf (dB (d2 eqD (dCB lenD (aCons (dVar 2) aNil)) (dC (.int 2)))) (dCB lenD (aCons (d2 itemD (dVar 2) (d1 negI (dC (.int 1)))) aNil)) (dC (.int 1)) (roR cs (.d (.int (colS cs : Nat))) (.d (.lst [.str (tx cs)])) .mt .mt .mt) M = .ok (.int 1) M :=
      (dif_of ((eqi (i := 1) (j := 2) ((cb1_of rfl).trans lenL) rfl))).trans rfl
    have s5 : (dSet 3 (dCB maxD (aCons (dLst (aCons (dCB lenD (aCons (dStr1 lstripD (d2 itemD (dVar 2) (dC (.int 0))) (dC (.str "-"))) aNil)) (aCons (dIf (dB (d2 eqD (dCB lenD (aCons (dVar 2) aNil)) (dC (.int 2)))) (dCB lenD (aCons (d2 itemD (dVar 2) (d1 negI (dC (.int 1)))) aNil)) (dC (.int 1))) aNil))) aNil))) (roR cs (.d (.int (colS cs : Nat))) (.d (.lst [.str (tx cs)])) .mt .mt .mt) M = .nx (roR cs (.d (.int (colS cs : Nat))) (.d (.lst [.str (tx cs)])) (.d (.int (maxL ((Txt.lstripChars (tx cs) (tx [45])).length : Nat) [1]))) .mt .mt) M := by
      refine set_of (i := 3) ((cb1_of (x := .lst [.int ((Txt.lstripChars (tx cs) (tx [45])).length : Nat), .int 1]) (M1 := M) ?_).trans max_of)
      unfold dLst
      unfold aCons at m1 m2 ⊢
      rw [m1, R.bind_ok, m2]
      rfl
    have c6 : dB (d2 gtI (dVar 3) (dC (.int 4000))) (roR cs (.d (.int (colS cs : Nat))) (.d (.lst [.str (tx cs)])) (.d (.int (maxL ((Txt.lstripChars (tx cs) (tx [45])).length : Nat) [1]))) .mt .mt) M = .ok false M := by
      rw [dB_of ((d2_of rfl rfl).trans (gtI_int _ _)), decide_eq_false]
      have := maxL_le (i := ((Txt.lstripChars (tx cs) (tx [45])).length : Nat)) (j := 1) (by have := strip_len h; omega) (by decide)
      omega
    have c7 : dB (d2 eqD (dCB lenD (aCons (dVar 2) aNil)) (dC (.int 1))) (roR cs (.d (.int (colS cs : Nat))) (.d (.lst [.str (tx cs)])) (.d (.int (maxL ((Txt.lstripChars (tx cs) (tx [45])).length : Nat) [1]))) .mt .mt) M = .ok true M := (eqi (i := 1) (j := 1) ((cb1_of rfl).trans lenL) rfl).trans rfl
    have mk : dMake 0 2 F_Ratio___init__ [(.int 1)] (aCons (dCB intD2 (aCons (dVar 0) aNil)) aNil) (roR cs (.d (.int (colS cs : Nat))) (.d (.lst [.str (tx cs)])) (.d (.int (maxL ((Txt.lstripChars (tx cs) (tx [45])).length : Nat) [1]))) .mt .mt) M = .ok (.ins 0 [.int t, .int 1]) M := by
      have a1 : dCB intD2 (aCons (dVar 0) aNil) (roR cs (.d (.int (colS cs : Nat))) (.d (.lst [.str (tx cs)])) (.d (.int (maxL ((Txt.lstripChars (tx cs) (tx [45])).length : Nat) [1]))) .mt .mt) M = .ok (.int t) M := (cb1_of rfl).trans (int_of h e2)
      exact make_of (ds := [.int t]) (by unfold aCons at a1 ⊢; rw [a1]; rfl) rfl (init_is t 1 (by decide) (by simp))
    rw [run _ (pre _ ((seq_nx s5).trans ((seq_nx ((if_f c6).trans rfl)).trans (seq_rt ((if_t c7).trans (ret_of mk))))))]
    unfold outS readS
    rw [if_neg h0, e1]
    dsimp only
    rw [e2]
  · rw [e1] at pre
    have i0 : ∀ ρ, d2 itemD (dVar 2) (dC (.int 0)) (.d (.str (tx cs)) :: .d (.int (colS cs : Nat)) :: .d (.lst [.str (tx p), .str (tx q)]) :: ρ) M = .ok (.str (tx p)) M := fun ρ => (d2_of rfl rfl).trans (itemL rfl)
    have i1 : ∀ ρ, d2 itemD (dVar 2) (dC (.int 1)) (.d (.str (tx cs)) :: .d (.int (colS cs : Nat)) :: .d (.lst [.str (tx p), .str (tx q)]) :: ρ) M = .ok (.str (tx q)) M := fun ρ => (d2_of rfl rfl).trans (itemL rfl)
    have i2 : ∀ ρ, d2 itemD (dVar 2) (d1 negI (dC (.int 1))) (.d (.str (tx cs)) :: .d (.int (colS cs : Nat)) :: .d (.lst [.str (tx p), .str (tx q)]) :: ρ) M = .ok (.str (tx q)) M := fun ρ => (d2_of (y := .int (-1)) rfl rfl).trans (itemL rfl)
    have m1 : dCB lenD (aCons (dStr1 lstripD (d2 itemD (dVar 2) (dC (.int 0))) (dC (.str "-"))) aNil) (roR cs (.d (.int (colS cs : Nat))) (.d (.lst [.str (tx p), .str (tx q)])) .mt .mt .mt) M = .ok (.int ((Txt.lstripChars (tx p) (tx [45])).length : Nat)) M := by
      rw [s_minus]
      exact (cb1_of ((str1_of (i0 _) rfl).trans (strip_of ap))).trans (len_str (strip_len ap))
    have m2 : dIf (dB (d2 eqD (dCB lenD (aCons (dVar 2) aNil)) (dC (.int 2)))) (dCB lenD (aCons (d2 itemD (dVar 2) (d1 negI (dC (.int 1)))) aNil)) (dC (.int 1)) (roR cs (.d (.int (colS cs : Nat))) (.d (.lst [.str (tx p), .str (tx q)])) .mt .mt .mt) M = .ok (.int (q.length : Nat)) M :=
      (dif_of ((eqi (i := 2) (j := 2) ((cb1_of rfl).trans lenL) rfl))).trans (((if_pos (by decide)).trans (cb1_of (i2 _))).trans (len_tx aq))
    have s5 : (dSet 3 (dCB maxD (aCons (dLst (aCons (dCB lenD (aCons (dStr1 lstripD (d2 itemD (dVar 2) (dC (.int 0))) (dC (.str "-"))) aNil)) (aCons (dIf (dB (d2 eqD (dCB lenD (aCons (dVar 2) aNil)) (dC (.int 2)))) (dCB lenD (aCons (d2 itemD (dVar 2) (d1 negI (dC (.int 1)))) aNil)) (dC (.int 1))) aNil))) aNil))) (roR cs (.d (.int (colS cs : Nat))) (.d (.lst [.str (tx p), .str (tx q)])) .mt .mt .mt) M = .nx (roR cs (.d (.int (colS cs : Nat))) (.d (.lst [.str (tx p), .str (tx q)])) (.d (.int (maxL ((Txt.lstripChars (tx p) (tx [45])).length : Nat) [(q.length : Nat)]))) .mt .mt) M := by
      refine set_of (i := 3) ((cb1_of (x := .lst [.int ((Txt.lstripChars (tx p) (tx [45])).length : Nat), .int (q.length : Nat)]) (M1 := M) ?_).trans max_of)
      unfold dLst
      unfold aCons at m1 m2 ⊢
      rw [m1, R.bind_ok, m2]
      rfl
    generalize hmx : maxL ((Txt.lstripChars (tx p) (tx [45])).length : Nat) [(q.length : Nat)] = mx at s5
    have hmx2 : mx ≤ 600 := by
      rw [← hmx]
      exact maxL_le (by have := strip_len ap; omega) (by have := aq.2; omega)
    have c6 : dB (d2 gtI (dVar 3) (dC (.int 4000))) (roR cs (.d (.int (colS cs : Nat))) (.d (.lst [.str (tx p), .str (tx q)])) (.d (.int mx)) .mt .mt) M = .ok false M := by
      rw [dB_of ((d2_of rfl rfl).trans (gtI_int _ _)), decide_eq_false (by omega)]
    have c7 : dB (d2 eqD (dCB lenD (aCons (dVar 2) aNil)) (dC (.int 1))) (roR cs (.d (.int (colS cs : Nat))) (.d (.lst [.str (tx p), .str (tx q)])) (.d (.int mx)) .mt .mt) M = .ok false M := (eqi (i := 2) (j := 1) ((cb1_of rfl).trans lenL) rfl).trans rfl
    have s8 : (dPar 4 5 (aCons (dCB intD2 (aCons (d2 itemD (dVar 2) (dC (.int 0))) aNil)) (aCons (dCB intD2 (aCons (d2 itemD (dVar 2) (dC (.int 1))) aNil)) aNil))) (roR cs (.d (.int (colS cs : Nat))) (.d (.lst [.str (tx p), .str (tx q)])) (.d (.int mx)) .mt .mt) M = .nx (roR cs (.d (.int (colS cs : Nat))) (.d (.lst [.str (tx p), .str (tx q)])) (.d (.int mx)) (.d (.int t)) (.d (.int (b : Int)))) M := by
      have a1 : dCB intD2 (aCons (d2 itemD (dVar 2) (dC (.int 0))) aNil) (roR cs (.d (.int (colS cs : Nat))) (.d (.lst [.str (tx p), .str (tx q)])) (.d (.int mx)) .mt .mt) M = .ok (.int t) M := (cb1_of (i0 _)).trans (int_of ap e2)
      have a2 : dCB intD2 (aCons (d2 itemD (dVar 2) (dC (.int 1))) aNil) (roR cs (.d (.int (colS cs : Nat))) (.d (.lst [.str (tx p), .str (tx q)])) (.d (.int mx)) .mt .mt) M = .ok (.int (b : Int)) M := (cb1_of (i1 _)).trans (int_of aq e3)
      unfold dPar
      unfold aCons at a1 a2 ⊢
      rw [a1, R.bind_ok, a2]
      rfl
    have c9 : (dOr (dB (d2 eqD (dVar 5) (dC (.int 1)))) (dB (d2 gtI (dCall (lenIs 2 F_divisor_of) [] (aCons (dVar 4) (aCons (dVar 5) aNil))) (dC (.int 1))))) (roR cs (.d (.int (colS cs : Nat))) (.d (.lst [.str (tx p), .str (tx q)])) (.d (.int mx)) (.d (.int t)) (.d (.int (b : Int)))) M = .ok (decide ((b : Int) = 1 ∨ 1 < Int.gcd t b)) M :=
      orD (eqi rfl rfl) fun _ => (dB_of ((d2_of ((call2_of rfl rfl).trans (divisor_is t b)) rfl).trans (gtI_int _ _))).trans (dec_of (by omega))
    have tail : ∀ r, _ = r → _ = r := fun r e => pre r ((seq_nx s5).trans ((seq_nx ((if_f c6).trans rfl)).trans ((seq_nx ((if_f c7).trans rfl)).trans ((seq_nx s8).trans e))))
    have er : readS cs = if (b : Int) = 1 ∨ 1 < Int.gcd t b then .int ((p.length : Int) + 2) else .tup [.int t, .int (b : Int)] := by
      unfold readS
      rw [if_neg h0, e1]
      dsimp only
      rw [e2, e3]
      dsimp only
      rw [tx_len]
    by_cases hg : (b : Int) = 1 ∨ 1 < Int.gcd t b
    · rw [decide_eq_true hg] at c9
      have a3 : d2 addD (dCB lenD (aCons (d2 itemD (dVar 2) (dC (.int 0))) aNil)) (dC (.int 2)) (roR cs (.d (.int (colS cs : Nat))) (.d (.lst [.str (tx p), .str (tx q)])) (.d (.int mx)) (.d (.int t)) (.d (.int (b : Int)))) M = .ok (.int ((p.length : Int) + 2)) M := (d2_of ((cb1_of (i0 _)).trans (len_tx ap)) rfl).trans (addD_int _ _)
      rw [run _ (tail _ (seq_ex ((if_t c9).trans (raise2_of rfl a3))))]
      unfold outS
      rw [er, if_pos hg]
    · rw [decide_eq_false hg] at c9
      have hgc : Int.gcd t b = 1 := by
        have : Int.gcd t b ≠ 0 := fun z => by
          have := (Int.gcd_eq_zero_iff.mp z).2
          omega
        omega
      have mk : dMake 0 2 F_Ratio___init__ [] (aCons (dVar 4) (aCons (dVar 5) aNil)) (roR cs (.d (.int (colS cs : Nat))) (.d (.lst [.str (tx p), .str (tx q)])) (.d (.int mx)) (.d (.int t)) (.d (.int (b : Int)))) M = .ok (.ins 0 [.int t, .int (b : Int)]) M := by
        exact make_of (ds := [.int t, .int (b : Int)]) rfl rfl (init_is t b (by omega) hgc)
      rw [run _ (tail _ ((seq_nx ((if_f c9).trans rfl)).trans (ret_of mk)))]
      unfold outS
      rw [er, if_neg hg]
end
end LW
set_option maxRecDepth 100000
namespace LW
open PySem L2 DL
section
variable {cs : List Nat} {M : List MO}
theorem readS_is (h : Asc cs) : (∃ i, readS cs = .int i) ∨ ∃ t b, readS cs = .tup [.int t, .int b] := by
  unfold readS
  by_cases h0 : 0 < colS cs
  · rw [if_pos h0]; exact .inl ⟨_, rfl⟩
  · rw [if_neg h0]
    rcases parse h (by omega) with ⟨e1, t, e2⟩ | ⟨p, q, t, b, ap, aq, e1, e2, e3, hb1, hb2⟩
    · rw [e1]
      dsimp only
      rw [e2]
      exact .inr ⟨_, _, rfl⟩
    · rw [e1]
      dsimp only
      rw [e2, e3]
      dsimp only
      split
      · exact .inl ⟨_, rfl⟩
      · exact .inr ⟨_, _, rfl⟩
abbrev ldR (cs : List Nat) (a b c d : Sl) : List Sl := [.d (.str (tx cs)), a, b, c, d]
theorem due_is (h : Asc cs) : F__law_due [.str (tx cs)] M = .ok (readS cs) M := by
  have hs : start0 5 [.str (tx cs)] = ldR cs .mt .mt .mt .mt := rfl
  suffices hh : b__law_due (ldR cs .mt .mt .mt .mt) M = .rt (readS cs) M by
    unfold F__law_due runF
    rw [hs, hh]
  have s1 : (dSet 1 (dCall (lenIs 1 F__law_shape_column) [] (aCons (dVar 0) aNil))) (ldR cs .mt .mt .mt .mt) M = .nx (ldR cs (.d (.int (colS cs : Nat))) .mt .mt .mt) M :=
    set_of (i := 1) ((call1_of rfl).trans (shape_is h))
  refine (seq_nx s1).trans ?_
  refine ifret (p := 0 < colS cs) (x := .int (colS cs : Nat)) ((dB_of ((d2_of rfl rfl).trans (gtI_int _ _))).trans (dec_of (by omega))) (fun hp => ⟨rfl, by unfold readS; rw [if_pos hp]⟩) fun h0 => ?_
  have s4 : (dSet 2 (dStr1 splitD (dVar 0) (dC (.str "/")))) (ldR cs (.d (.int (colS cs : Nat))) .mt .mt .mt) M = .nx (ldR cs (.d (.int (colS cs : Nat))) (.d (.lst ((Txt.split (tx cs) (tx [47])).map .str))) .mt .mt) M := by
    rw [s_slash]
    exact set_of (i := 2) ((str1_of rfl rfl).trans (split_of h))
  refine (seq_nx s4).trans ?_
  rcases parse h (by omega) with ⟨e1, t, e2⟩ | ⟨p, q, t, b, ap, aq, e1, e2, e3, hb1, hb2⟩
  · rw [e1]
    have a1 : dCB intD2 (aCons (dVar 0) aNil) (ldR cs (.d (.int (colS cs : Nat))) (.d (.lst (List.map D.str [tx cs]))) .mt .mt) M = .ok (.int t) M := (cb1_of rfl).trans (int_of h e2)
    refine seq_rt ((if_t (M1 := M) ((eqi (i := 1) (j := 1) ((cb1_of rfl).trans lenL) rfl).trans rfl)).trans (ret_of ?_))
    unfold readS
    rw [if_neg h0, e1]
    dsimp only
    rw [e2]
    unfold dTup
    unfold aCons at a1 ⊢
    rw [a1, R.bind_ok]
    rfl
  · rw [e1]
    have i0 : ∀ ρ, d2 itemD (dVar 2) (dC (.int 0)) (.d (.str (tx cs)) :: .d (.int (colS cs : Nat)) :: .d (.lst [.str (tx p), .str (tx q)]) :: ρ) M = .ok (.str (tx p)) M := fun ρ => (d2_of rfl rfl).trans (itemL rfl)
    have i1 : ∀ ρ, d2 itemD (dVar 2) (dC (.int 1)) (.d (.str (tx cs)) :: .d (.int (colS cs : Nat)) :: .d (.lst [.str (tx p), .str (tx q)]) :: ρ) M = .ok (.str (tx q)) M := fun ρ => (d2_of rfl rfl).trans (itemL rfl)
    refine (seq_nx ((if_f (M1 := M) ((eqi (i := 2) (j := 1) ((cb1_of rfl).trans lenL) rfl).trans rfl)).trans rfl)).trans ?_
    have s8 : (dPar 3 4 (aCons (dCB intD2 (aCons (d2 itemD (dVar 2) (dC (.int 0))) aNil)) (aCons (dCB intD2 (aCons (d2 itemD (dVar 2) (dC (.int 1))) aNil)) aNil))) (ldR cs (.d (.int (colS cs : Nat))) (.d (.lst [.str (tx p), .str (tx q)])) .mt .mt) M = .nx (ldR cs (.d (.int (colS cs : Nat))) (.d (.lst [.str (tx p), .str (tx q)])) (.d (.int t)) (.d (.int (b : Int)))) M := by
      have a1 : dCB intD2 (aCons (d2 itemD (dVar 2) (dC (.int 0))) aNil) (ldR cs (.d (.int (colS cs : Nat))) (.d (.lst [.str (tx p), .str (tx q)])) .mt .mt) M = .ok (.int t) M := (cb1_of (i0 _)).trans (int_of ap e2)
      have a2 : dCB intD2 (aCons (d2 itemD (dVar 2) (dC (.int 1))) aNil) (ldR cs (.d (.int (colS cs : Nat))) (.d (.lst [.str (tx p), .str (tx q)])) .mt .mt) M = .ok (.int (b : Int)) M := (cb1_of (i1 _)).trans (int_of aq e3)
      unfold dPar
      unfold aCons at a1 a2 ⊢
      rw [a1, R.bind_ok, a2]
      rfl
    refine (seq_nx s8).trans (ret_of ((dif_of (b := decide (1 < (b : Int) ∧ Int.gcd t b = 1)) (andD ((dB_of ((d2_of rfl rfl).trans (gtI_int _ _)))) fun _ => (eqi ((call2_of rfl rfl).trans (lgcd_is t b (by rw [Int.natAbs_natCast]; exact hb2))) rfl).trans (dec_of (by omega)))).trans ?_))
    have er : readS cs = if (b : Int) = 1 ∨ 1 < Int.gcd t b then .int ((p.length : Int) + 2) else .tup [.int t, .int (b : Int)] := by
      unfold readS
      rw [if_neg h0, e1]
      dsimp only
      rw [e2, e3]
      dsimp only
      rw [tx_len]
    have hgc : Int.gcd t b ≠ 0 := fun z => by
      have := (Int.gcd_eq_zero_iff.mp z).2
      omega
    rw [er]
    by_cases hg : (b : Int) = 1 ∨ 1 < Int.gcd t b
    · rw [if_pos hg, if_neg (by rw [decide_eq_false (by omega)]; exact Bool.false_ne_true)]
      exact (d2_of ((cb1_of (i0 _)).trans (len_tx ap)) rfl).trans (addD_int _ _)
    · rw [if_neg hg, if_pos (decide_eq_true (by omega))]
      rfl
theorem pair_is (t b : Int) : F__law_pair [.ins 0 [.int t, .int b]] M = .ok (.tup [.int t, .int b]) M := rfl
/-- an error with its column is answered by the column -/
theorem read_ex {v : D} {i : Int} (h : F_ratio_of [v] M = .ex 1 [.int i, .int 1] M) : F__law_read [v] M = .ok (.int i) M := by
  have hs : start0 3 [v] = [.d v, .mt, .mt] := rfl
  have e1 : (dSet 1 (dCall (lenIs 1 F_ratio_of) [] (aCons (dVar 0) aNil))) [.d v, .mt, .mt] M = .ex 1 [.int i, .int 1] [.d v, .mt, .mt] M := by
    unfold dSet
    rw [(call1_of (F := F_ratio_of) rfl).trans h]
    rfl
  have e2 : (dRet (dIf (dB (d2 eqD (dXf 2 "line") (dC (.int 1)))) (dXf 2 "column") (d1 negI (dC (.int 1))))) [.d v, .mt, .exn 1 [.int i, .int 1]] M = .rt (.int i) M := by
    refine ret_of ((dif_of (b := true) ((eqi (i := 1) (j := 1) rfl rfl).trans rfl)).trans rfl)
  have e3 : dTryAs XS 1 2 (dSet 1 (dCall (lenIs 1 F_ratio_of) [] (aCons (dVar 0) aNil))) (dRet (dIf (dB (d2 eqD (dXf 2 "line") (dC (.int 1)))) (dXf 2 "column") (d1 negI (dC (.int 1))))) [.d v, .mt, .mt] M = .rt (.int i) M := by
    unfold dTryAs
    rw [e1]
    dsimp only
    refine (if_pos rfl).trans ((if_pos rfl).trans ?_)
    show unX 2 ((dRet (dIf (dB (d2 eqD (dXf 2 "line") (dC (.int 1)))) (dXf 2 "column") (d1 negI (dC (.int 1))))) [.d v, .mt, .exn 1 [.int i, .int 1]] M) = _
    rw [e2]
    rfl
  unfold F__law_read runF
  rw [hs, show b__law_read [.d v, .mt, .mt] M = .rt (.int i) M from seq_rt e3]
theorem read_ok {v : D} {t b : Int} (h : F_ratio_of [v] M = .ok (.ins 0 [.int t, .int b]) M) : F__law_read [v] M = .ok (.tup [.int t, .int b]) M := by
  have hs : start0 3 [v] = [.d v, .mt, .mt] := rfl
  have e1 : (dSet 1 (dCall (lenIs 1 F_ratio_of) [] (aCons (dVar 0) aNil))) [.d v, .mt, .mt] M = .nx [.d v, .d (.ins 0 [.int t, .int b]), .mt] M := set_of (i := 1) ((call1_of rfl).trans h)
  have e3 : dTryAs XS 1 2 (dSet 1 (dCall (lenIs 1 F_ratio_of) [] (aCons (dVar 0) aNil))) (dRet (dIf (dB (d2 eqD (dXf 2 "line") (dC (.int 1)))) (dXf 2 "column") (d1 negI (dC (.int 1))))) [.d v, .mt, .mt] M = .nx [.d v, .d (.ins 0 [.int t, .int b]), .mt] M := by
    unfold dTryAs
    rw [e1]
  unfold F__law_read runF
  rw [hs, show b__law_read [.d v, .mt, .mt] M = .rt (.tup [.int t, .int b]) M from (seq_nx e3).trans (ret_of ((dif_of (b := true) (M := M) rfl).trans ((if_pos rfl).trans ((call1_of rfl).trans (pair_is t b)))))]
theorem read_is (h : Asc cs) : F__law_read [.str (tx cs)] M = .ok (readS cs) M := by
  have e := ratio_of_is (M := M) h
  unfold outS at e
  rcases readS_is h with ⟨i, q⟩ | ⟨t, b, q⟩
  · rw [q] at e ⊢
    exact read_ex e
  · rw [q] at e ⊢
    exact read_ok e
theorem same_is (h : Asc cs) {ρ : List Sl} {fa : FE} (hf : fa ρ M = .ok (.str (tx cs)) M) : dB (d2 neD (dCall (lenIs 1 F__law_read) [] (aCons fa aNil)) (dCall (lenIs 1 F__law_due) [] (aCons fa aNil))) ρ M = .ok false M := by
  refine dB_of ((d2_of ((call1_of hf).trans (read_is h)) ((call1_of hf).trans (due_is h))).trans ?_)
  rcases readS_is h with ⟨i, q⟩ | ⟨t, b, q⟩
  · rw [q]; simp
  · rw [q]; simp
/-- no text: column 1 -/
theorem odd_is {v : D} (h : dB (dIs [0] [.str] (dVar 0)) [.d v, .mt, .mt, .mt, .mt, .mt] M = .ok false M) : F__law_read [v] M = .ok (.int 1) M := by
  refine read_ex ?_
  have hs : start0 6 [v] = [.d v, .mt, .mt, .mt, .mt, .mt] := rfl
  have c : dNot (dB (dIs [0] [.str] (dVar 0))) [.d v, .mt, .mt, .mt, .mt, .mt] M = .ok true M := by
    unfold dNot
    rw [h]; rfl
  unfold F_ratio_of runF
  rw [hs, show b_ratio_of [.d v, .mt, .mt, .mt, .mt, .mt] M = .ex 1 [.int 1, .int 1] [.d v, .mt, .mt, .mt, .mt, .mt] M from seq_ex ((if_t c).trans (raise2_of rfl rfl))]
end
end LW
set_option maxRecDepth 100000
namespace LW
open PySem L2 DL
section
variable {M : List MO}
theorem Pen.mono {n m : Nat} (P : Pen n M) (h : n ≤ m) : Pen m M := by
  obtain ⟨cs, a, d, c, f, e, h1, h2, h3, h4, h5, h6⟩ := P.is
  exact ⟨cs, a, d, c, f, e, h1, h2, h3, by omega, h5, h6⟩
theorem ldraw {n : Nat} {m : Int} (P : Pen n M) (hn : n + 1 ≤ 1000000) (hm : 0 < m) (hm2 : m < 1073741824) : ∃ r M', F__law_draw [.cel 0, .int m] M = .ok (.int r) M' ∧ 0 ≤ r ∧ r < m ∧ Pen (n + 1) M' := draw_is P hn hm hm2
theorem dcall2 {F : FN} {fa fb : FE} {ρ : List Sl} {x y : D} {r : R D} (h1 : fa ρ M = .ok x M) (h2 : fb ρ M = .ok y M) (h3 : F [x, y] M = r) : dCall (lenIs 2 F) [] (aCons fa (aCons fb aNil)) ρ M = r := (call2_of h1 h2).trans h3
theorem pick_is {n : Nat} {ds : List D} (P : Pen n M) (hn : n + 1 ≤ 1000000) (h0 : 0 < ds.length) (h1 : ds.length < 1000) : ∃ d M', d ∈ ds ∧ F__law_pick [.cel 0, .lst ds] M = .ok d M' ∧ Pen (n + 1) M' := by
  obtain ⟨r, M', e, h2, h3, P'⟩ := ldraw (m := (ds.length : Nat)) P hn (by omega) (by omega)
  have hl : r.toNat < ds.length := by omega
  refine ⟨ds[r.toNat], M', List.getElem_mem hl, ?_, P'⟩
  have hs : start0 2 [.cel 0, .lst ds] = [.d (.cel 0), .d (.lst ds)] := rfl
  have c : dCall (lenIs 2 F__law_draw) [] (aCons (dVar 0) (aCons (dCB lenD (aCons (dVar 1) aNil)) aNil)) [.d (.cel 0), .d (.lst ds)] M = .ok (.int r) M' := dcall2 rfl ((cb1_of rfl).trans lenL) e
  have it : itemD (.lst ds) (.int r) M' = .ok ds[r.toNat] M' := itemL (by rw [atI_pos h2 (by omega)]; exact List.getElem?_eq_getElem hl)
  unfold F__law_pick runF
  rw [hs, show b__law_pick [.d (.cel 0), .d (.lst ds)] M = .rt ds[r.toNat] M' from ret_of ((d2_of rfl c).trans it)]
/-- plain signs -/
def Pl (k : Nat) (cs : List Nat) : Prop := (∀ c ∈ cs, c < 128) ∧ cs.length ≤ k
theorem Pl.asc {k : Nat} {cs : List Nat} (h : Pl k cs) (hk : k ≤ 600) : Asc cs := ⟨h.1, Nat.le_trans h.2 hk⟩
theorem lit_ok (k : Nat) (z : Str) (h : (z.cps.toList.all (fun c => decide (c < 128)) && decide (z.cps.toList.length ≤ k)) = true) : ∃ cs, D.str z = .str (tx cs) ∧ Pl k cs := by
  rw [Bool.and_eq_true] at h
  refine ⟨z.cps.toList, by rw [← tx_of], fun c hc => ?_, of_decide_eq_true h.2⟩
  exact of_decide_eq_true (List.all_eq_true.mp h.1 c hc)
theorem tx_app (a b : List Nat) : tx a ++ tx b = tx (a ++ b) := by
  refine TL.ext_tl ?_
  rw [TL.tl_append]
  show (tx a).cps.toList ++ (tx b).cps.toList = (tx (a ++ b)).cps.toList
  rw [tx_cps, tx_cps, tx_cps]
theorem add_tx {a b : List Nat} (h : a.length + b.length ≤ 1000) : addD (.str (tx a)) (.str (tx b)) M = .ok (.str (tx (a ++ b))) M := by
  have : addS (.str (tx a)) (.str (tx b)) M = .ok (.str (tx (a ++ b))) M := by
    show (if szOk ((tx a).length + (tx b).length) then R.ok (D.str (tx a ++ tx b)) M else .bad) = _
    rw [if_pos (by rw [tx_len, tx_len]; unfold szOk; simp; omega), tx_app]
  show (match (match addS (.str (tx a)) (.str (tx b)) M with | .bad => gOr2 addL addT _ _ M | r => r) with | r => r) = _
  rw [this]
theorem str_nat (n : Nat) (h : n < 10 ^ 7) : ∃ cs, (toString ((n : Nat) : Int) : Str) = tx cs ∧ Pl 7 cs := by
  refine ⟨TL.numL n, TL.ext_tl ?_, fun c hc => ?_, TL.numL_len (by decide) h⟩
  · rw [TL.tl_num]; show _ = (tx (TL.numL n)).cps.toList; rw [tx_cps]
  · have := TL.numL_digits n c hc; omega
theorem str_int (i : Int) (h : i.natAbs < 10 ^ 7) : ∃ cs, (toString i : Str) = tx cs ∧ Pl 8 cs := by
  by_cases h0 : 0 ≤ i
  · obtain ⟨cs, e, p⟩ := str_nat i.natAbs h
    refine ⟨cs, ?_, p.1, by have := p.2; omega⟩
    rw [← e]
    congr 2
    omega
  · obtain ⟨cs, e, p⟩ := str_nat i.natAbs h
    refine ⟨45 :: cs, ?_, fun c hc => ?_, by rw [List.length_cons]; have := p.2; omega⟩
    · rw [show toString i = "-" ++ toString (0 - i) from PyProof.Rows.toString_neg (by omega)]
      rw [show (0 - i) = ((i.natAbs : Nat) : Int) by omega]
      have a : Str.ofString ("-" ++ toString ((i.natAbs : Nat) : Int)) = Str.ofString "-" ++ Str.ofString (toString ((i.natAbs : Nat) : Int)) := by
        refine TL.ext_tl ?_
        rw [TL.tl_append]
        rw [Str.ofString_eq_toList, Str.ofString_eq_toList, Str.ofString_eq_toList]
        simp [TL.tl]
      rw [a, e, show Str.ofString "-" = tx [45] from s_minus, tx_app]
      rfl
    · rcases List.mem_cons.mp hc with rfl | hc
      · decide
      · exact p.1 c hc
theorem strD_ok {i : Int} (h : i.natAbs < 10 ^ 7) : ∃ cs, strD [.int i] M = .ok (.str (tx cs)) M ∧ Pl 8 cs := by
  obtain ⟨cs, e, p⟩ := str_int i h
  refine ⟨cs, ?_, p⟩
  unfold strD
  dsimp only
  rw [if_pos ?_]
  · rw [← e]
  · by_cases hz : i.natAbs = 0
    · rw [hz]; decide
    · have : i.natAbs.log2 < 24 := (Nat.log2_lt hz).mpr (by omega)
      omega
/-- a text of a ratio -/
theorem frac_ok {ρ : List Sl} {fa fb : FE} {i j : Int} (h1 : fa ρ M = .ok (.int i) M) (h2 : fb ρ M = .ok (.int j) M) (hi : i.natAbs < 10 ^ 7) (hj : j.natAbs < 10 ^ 7) :
    ∃ cs, d2 addD (d2 addD (dCB strD (aCons fa aNil)) (dC (.str "/"))) (dCB strD (aCons fb aNil)) ρ M = .ok (.str (tx cs)) M ∧ Pl 20 cs := by
  obtain ⟨a, e1, p1⟩ := strD_ok (M := M) hi
  obtain ⟨b, e2, p2⟩ := strD_ok (M := M) hj
  have l1 := p1.2
  have l2 := p2.2
  refine ⟨(a ++ [47]) ++ b, ?_, fun c hc => ?_, by simp; omega⟩
  · rw [s_slash]
    exact (d2_of ((d2_of ((cb1_of h1).trans e1) rfl).trans (add_tx (by simp; omega))) ((cb1_of h2).trans e2)).trans (add_tx (by simp; omega))
  · rcases List.mem_append.mp hc with hc | hc
    · rcases List.mem_append.mp hc with hc | hc
      · exact p1.1 c hc
      · rw [List.mem_singleton.mp hc]; decide
    · exact p2.1 c hc
theorem q_is (t b : Int) (hb : 0 < b) (hb2 : b < 1000) : ∃ t' b', F__law_q [.int t, .int b] M = .ok (.tup [.int t', .int b']) M ∧ t'.natAbs ≤ t.natAbs ∧ b'.natAbs ≤ b.natAbs := by
  have g0 : 0 < Int.gcd t b := Nat.pos_of_ne_zero fun z => by
    have := (Int.gcd_eq_zero_iff.mp z).2
    omega
  have g1 : Int.gcd t b ≤ b.natAbs := Nat.le_of_dvd (by omega) (Int.gcd_dvd_natAbs_right t b)
  refine ⟨t.fdiv (Int.gcd t b : Nat), b.fdiv (Int.gcd t b : Nat), ?_, ?_, ?_⟩
  · have hs : start0 3 [.int t, .int b] = [.d (.int t), .d (.int b), .mt] := rfl
    have s1 : (dSet 2 (dCall (lenIs 2 F__law_gcd) [] (aCons (dVar 0) (aCons (dVar 1) aNil)))) [.d (.int t), .d (.int b), .mt] M = .nx [.d (.int t), .d (.int b), .d (.int (Int.gcd t b : Nat))] M :=
      set_of (i := 2) (dcall2 rfl rfl (lgcd_is t b (Nat.lt_of_lt_of_le (show b.natAbs < 2 ^ 10 by omega) (Nat.pow_le_pow_right (by decide) (by decide)))))
    have c : dB (d2 ltI (dVar 1) (dC (.int 0))) [.d (.int t), .d (.int b), .d (.int (Int.gcd t b : Nat))] M = .ok false M := by
      rw [dB_of ((d2_of rfl rfl).trans (ltI_int b 0)), decide_eq_false (by omega)]
    have a1 : d2 divI (dVar 0) (dVar 2) [.d (.int t), .d (.int b), .d (.int (Int.gcd t b : Nat))] M = .ok (.int (t.fdiv (Int.gcd t b : Nat))) M := (d2_of rfl rfl).trans (divI_int (by omega) (by omega))
    have a2 : d2 divI (dVar 1) (dVar 2) [.d (.int t), .d (.int b), .d (.int (Int.gcd t b : Nat))] M = .ok (.int (b.fdiv (Int.gcd t b : Nat))) M := (d2_of rfl rfl).trans (divI_int (by omega) (by omega))
    have r : dTup (aCons (d2 divI (dVar 0) (dVar 2)) (aCons (d2 divI (dVar 1) (dVar 2)) aNil)) [.d (.int t), .d (.int b), .d (.int (Int.gcd t b : Nat))] M = .ok (.tup [.int (t.fdiv (Int.gcd t b : Nat)), .int (b.fdiv (Int.gcd t b : Nat))]) M := by
      unfold dTup aCons
      rw [a1, R.bind_ok, a2]
      rfl
    unfold F__law_q runF
    rw [hs, show b__law_q [.d (.int t), .d (.int b), .mt] M = _ from (seq_nx s1).trans ((seq_nx ((if_f c).trans rfl)).trans (ret_of r))]
  · rw [Int.fdiv_eq_ediv_of_nonneg _ (by omega)]
    exact Int.natAbs_ediv_le_natAbs _ _
  · rw [Int.fdiv_eq_ediv_of_nonneg _ (by omega)]
    exact Int.natAbs_ediv_le_natAbs _ _
theorem written_is {t b : Int} (ht : t.natAbs < 10 ^ 7) (hb : b.natAbs < 10 ^ 7) : ∃ cs, F__law_written [.tup [.int t, .int b]] M = .ok (.str (tx cs)) M ∧ Pl 20 cs := by
  have hs : start0 1 [.tup [.int t, .int b]] = [.d (.tup [.int t, .int b])] := rfl
  have i0 : d2 itemD (dVar 0) (dC (.int 0)) [.d (.tup [.int t, .int b])] M = .ok (.int t) M := rfl
  have i1 : d2 itemD (dVar 0) (dC (.int 1)) [.d (.tup [.int t, .int b])] M = .ok (.int b) M := rfl
  have c := eqi (i := b) (j := 1) i1 (rfl : dC (.int 1) [.d (.tup [.int t, .int b])] M = _)
  by_cases h1 : b = 1
  · obtain ⟨a, e1, p1⟩ := strD_ok (M := M) ht
    refine ⟨a, ?_, p1.1, by have := p1.2; omega⟩
    unfold F__law_written runF
    rw [hs, show b__law_written [.d (.tup [.int t, .int b])] M = .rt (.str (tx a)) M from ret_of ((dif_of c).trans ((if_pos (decide_eq_true h1)).trans ((cb1_of i0).trans e1)))]
  · obtain ⟨a, e1, p1⟩ := frac_ok (M := M) i0 i1 ht hb
    refine ⟨a, ?_, p1⟩
    unfold F__law_written runF
    rw [hs, show b__law_written [.d (.tup [.int t, .int b])] M = .rt (.str (tx a)) M from ret_of ((dif_of c).trans ((if_neg (by rw [decide_eq_false h1]; exact Bool.false_ne_true)).trans e1))]
end
end LW
set_option maxRecDepth 100000
namespace LW
open PySem L2 DL
section
variable {M : List MO}
theorem lits_ok (k : Nat) (zs : List Str) (h : zs.all (fun z => z.cps.toList.all (fun c => decide (c < 128)) && decide (z.cps.toList.length ≤ k)) = true) : ∀ d ∈ zs.map D.str, ∃ cs, d = .str (tx cs) ∧ Pl k cs := fun d hd => by
  obtain ⟨z, hz, rfl⟩ := List.mem_map.mp hd
  exact lit_ok k z (List.all_eq_true.mp h z hz)
theorem Pl.mono {k j : Nat} {cs : List Nat} (h : Pl k cs) (hj : k ≤ j) : Pl j cs := ⟨h.1, Nat.le_trans h.2 hj⟩
theorem par23 {fa fb : FE} {x y : D} {a b c d : Sl} {M1 M2 : List MO} (h1 : fa [a, b, c, d] M = .ok x M1) (h2 : fb [a, b, c, d] M1 = .ok y M2) : dPar 2 3 (aCons fa (aCons fb aNil)) [a, b, c, d] M = .nx [a, b, .d x, .d y] M2 := by
  unfold dPar aCons
  rw [h1, R.bind_ok, h2]
  rfl
theorem start_is {n : Nat} (P : Pen n M) (hn : n + 3 ≤ 1000000) : ∃ cs M', F__law_start [.cel 0] M = .ok (.str (tx cs)) M' ∧ Pl 100 cs ∧ Pen (n + 3) M' := by
  have hs : start0 4 [.cel 0] = [.d (.cel 0), .mt, .mt, .mt] := rfl
  obtain ⟨w, M1, e1, _, _, P1⟩ := ldraw (m := 4) P (by omega) (by decide) (by decide)
  have s1 : (dSet 1 (dCall (lenIs 2 F__law_draw) [] (aCons (dVar 0) (aCons (dC (.int 4)) aNil)))) [.d (.cel 0), .mt, .mt, .mt] M = .nx [.d (.cel 0), .d (.int w), .mt, .mt] M1 := set_of (i := 1) (dcall2 rfl rfl e1)|>.trans rfl
  suffices hh : ∃ cs M', b__law_start [.d (.cel 0), .mt, .mt, .mt] M = .rt (.str (tx cs)) M' ∧ Pl 100 cs ∧ Pen (n + 3) M' by
    obtain ⟨cs, M', e, p, q⟩ := hh
    refine ⟨cs, M', ?_, p, q⟩
    unfold F__law_start runF
    rw [hs, e]
  unfold b__law_start
  rw [seq_nx s1]
  have c0 : dB (d2 eqD (dVar 1) (dC (.int 0))) [.d (.cel 0), .d (.int w), .mt, .mt] M1 = .ok (decide (w = 0)) M1 := eqi rfl rfl
  by_cases h0 : w = 0
  · obtain ⟨d, M2, hd, e2, P2⟩ := pick_is (ds := (["0", "-1", "2/4", "3/1", "-6/9", "0/2", "10/01", "7", "12/35", ""] : List Str).map D.str) P1 (by omega) (by decide) (by decide)
    obtain ⟨cs, rfl, p⟩ := lits_ok 100 _ (by kernel_rfl) d hd
    refine ⟨cs, M2, ?_, p, LW.Pen.mono P2 (by omega)⟩
    refine seq_rt ((if_t (c0.trans (by rw [decide_eq_true h0]))).trans (ret_of (dcall2 rfl ?_ e2)))
    rfl
  have n0 : ∀ f, dIfS (dB (d2 eqD (dVar 1) (dC (.int 0)))) (dRet f) dNext [.d (.cel 0), .d (.int w), .mt, .mt] M1 = .nx [.d (.cel 0), .d (.int w), .mt, .mt] M1 := fun f => (if_f (c0.trans (by rw [decide_eq_false h0]))).trans rfl
  rw [seq_nx (n0 _)]
  obtain ⟨t, M2, e2, t0, t1, P2⟩ := ldraw (m := 1000000) P1 (by omega) (by decide) (by decide)
  obtain ⟨b, M3, e3, b0, b1, P3⟩ := ldraw (m := 60) P2 (by omega) (by decide) (by decide)
  rw [seq_nx (par23 ((d2_of (dcall2 rfl rfl e2) rfl).trans (subI_int _ _)) ((d2_of rfl (dcall2 rfl rfl e3)).trans (addD_int _ _)))]
  have c1 : dB (d2 eqD (dVar 1) (dC (.int 1))) [.d (.cel 0), .d (.int w), .d (.int (t - 400000)), .d (.int (1 + b))] M3 = .ok (decide (w = 1)) M3 := eqi rfl rfl
  by_cases h1 : w = 1
  · obtain ⟨cs, e4, p⟩ := frac_ok (M := M3) (ρ := [.d (.cel 0), .d (.int w), .d (.int (t - 400000)), .d (.int (1 + b))]) (fa := dVar 2) (fb := dVar 3) rfl rfl (by omega) (by omega)
    exact ⟨cs, M3, seq_rt ((if_t (c1.trans (by rw [decide_eq_true h1]))).trans (ret_of e4)), p.mono (by decide), P3⟩
  have n1 : ∀ f, dIfS (dB (d2 eqD (dVar 1) (dC (.int 1)))) (dRet f) dNext [.d (.cel 0), .d (.int w), .d (.int (t - 400000)), .d (.int (1 + b))] M3 = .nx [.d (.cel 0), .d (.int w), .d (.int (t - 400000)), .d (.int (1 + b))] M3 := fun f => (if_f (c1.trans (by rw [decide_eq_false h1]))).trans rfl
  rw [seq_nx (n1 _)]
  obtain ⟨t', b', e4, l1, l2⟩ := q_is (M := M3) (t - 400000) (1 + b) (by omega) (by omega)
  obtain ⟨cs, e5, p⟩ := written_is (M := M3) (t := t') (b := b') (by omega) (by omega)
  exact ⟨cs, M3, ret_of ((call1_of ((dcall2 rfl rfl e4))).trans e5), p.mono (by decide), P3⟩
/-! ### the bends -/
theorem slice_of' {fe fl fu : FE} {ρ : List Sl} {x l u : D} {M1 M2 M3 : List MO} (h1 : fe ρ M = .ok x M1) (h2 : fl ρ M1 = .ok l M2) (hl : (opI l).isSome = true) (h3 : fu ρ M2 = .ok u M3) : dSlice fe fl fu ρ M = sliceD x l u M3 := by
  unfold dSlice
  rw [h1, R.bind_ok, h2, R.bind_ok, if_pos hl, h3, R.bind_ok]
theorem int_of' {f : FE} {ρ : List Sl} {i : Int} {M1 : List MO} (h : f ρ M = .ok (.int i) M1) : dInt f ρ M = .ok (.int i) M1 := by unfold dInt; rw [h]; rfl
noncomputable abbrev bendB : FS := (dSeq (dIfS (dB (d2 neD (dCall (lenIs 1 F__law_read) [] (aCons (dVar 3) aNil)) (dCall (lenIs 1 F__law_due) [] (aCons (dVar 3) aNil)))) (dRet (dC (.bl false))) dNext)
  (dSeq (dSet 5 (dCall (lenIs 2 F__law_draw) [] (aCons (dVar 1) (aCons (d2 addD (dCB lenD (aCons (dVar 3) aNil)) (dC (.int 1))) aNil))))
  (dSeq (dSet 6 (dCall (lenIs 2 F__law_pick) [] (aCons (dVar 1) (aCons (dLst (aCons (dC (.str "0")) (aCons (dC (.str "1")) (aCons (dC (.str "7")) (aCons (dC (.str "/")) (aCons (dC (.str "-")) (aCons (dC (.str "+")) (aCons (dC (.str " ")) (aCons (dC (.str "a")) (aCons (dC (.str "")) aNil)))))))))) aNil))))
  (dSet 3 (d2 addD (d2 addD (dSlice (dVar 3) (dC .non) (dInt (dVar 5))) (dVar 6)) (dSlice (dVar 3) (dInt (d2 addD (dVar 5) (dCall (lenIs 2 F__law_draw) [] (aCons (dVar 1) (aCons (dC (.int 2)) aNil))))) (dC .non)))))))
theorem bend_is {n k : Nat} {cs : List Nat} {x t b a s o : Sl} (P : Pen n M) (hn : n + 3 ≤ 1000000) (h : Pl k cs) (hk : k ≤ 400) :
    ∃ cs' M' a' s', bendB [x, .d (.cel 0), t, .d (.str (tx cs)), b, a, s, o] M = .nx [x, .d (.cel 0), t, .d (.str (tx cs')), b, a', s', o] M' ∧ Pl (k + 1) cs' ∧ Pen (n + 3) M' := by
  have A : Asc cs := h.asc (by omega)
  have hl := h.2
  have e0 : (dIfS (dB (d2 neD (dCall (lenIs 1 F__law_read) [] (aCons (dVar 3) aNil)) (dCall (lenIs 1 F__law_due) [] (aCons (dVar 3) aNil)))) (dRet (dC (.bl false))) dNext) [x, .d (.cel 0), t, .d (.str (tx cs)), b, a, s, o] M = .nx [x, .d (.cel 0), t, .d (.str (tx cs)), b, a, s, o] M := (if_f (same_is A rfl)).trans rfl
  obtain ⟨p, M1, e1, p0, p1, P1⟩ := ldraw (m := (cs.length : Int) + 1) P (by omega) (by omega) (by omega)
  have s1 : (dSet 5 (dCall (lenIs 2 F__law_draw) [] (aCons (dVar 1) (aCons (d2 addD (dCB lenD (aCons (dVar 3) aNil)) (dC (.int 1))) aNil)))) [x, .d (.cel 0), t, .d (.str (tx cs)), b, a, s, o] M = .nx [x, .d (.cel 0), t, .d (.str (tx cs)), b, .d (.int p), s, o] M1 :=
    (set_of (i := 5) (dcall2 rfl ((d2_of ((cb1_of rfl).trans (len_tx A)) rfl).trans (addD_int _ _)) e1)).trans rfl
  obtain ⟨d, M2, hd, e2, P2⟩ := pick_is (ds := (["0", "1", "7", "/", "-", "+", " ", "a", ""] : List Str).map D.str) P1 (by omega) (by decide) (by decide)
  obtain ⟨sg, rfl, g⟩ := lits_ok 1 _ (by kernel_rfl) d hd
  have s2 : (dSet 6 (dCall (lenIs 2 F__law_pick) [] (aCons (dVar 1) (aCons (dLst (aCons (dC (.str "0")) (aCons (dC (.str "1")) (aCons (dC (.str "7")) (aCons (dC (.str "/")) (aCons (dC (.str "-")) (aCons (dC (.str "+")) (aCons (dC (.str " ")) (aCons (dC (.str "a")) (aCons (dC (.str "")) aNil)))))))))) aNil)))) [x, .d (.cel 0), t, .d (.str (tx cs)), b, .d (.int p), s, o] M1 = .nx [x, .d (.cel 0), t, .d (.str (tx cs)), b, .d (.int p), .d (.str (tx sg)), o] M2 := (set_of (i := 6) (dcall2 rfl rfl e2)).trans rfl
  obtain ⟨j, M3, e3, j0, j1, P3⟩ := ldraw (m := 2) P2 (by omega) (by decide) (by decide)
  have hg := g.2
  have lt : (cs.take p.toNat).length = p.toNat := by rw [List.length_take]; omega
  have ld : (cs.drop (p + j).toNat).length = cs.length - (p + j).toNat := List.length_drop ..
  have s3 : (dSet 3 (d2 addD (d2 addD (dSlice (dVar 3) (dC .non) (dInt (dVar 5))) (dVar 6)) (dSlice (dVar 3) (dInt (d2 addD (dVar 5) (dCall (lenIs 2 F__law_draw) [] (aCons (dVar 1) (aCons (dC (.int 2)) aNil))))) (dC .non)))) [x, .d (.cel 0), t, .d (.str (tx cs)), b, .d (.int p), .d (.str (tx sg)), o] M2 = .nx [x, .d (.cel 0), t, .d (.str (tx ((cs.take p.toNat ++ sg) ++ cs.drop (p + j).toNat))), b, .d (.int p), .d (.str (tx sg)), o] M3 := by
    have a1 : dSlice (dVar 3) (dC .non) (dInt (dVar 5)) [x, .d (.cel 0), t, .d (.str (tx cs)), b, .d (.int p), .d (.str (tx sg)), o] M2 = .ok (.str (tx (cs.take p.toNat))) M2 := (slice_of' rfl rfl rfl (int_of' rfl)).trans (slice_to A p0)
    have a2 : dSlice (dVar 3) (dInt (d2 addD (dVar 5) (dCall (lenIs 2 F__law_draw) [] (aCons (dVar 1) (aCons (dC (.int 2)) aNil))))) (dC .non) [x, .d (.cel 0), t, .d (.str (tx cs)), b, .d (.int p), .d (.str (tx sg)), o] M2 = .ok (.str (tx (cs.drop (p + j).toNat))) M3 :=
      (slice_of' rfl (int_of' ((d2_of rfl (dcall2 rfl rfl e3)).trans (addD_int _ _))) rfl rfl).trans (slice_from A (by omega))
    exact (set_of (i := 3) ((d2_of ((d2_of a1 rfl).trans (add_tx (by omega))) a2).trans (add_tx (by rw [List.length_append]; omega)))).trans rfl
  refine ⟨_, M3, _, _, (seq_nx e0).trans ((seq_nx s1).trans ((seq_nx s2).trans s3)), ⟨fun c hc => ?_, ?_⟩, P3⟩
  · rcases List.mem_append.mp hc with hc | hc
    · rcases List.mem_append.mp hc with hc | hc
      · exact h.1 c (List.mem_of_mem_take hc)
      · exact g.1 c hc
    · exact h.1 c (List.mem_of_mem_drop hc)
  · rw [List.length_append, List.length_append, lt, ld]
    omega
theorem bend_for {x t o : Sl} : ∀ (ds : List D) (n k : Nat) (cs : List Nat) (M : List MO) (b a s : Sl), Pen n M → n + 3 * ds.length ≤ 1000000 → Pl k cs → k + ds.length ≤ 400 →
    ∃ cs' M' b' a' s', forL (gN 4) bendB ds [x, .d (.cel 0), t, .d (.str (tx cs)), b, a, s, o] M = .nx [x, .d (.cel 0), t, .d (.str (tx cs')), b', a', s', o] M' ∧ Pen (n + 3 * ds.length) M'
  | [], n, k, cs, M, b, a, s, P, hn, h, hk => ⟨cs, M, b, a, s, rfl, P⟩
  | d :: ds, n, k, cs, M, b, a, s, P, hn, h, hk => by
    rw [List.length_cons] at hn hk
    obtain ⟨cs1, M1, a1, s1, e1, p1, P1⟩ := bend_is (x := x) (t := t) (b := .d d) (a := a) (s := s) (o := o) P (by omega) h (by omega)
    obtain ⟨cs2, M2, b2, a2, s2, e2, P2⟩ := bend_for ds (n + 3) (k + 1) cs1 M1 (.d d) a1 s1 P1 (by omega) p1 (by omega)
    exact ⟨cs2, M2, b2, a2, s2, (forL_nx rfl e1).trans e2, LW.Pen.mono P2 (by rw [List.length_cons]; omega)⟩
/-! ### the turns -/
theorem acons_of {fa : FE} {g : FA} {ρ : List Sl} {x : D} {xs : List D} {M1 M2 : List MO} (h1 : fa ρ M = .ok x M1) (h2 : g ρ M1 = .ok xs M2) : aCons fa g ρ M = .ok (x :: xs) M2 := by
  unfold aCons
  rw [h1, R.bind_ok, h2]
  rfl
theorem lst_of {g : FA} {ρ : List Sl} {xs : List D} {M1 : List MO} (h : g ρ M = .ok xs M1) (hs : szOk xs.length = true) : dLst g ρ M = .ok (.lst xs) M1 := by
  unfold dLst
  rw [h, R.bind_ok, if_pos hs]
abbrev oddL : List D := [.non, .int 3, .ins 0 [.int 1, .int 2], .tup [.str "1"], .lst [.str "1"], .bl true]
theorem odds {v : D} (h : v ∈ oddL) : F__law_read [v] M = .ok (.int 1) M := by
  simp only [oddL, List.mem_cons, List.not_mem_nil, or_false] at h
  rcases h with rfl | rfl | rfl | rfl | rfl | rfl <;> exact odd_is rfl
noncomputable abbrev turnB : FS := (dSeq (dSet 3 (dCall (lenIs 1 F__law_start) [] (aCons (dVar 1) aNil)))
  (dSeq (dFor (iRange1 (dC (.int 4))) (gN 4) bendB)
  (dSeq (dSet 7 (d2 itemD (dLst (aCons (dC .non) (aCons (dC (.int 3)) (aCons (dMake 0 2 F_Ratio___init__ [] (aCons (dC (.int 1)) (aCons (dC (.int 2)) aNil))) (aCons (dTup (aCons (dC (.str "1")) aNil)) (aCons (dLst (aCons (dC (.str "1")) aNil)) (aCons (dC (.bl true)) aNil))))))) (dCall (lenIs 2 F__law_draw) [] (aCons (dVar 1) (aCons (dC (.int 6)) aNil)))))
  (dIfS (dB (d2 neD (dCall (lenIs 1 F__law_read) [] (aCons (dVar 7) aNil)) (dC (.int 1)))) (dRet (dC (.bl false))) dNext))))
theorem turn_is {n : Nat} {x t y b a s o : Sl} (P : Pen n M) (hn : n + 16 ≤ 1000000) :
    ∃ y' b' a' s' o' M', turnB [x, .d (.cel 0), t, y, b, a, s, o] M = .nx [x, .d (.cel 0), t, y', b', a', s', o'] M' ∧ Pen (n + 16) M' := by
  obtain ⟨cs, M1, e1, p1, P1⟩ := start_is P (by omega)
  have s1 : (dSet 3 (dCall (lenIs 1 F__law_start) [] (aCons (dVar 1) aNil))) [x, .d (.cel 0), t, y, b, a, s, o] M = .nx [x, .d (.cel 0), t, .d (.str (tx cs)), b, a, s, o] M1 := (set_of (i := 3) ((call1_of rfl).trans e1)).trans rfl
  obtain ⟨cs2, M2, b2, a2, s2, e2, P2⟩ := bend_for (x := x) (t := t) (o := o) ((List.range 4).map fun (i : Nat) => D.int (i : Int)) _ _ cs M1 b a s P1 (by simp; omega) p1 (by simp)
  have e2' : dFor (iRange1 (dC (.int 4))) (gN 4) bendB [x, .d (.cel 0), t, .d (.str (tx cs)), b, a, s, o] M1 = .nx [x, .d (.cel 0), t, .d (.str (tx cs2)), b2, a2, s2, o] M2 := e2
  obtain ⟨r, M3, e3, r0, r1, P3⟩ := ldraw (m := 6) P2 (by simp; omega) (by decide) (by decide)
  have hr : r.toNat < oddL.length := by show r.toNat < 6; omega
  have mk : ∀ ρ, dMake 0 2 F_Ratio___init__ [] (aCons (dC (.int 1)) (aCons (dC (.int 2)) aNil)) ρ M2 = .ok (.ins 0 [.int 1, .int 2]) M2 := fun ρ => make_of rfl rfl (init_is 1 2 (by decide) (by decide))
  have ls : ∀ ρ, dLst (aCons (dC .non) (aCons (dC (.int 3)) (aCons (dMake 0 2 F_Ratio___init__ [] (aCons (dC (.int 1)) (aCons (dC (.int 2)) aNil))) (aCons (dTup (aCons (dC (.str "1")) aNil)) (aCons (dLst (aCons (dC (.str "1")) aNil)) (aCons (dC (.bl true)) aNil)))))) ρ M2 = .ok (.lst oddL) M2 := fun ρ => lst_of (acons_of (M := M2) (ρ := ρ) (fa := dC .non) rfl (acons_of (fa := dC (.int 3)) rfl (acons_of (mk ρ) (acons_of (fa := dTup (aCons (dC (.str "1")) aNil)) rfl (acons_of (fa := dLst (aCons (dC (.str "1")) aNil)) rfl (acons_of (fa := dC (.bl true)) (g := aNil) rfl rfl)))))) rfl
  have s4 : (dSet 7 (d2 itemD (dLst (aCons (dC .non) (aCons (dC (.int 3)) (aCons (dMake 0 2 F_Ratio___init__ [] (aCons (dC (.int 1)) (aCons (dC (.int 2)) aNil))) (aCons (dTup (aCons (dC (.str "1")) aNil)) (aCons (dLst (aCons (dC (.str "1")) aNil)) (aCons (dC (.bl true)) aNil))))))) (dCall (lenIs 2 F__law_draw) [] (aCons (dVar 1) (aCons (dC (.int 6)) aNil))))) [x, .d (.cel 0), t, .d (.str (tx cs2)), b2, a2, s2, o] M2 = .nx [x, .d (.cel 0), t, .d (.str (tx cs2)), b2, a2, s2, .d oddL[r.toNat]] M3 :=
    (set_of (i := 7) ((d2_of (ls _) (dcall2 rfl rfl e3)).trans (itemL (by rw [atI_pos r0 (by omega)]; exact List.getElem?_eq_getElem hr)))).trans rfl
  have c5 : dB (d2 neD (dCall (lenIs 1 F__law_read) [] (aCons (dVar 7) aNil)) (dC (.int 1))) [x, .d (.cel 0), t, .d (.str (tx cs2)), b2, a2, s2, .d oddL[r.toNat]] M3 = .ok false M3 :=
    dB_of ((d2_of ((call1_of rfl).trans (odds (List.getElem_mem hr))) rfl).trans (by simp))
  exact ⟨_, _, _, _, _, M3, (seq_nx s1).trans ((seq_nx e2').trans ((seq_nx s4).trans ((if_f c5).trans rfl))), LW.Pen.mono P3 (by simp)⟩
theorem turn_for {x : Sl} : ∀ (ds : List D) (n : Nat) (M : List MO) (t y b a s o : Sl), Pen n M → n + 16 * ds.length ≤ 1000000 →
    ∃ t' y' b' a' s' o' M', forL (gN 2) turnB ds [x, .d (.cel 0), t, y, b, a, s, o] M = .nx [x, .d (.cel 0), t', y', b', a', s', o'] M'
  | [], n, M, t, y, b, a, s, o, P, hn => ⟨t, y, b, a, s, o, M, rfl⟩
  | d :: ds, n, M, t, y, b, a, s, o, P, hn => by
    rw [List.length_cons] at hn
    obtain ⟨y1, b1, a1, s1, o1, M1, e1, P1⟩ := turn_is (x := x) (t := .d d) (y := y) (b := b) (a := a) (s := s) (o := o) P (by omega)
    obtain ⟨t2, y2, b2, a2, s2, o2, M2, e2⟩ := turn_for ds (n + 16) M1 (.d d) y1 b1 a1 s1 o1 P1 (by omega)
    exact ⟨t2, y2, b2, a2, s2, o2, M2, (forL_nx rfl e1).trans e2⟩
end
theorem math : LawOk F_law := by
  intro ns _ _
  obtain ⟨M, e1, P⟩ := pen_is ns
  have s1 : (dSet 1 (dCall (lenIs 1 F__law_pen) [] (aCons (dVar 0) aNil))) [.d (.rol (ns.map D.int)), .mt, .mt, .mt, .mt, .mt, .mt, .mt] [] = .nx [.d (.rol (ns.map D.int)), .d (.cel 0), .mt, .mt, .mt, .mt, .mt, .mt] M := (set_of (i := 1) ((call1_of rfl).trans e1)).trans rfl
  obtain ⟨t, y, b, a, s, o, M', e2⟩ := turn_for (x := .d (.rol (ns.map D.int))) ((List.range 4).map fun (i : Nat) => D.int (i : Int)) 0 M .mt .mt .mt .mt .mt .mt P (by simp)
  refine ⟨M', ?_⟩
  have hs : start0 8 [.rol (ns.map D.int)] = [.d (.rol (ns.map D.int)), .mt, .mt, .mt, .mt, .mt, .mt, .mt] := rfl
  have e3 : dFor (iRange1 (dC (.int 4))) (gN 2) turnB [.d (.rol (ns.map D.int)), .d (.cel 0), .mt, .mt, .mt, .mt, .mt, .mt] M = .nx [.d (.rol (ns.map D.int)), .d (.cel 0), t, y, b, a, s, o] M' := e2
  unfold F_law runF
  rw [hs, show b_law [.d (.rol (ns.map D.int)), .mt, .mt, .mt, .mt, .mt, .mt, .mt] [] = .rt (.bl true) M' from (seq_nx s1).trans ((seq_nx e3).trans (ret_of rfl))]
end LW
set_option maxRecDepth 100000
set_option maxHeartbeats 4000000
namespace LW
open PySem PySem.Spec PyProof.Rows L2 DL
theorem all_mk {l : PySem.W.OpenLaw} {w : World} {K : PySem.W.Frag} {h : Heap} {mg : Str → Option Value} {fa : Addr} (X : K.In h) (G : h.Ns mainGlobals mg) (hfa : mg "law" = some (.ref fa))
    {f1 f4 t4 f15 f16 f17 f18 f19 f20 f21 f22 f23 f24 f25 f26 f27 f28 f29 C0 E1 f30 da30 cc30 E3 f31 da31 cc31 E8 f32 da32 cc32 : Addr} {oc1 kV1 dc1 pm1 cd1 ct1 oc4 kV4 dc4 pm4 cd4 ct4 tc4 oc15 kV15 dc15 pm15 cd15 ct15 oc16 kV16 dc16 pm16 cd16 ct16 oc17 kV17 dc17 pm17 cd17 ct17 oc18 kV18 dc18 pm18 cd18 ct18 oc19 kV19 dc19 pm19 cd19 ct19 oc20 kV20 dc20 pm20 cd20 ct20 oc21 kV21 dc21 pm21 cd21 ct21 oc22 kV22 dc22 pm22 cd22 ct22 oc23 kV23 dc23 pm23 cd23 ct23 oc24 kV24 dc24 pm24 cd24 ct24 oc25 kV25 dc25 pm25 cd25 ct25 oc26 kV26 dc26 pm26 cd26 ct26 oc27 kV27 dc27 pm27 cd27 ct27 oc28 kV28 dc28 pm28 cd28 ct28 oc29 kV29 dc29 pm29 cd29 ct29 oc30 kV30 dc30 pm30 ct30 xl30 xm30 oc31 kV31 dc31 pm31 ct31 xl31 xm31 oc32 kV32 dc32 pm32 ct32 xl32 xm32 : Value} {od1 an1 od4 an4 td4 od15 an15 od16 an16 od17 an17 od18 an18 od19 an19 od20 an20 od21 an21 od22 an22 od23 an23 od24 an24 od25 an25 od26 an26 od27 an27 od28 an28 od29 an29 od30 an30 xd30 xe30 od31 an31 xd31 xe31 od32 an32 xd32 xe32 : Option Addr} {sl1 sl4 ts4 sl15 sl16 sl17 sl18 sl19 sl20 sl21 sl22 sl23 sl24 sl25 sl26 sl27 sl28 sl29 sl30 xs30 xu30 sl31 xs31 xu31 sl32 xs32 xu32 : Array (Option Value)} {tk4_0 : Tok} {tn4 : Nat} {tv_DIGITS : Tok} {vs30 : Array Value} {fi30 : Str} {tf30 : Tok} {cdC30 : ClassData} {nm30 q30 : Str} {N30 : Addr} {bs30 bm30 : List Value} {sn30 : List Str} {su30 : List Value} {ab30 : Bool} {co30 : Option Bool} {dd30 : Option Addr} {m0_30 m1_30 m2_30 m3_30 m5_30 : Option Value} {vs31 : Array Value} {fi31 : Str} {tf31 : Tok} {cdC31 : ClassData} {nm31 q31 : Str} {N31 : Addr} {bs31 bm31 : List Value} {sn31 : List Str} {su31 : List Value} {ab31 : Bool} {co31 : Option Bool} {dd31 : Option Addr} {m0_31 m1_31 m2_31 m3_31 m5_31 : Option Value} {vs32 : Array Value} {fi32 : Str} {tf32 : Tok} {cdC32 : ClassData} {nm32 q32 : Str} {N32 : Addr} {bs32 bm32 : List Value} {sn32 : List Str} {su32 : List Value} {ab32 : Bool} {co32 : Option Bool} {dd32 : Option Addr} {m0_32 m1_32 m2_32 m3_32 m5_32 : Option Value}
    (aC0 : PySem.W.nsIn K mainGlobals "Ratio" = some (some (.ref C0)))
    (a1 : PySem.W.nsIn K mainGlobals "divisor_of" = some (some (.ref f1)))
    (l1 : K.lookup f1 = some ⟨oc1, od1, .func (PySem.W.fnOf "divisor_of" "divisor_of" (defArgs s_divisor_of) (defBody s_divisor_of) (defScope s_divisor_of) .none kV1 dc1 pm1 an1 cd1 ct1), sl1⟩)
    (c1 : PySem.W.codeIn K cd1 "divisor_of" = true)
    (k1 : PySem.W.keepIn K (.ref f1) = true)
    (a4 : PySem.W.findIn K (.ref C0) "__init__" = some (some (.ref f4)))
    (i4 : PySem.W.isFn K (.ref f4) = true)
    (l4 : K.lookup f4 = some ⟨oc4, od4, .func (PySem.W.fnOf "__init__" "Ratio.__init__" (defArgs s_Ratio___init__) (defBody s_Ratio___init__) (defScope s_Ratio___init__) (.ref t4) kV4 dc4 pm4 an4 cd4 ct4), sl4⟩)
    (c4 : PySem.W.codeIn K cd4 "Ratio.__init__" = true)
    (k4 : PySem.W.keepIn K (.ref f4) = true)
    (d4 : K.lookup t4 = some ⟨tc4, td4, .seq [Value.int 1 tk4_0].toArray tn4, ts4⟩)
    (a15 : PySem.W.nsIn K mainGlobals "number_end" = some (some (.ref f15)))
    (l15 : K.lookup f15 = some ⟨oc15, od15, .func (PySem.W.fnOf "number_end" "number_end" (defArgs s_number_end) (defBody s_number_end) (defScope s_number_end) .none kV15 dc15 pm15 an15 cd15 ct15), sl15⟩)
    (c15 : PySem.W.codeIn K cd15 "number_end" = true)
    (k15 : PySem.W.keepIn K (.ref f15) = true)
    (a16 : PySem.W.nsIn K mainGlobals "ratio_column" = some (some (.ref f16)))
    (l16 : K.lookup f16 = some ⟨oc16, od16, .func (PySem.W.fnOf "ratio_column" "ratio_column" (defArgs s_ratio_column) (defBody s_ratio_column) (defScope s_ratio_column) .none kV16 dc16 pm16 an16 cd16 ct16), sl16⟩)
    (c16 : PySem.W.codeIn K cd16 "ratio_column" = true)
    (k16 : PySem.W.keepIn K (.ref f16) = true)
    (a17 : PySem.W.nsIn K mainGlobals "ratio_of" = some (some (.ref f17)))
    (l17 : K.lookup f17 = some ⟨oc17, od17, .func (PySem.W.fnOf "ratio_of" "ratio_of" (defArgs s_ratio_of) (defBody s_ratio_of) (defScope s_ratio_of) .none kV17 dc17 pm17 an17 cd17 ct17), sl17⟩)
    (c17 : PySem.W.codeIn K cd17 "ratio_of" = true)
    (k17 : PySem.W.keepIn K (.ref f17) = true)
    (a18 : PySem.W.nsIn K mainGlobals "_law_pen" = some (some (.ref f18)))
    (l18 : K.lookup f18 = some ⟨oc18, od18, .func (PySem.W.fnOf "_law_pen" "_law_pen" (defArgs s__law_pen) (defBody s__law_pen) (defScope s__law_pen) .none kV18 dc18 pm18 an18 cd18 ct18), sl18⟩)
    (c18 : PySem.W.codeIn K cd18 "_law_pen" = true)
    (k18 : PySem.W.keepIn K (.ref f18) = true)
    (a19 : PySem.W.nsIn K mainGlobals "_law_draw" = some (some (.ref f19)))
    (l19 : K.lookup f19 = some ⟨oc19, od19, .func (PySem.W.fnOf "_law_draw" "_law_draw" (defArgs s__law_draw) (defBody s__law_draw) (defScope s__law_draw) .none kV19 dc19 pm19 an19 cd19 ct19), sl19⟩)
    (c19 : PySem.W.codeIn K cd19 "_law_draw" = true)
    (k19 : PySem.W.keepIn K (.ref f19) = true)
    (a20 : PySem.W.nsIn K mainGlobals "_law_pick" = some (some (.ref f20)))
    (l20 : K.lookup f20 = some ⟨oc20, od20, .func (PySem.W.fnOf "_law_pick" "_law_pick" (defArgs s__law_pick) (defBody s__law_pick) (defScope s__law_pick) .none kV20 dc20 pm20 an20 cd20 ct20), sl20⟩)
    (c20 : PySem.W.codeIn K cd20 "_law_pick" = true)
    (k20 : PySem.W.keepIn K (.ref f20) = true)
    (a21 : PySem.W.nsIn K mainGlobals "_law_gcd" = some (some (.ref f21)))
    (l21 : K.lookup f21 = some ⟨oc21, od21, .func (PySem.W.fnOf "_law_gcd" "_law_gcd" (defArgs s__law_gcd) (defBody s__law_gcd) (defScope s__law_gcd) .none kV21 dc21 pm21 an21 cd21 ct21), sl21⟩)
    (c21 : PySem.W.codeIn K cd21 "_law_gcd" = true)
    (k21 : PySem.W.keepIn K (.ref f21) = true)
    (a22 : PySem.W.nsIn K mainGlobals "_law_q" = some (some (.ref f22)))
    (l22 : K.lookup f22 = some ⟨oc22, od22, .func (PySem.W.fnOf "_law_q" "_law_q" (defArgs s__law_q) (defBody s__law_q) (defScope s__law_q) .none kV22 dc22 pm22 an22 cd22 ct22), sl22⟩)
    (c22 : PySem.W.codeIn K cd22 "_law_q" = true)
    (k22 : PySem.W.keepIn K (.ref f22) = true)
    (a23 : PySem.W.nsIn K mainGlobals "_law_written" = some (some (.ref f23)))
    (l23 : K.lookup f23 = some ⟨oc23, od23, .func (PySem.W.fnOf "_law_written" "_law_written" (defArgs s__law_written) (defBody s__law_written) (defScope s__law_written) .none kV23 dc23 pm23 an23 cd23 ct23), sl23⟩)
    (c23 : PySem.W.codeIn K cd23 "_law_written" = true)
    (k23 : PySem.W.keepIn K (.ref f23) = true)
    (a24 : PySem.W.nsIn K mainGlobals "_law_pair" = some (some (.ref f24)))
    (l24 : K.lookup f24 = some ⟨oc24, od24, .func (PySem.W.fnOf "_law_pair" "_law_pair" (defArgs s__law_pair) (defBody s__law_pair) (defScope s__law_pair) .none kV24 dc24 pm24 an24 cd24 ct24), sl24⟩)
    (c24 : PySem.W.codeIn K cd24 "_law_pair" = true)
    (k24 : PySem.W.keepIn K (.ref f24) = true)
    (a25 : PySem.W.nsIn K mainGlobals "_law_shape_column" = some (some (.ref f25)))
    (l25 : K.lookup f25 = some ⟨oc25, od25, .func (PySem.W.fnOf "_law_shape_column" "_law_shape_column" (defArgs s__law_shape_column) (defBody s__law_shape_column) (defScope s__law_shape_column) .none kV25 dc25 pm25 an25 cd25 ct25), sl25⟩)
    (c25 : PySem.W.codeIn K cd25 "_law_shape_column" = true)
    (k25 : PySem.W.keepIn K (.ref f25) = true)
    (a26 : PySem.W.nsIn K mainGlobals "_law_due" = some (some (.ref f26)))
    (l26 : K.lookup f26 = some ⟨oc26, od26, .func (PySem.W.fnOf "_law_due" "_law_due" (defArgs s__law_due) (defBody s__law_due) (defScope s__law_due) .none kV26 dc26 pm26 an26 cd26 ct26), sl26⟩)
    (c26 : PySem.W.codeIn K cd26 "_law_due" = true)
    (k26 : PySem.W.keepIn K (.ref f26) = true)
    (a27 : PySem.W.nsIn K mainGlobals "_law_read" = some (some (.ref f27)))
    (l27 : K.lookup f27 = some ⟨oc27, od27, .func (PySem.W.fnOf "_law_read" "_law_read" (defArgs s__law_read) (defBody s__law_read) (defScope s__law_read) .none kV27 dc27 pm27 an27 cd27 ct27), sl27⟩)
    (c27 : PySem.W.codeIn K cd27 "_law_read" = true)
    (k27 : PySem.W.keepIn K (.ref f27) = true)
    (a28 : PySem.W.nsIn K mainGlobals "_law_start" = some (some (.ref f28)))
    (l28 : K.lookup f28 = some ⟨oc28, od28, .func (PySem.W.fnOf "_law_start" "_law_start" (defArgs s__law_start) (defBody s__law_start) (defScope s__law_start) .none kV28 dc28 pm28 an28 cd28 ct28), sl28⟩)
    (c28 : PySem.W.codeIn K cd28 "_law_start" = true)
    (k28 : PySem.W.keepIn K (.ref f28) = true)
    (a29 : PySem.W.nsIn K mainGlobals "law" = some (some (.ref f29)))
    (l29 : K.lookup f29 = some ⟨oc29, od29, .func (PySem.W.fnOf "law" "law" (defArgs s_law) (defBody s_law) (defScope s_law) .none kV29 dc29 pm29 an29 cd29 ct29), sl29⟩)
    (c29 : PySem.W.codeIn K cd29 "law" = true)
    (k29 : PySem.W.keepIn K (.ref f29) = true)
    (pg0 : PySem.W.plainGet K C0 Str.empty = true)
    (hd0 : PySem.W.hasDictIn K C0 = true)
    (po0 : PySem.W.plainOver K C0 = true)
    (mk0 : PySem.W.makesIn K C0 = true)
    (ci0 : PySem.W.isClsIn K C0 = true)
    (sa0 : PySem.W.findIn K (.ref C0) "__setattr__" = some (some (.builtin "object.__setattr__")))
    (kc0 : PySem.W.keepIn K (.ref C0) = true)
    (ic0 : PySem.W.findIn K (.ref C0) "__class__" = some (some (.builtin "object.__class__")))
    (ob0 : PySem.W.mroIn K C0 (.type "object") = some true)
    (ty0 : PySem.W.typeIn K (.ref C0) = some (.type "type"))
    (b1_0 : PySem.W.mroIn K C0 (.type "bool") = some false)
    (b2_0 : PySem.W.mroIn K C0 (.type "int") = some false)
    (b3_0 : PySem.W.mroIn K C0 (.type "str") = some false)
    (b4_0 : PySem.W.mroIn K C0 (.type "tuple") = some false)
    (b5_0 : PySem.W.mroIn K C0 (.type "list") = some false)
    (nf0_top : PySem.W.findIn K (.ref C0) "top" = some none)
    (nf0_bottom : PySem.W.findIn K (.ref C0) "bottom" = some none)
    (nf0_fixed : PySem.W.findIn K (.ref C0) "fixed" = some none)
    (nf0_slopes : PySem.W.findIn K (.ref C0) "slopes" = some none)
    (nf0_size : PySem.W.findIn K (.ref C0) "size" = some none)
    (nf0_is_number : PySem.W.findIn K (.ref C0) "is_number" = some none)
    (nf0_row : PySem.W.findIn K (.ref C0) "row" = some none)
    (nf0_rows : PySem.W.findIn K (.ref C0) "rows" = some none)
    (nf0_free : PySem.W.findIn K (.ref C0) "free" = some none)
    (nf0_held : PySem.W.findIn K (.ref C0) "held" = some none)
    (nf0_lines : PySem.W.findIn K (.ref C0) "lines" = some none)
    (nf0_plane_bottom : PySem.W.findIn K (.ref C0) "plane_bottom" = some none)
    (g1 : PySem.W.specialIn K (.builtin "object.__class__") "__get__" = some (some (.builtin "getset_descriptor.__get__")))
    (g2 : PySem.W.takesIn K (.builtin "object.__class__") = some true)
    (z_abs : PySem.W.nsIn K mainGlobals "abs" = some none)
    (z_int : PySem.W.nsIn K mainGlobals "int" = some none)
    (z_isinstance : PySem.W.nsIn K mainGlobals "isinstance" = some none)
    (z_len : PySem.W.nsIn K mainGlobals "len" = some none)
    (z_list : PySem.W.nsIn K mainGlobals "list" = some none)
    (z_max : PySem.W.nsIn K mainGlobals "max" = some none)
    (z_range : PySem.W.nsIn K mainGlobals "range" = some none)
    (z_str : PySem.W.nsIn K mainGlobals "str" = some none)
    (z_tuple : PySem.W.nsIn K mainGlobals "tuple" = some none)
    (v_DIGITS : PySem.W.nsIn K mainGlobals "DIGITS" = some (some (.str "0123456789" tv_DIGITS)))
    (opq : PySem.W.nsIn K cStatics "thirdparty.any" = some none)
    (zsup : PySem.W.nsIn K mainGlobals "super" = some none)
    (htop : (l.prog.main.scope.names.lookup ("super" : Str)).isSome = false)
    (aE1 : PySem.W.nsIn K mainGlobals "BadText" = some (some (.ref E1)))
    (xc1 : PySem.W.isClsIn K E1 = true)
    (xt1 : PySem.W.typeIn K (.ref E1) = some (.type "type"))
    (xb1 : PySem.W.subIn K (.ref E1) (.type "BaseException") = some true)
    (a30 : PySem.W.findIn K (.ref E1) "__init__" = some (some (.ref f30)))
    (i30 : PySem.W.typeIn K (.ref f30) = some (.type "function"))
    (l30 : K.lookup f30 = some ⟨oc30, od30, .func (PySem.W.ksFn "__init__" "BadText.__init__" (defArgs s_BadText) (defBody s_BadText) (defScope s_BadText) .none kV30 dc30 pm30 an30 (.ref da30) ct30 cc30), sl30⟩)
    (c30 : PySem.W.codeIn K (.ref da30) "BadText.__init__" = true)
    (j30 : K.lookup da30 = some ⟨xl30, xd30, .fields vs30, xs30⟩)
    (v30 : vs30[2]? = some (.str fi30 tf30))
    (w30 : ((l.prog.main.file : Str) == fi30) = true)
    (y30 : K.lookup cc30 = some ⟨xm30, xe30, .cell (some (.ref E1)), xu30⟩)
    (p30 : PySem.W.clsIn K E1 = some cdC30)
    (r30 : PySem.W.mroIn K E1 (.ref E1) = some true)
    (u30 : PySem.W.ks_superIn K E1 E1 "__init__" = some (some (.builtin "ValueError.__init__")))
    (e30 : PySem.W.subIn K (.ref E1) (.type "ValueError") = some true)
    (x30 : K.lookup E1 = some (excClassObj nm30 q30 E1 N30 bs30 bm30 true sn30 su30 ab30 co30 dd30 m0_30 m1_30 m2_30 m3_30 m5_30 "ValueError.__new__"))
    (hb30 : PySem.HandSPX.refsVE bm30 = true)
    (s30 : PySem.W.findIn K (.ref E1) "__setattr__" = some (some (.builtin "object.__setattr__")))
    (h30 : PySem.W.keepIn K (.ref E1) = true)
    (ga1 : PySem.W.findIn K (.ref E1) "__getattribute__" = some (some (.builtin "BaseException.__getattribute__")))
    (gg1 : PySem.W.findIn K (.ref E1) "__getattr__" = some none)
    (xh1 : PySem.W.hasDictIn K E1 = true)
    (aE3 : PySem.W.nsIn K mainGlobals "BadNumber" = some (some (.ref E3)))
    (xc3 : PySem.W.isClsIn K E3 = true)
    (xt3 : PySem.W.typeIn K (.ref E3) = some (.type "type"))
    (xb3 : PySem.W.subIn K (.ref E3) (.type "BaseException") = some true)
    (a31 : PySem.W.findIn K (.ref E3) "__init__" = some (some (.ref f31)))
    (i31 : PySem.W.typeIn K (.ref f31) = some (.type "function"))
    (l31 : K.lookup f31 = some ⟨oc31, od31, .func (PySem.W.ksFn "__init__" "BadNumber.__init__" (defArgs s_BadNumber) (defBody s_BadNumber) (defScope s_BadNumber) .none kV31 dc31 pm31 an31 (.ref da31) ct31 cc31), sl31⟩)
    (c31 : PySem.W.codeIn K (.ref da31) "BadNumber.__init__" = true)
    (j31 : K.lookup da31 = some ⟨xl31, xd31, .fields vs31, xs31⟩)
    (v31 : vs31[2]? = some (.str fi31 tf31))
    (w31 : ((l.prog.main.file : Str) == fi31) = true)
    (y31 : K.lookup cc31 = some ⟨xm31, xe31, .cell (some (.ref E3)), xu31⟩)
    (p31 : PySem.W.clsIn K E3 = some cdC31)
    (r31 : PySem.W.mroIn K E3 (.ref E3) = some true)
    (u31 : PySem.W.ks_superIn K E3 E3 "__init__" = some (some (.builtin "ValueError.__init__")))
    (e31 : PySem.W.subIn K (.ref E3) (.type "ValueError") = some true)
    (x31 : K.lookup E3 = some (excClassObj nm31 q31 E3 N31 bs31 bm31 true sn31 su31 ab31 co31 dd31 m0_31 m1_31 m2_31 m3_31 m5_31 "ValueError.__new__"))
    (hb31 : PySem.HandSPX.refsVE bm31 = true)
    (s31 : PySem.W.findIn K (.ref E3) "__setattr__" = some (some (.builtin "object.__setattr__")))
    (h31 : PySem.W.keepIn K (.ref E3) = true)
    (aE8 : PySem.W.nsIn K mainGlobals "TooLong" = some (some (.ref E8)))
    (xc8 : PySem.W.isClsIn K E8 = true)
    (xt8 : PySem.W.typeIn K (.ref E8) = some (.type "type"))
    (xb8 : PySem.W.subIn K (.ref E8) (.type "BaseException") = some true)
    (a32 : PySem.W.findIn K (.ref E8) "__init__" = some (some (.ref f32)))
    (i32 : PySem.W.typeIn K (.ref f32) = some (.type "function"))
    (l32 : K.lookup f32 = some ⟨oc32, od32, .func (PySem.W.ksFn "__init__" "TooLong.__init__" (defArgs s_TooLong) (defBody s_TooLong) (defScope s_TooLong) .none kV32 dc32 pm32 an32 (.ref da32) ct32 cc32), sl32⟩)
    (c32 : PySem.W.codeIn K (.ref da32) "TooLong.__init__" = true)
    (j32 : K.lookup da32 = some ⟨xl32, xd32, .fields vs32, xs32⟩)
    (v32 : vs32[2]? = some (.str fi32 tf32))
    (w32 : ((l.prog.main.file : Str) == fi32) = true)
    (y32 : K.lookup cc32 = some ⟨xm32, xe32, .cell (some (.ref E8)), xu32⟩)
    (p32 : PySem.W.clsIn K E8 = some cdC32)
    (r32 : PySem.W.mroIn K E8 (.ref E8) = some true)
    (u32 : PySem.W.ks_superIn K E8 E8 "__init__" = some (some (.builtin "ValueError.__init__")))
    (e32 : PySem.W.subIn K (.ref E8) (.type "ValueError") = some true)
    (x32 : K.lookup E8 = some (excClassObj nm32 q32 E8 N32 bs32 bm32 true sn32 su32 ab32 co32 dd32 m0_32 m1_32 m2_32 m3_32 m5_32 "ValueError.__new__"))
    (hb32 : PySem.HandSPX.refsVE bm32 = true)
    (s32 : PySem.W.findIn K (.ref E8) "__setattr__" = some (some (.builtin "object.__setattr__")))
    (h32 : PySem.W.keepIn K (.ref E8) = true)
    (of3_number : PySem.W.findIn K (.ref E3) "number" = some none)
    (of3_what : PySem.W.findIn K (.ref E3) "what" = some none)
    (of1_column : PySem.W.findIn K (.ref E1) "column" = some none)
    (of1_line : PySem.W.findIn K (.ref E1) "line" = some none)
    (of8_digits : PySem.W.findIn K (.ref E8) "digits" = some none)
    (xx1_1 : PySem.W.subIn K (.ref E1) (.ref E1) = some true)
    (xx1_3 : PySem.W.subIn K (.ref E1) (.ref E3) = some false)
    (xx1_8 : PySem.W.subIn K (.ref E1) (.ref E8) = some false)
    (xx3_1 : PySem.W.subIn K (.ref E3) (.ref E1) = some false)
    (xx3_3 : PySem.W.subIn K (.ref E3) (.ref E3) = some true)
    (xx3_8 : PySem.W.subIn K (.ref E3) (.ref E8) = some false)
    (xx8_1 : PySem.W.subIn K (.ref E8) (.ref E1) = some false)
    (xx8_3 : PySem.W.subIn K (.ref E8) (.ref E3) = some false)
    (xx8_8 : PySem.W.subIn K (.ref E8) (.ref E8) = some true)
    : ∃ fd : FuncData, (∀ (s : Shared) (v : Value), BindsTo s fd ⟨[v], []⟩ [("_law_script", v)]) ∧ ∀ base : Heap, K.In base → base.Ns mainGlobals mg → FnOk l.prog w K mg base (L2.CX l.prog w) 7 fa fd ["_law_script"] (spLaw K) := by
  have e : fa = f29 := by
    have z := hfa.symm.trans (PySem.W.mg_of X G a29)
    cases z
    rfl
  rw [e]
  have T : Txt l.prog K mg (fun n => match n with | 1 => f1 | 4 => f4 | 15 => f15 | 16 => f16 | 17 => f17 | 18 => f18 | 19 => f19 | 20 => f20 | 21 => f21 | 22 => f22 | 23 => f23 | 24 => f24 | 25 => f25 | 26 => f26 | 27 => f27 | 28 => f28 | 29 => f29 | 30 => f30 | 31 => f31 | 32 => f32 | _ => 0) (fun n => match n with | 1 => PySem.W.fnOf "divisor_of" "divisor_of" (defArgs s_divisor_of) (defBody s_divisor_of) (defScope s_divisor_of) .none kV1 dc1 pm1 an1 cd1 ct1 | 4 => PySem.W.fnOf "__init__" "Ratio.__init__" (defArgs s_Ratio___init__) (defBody s_Ratio___init__) (defScope s_Ratio___init__) (.ref t4) kV4 dc4 pm4 an4 cd4 ct4 | 15 => PySem.W.fnOf "number_end" "number_end" (defArgs s_number_end) (defBody s_number_end) (defScope s_number_end) .none kV15 dc15 pm15 an15 cd15 ct15 | 16 => PySem.W.fnOf "ratio_column" "ratio_column" (defArgs s_ratio_column) (defBody s_ratio_column) (defScope s_ratio_column) .none kV16 dc16 pm16 an16 cd16 ct16 | 17 => PySem.W.fnOf "ratio_of" "ratio_of" (defArgs s_ratio_of) (defBody s_ratio_of) (defScope s_ratio_of) .none kV17 dc17 pm17 an17 cd17 ct17 | 18 => PySem.W.fnOf "_law_pen" "_law_pen" (defArgs s__law_pen) (defBody s__law_pen) (defScope s__law_pen) .none kV18 dc18 pm18 an18 cd18 ct18 | 19 => PySem.W.fnOf "_law_draw" "_law_draw" (defArgs s__law_draw) (defBody s__law_draw) (defScope s__law_draw) .none kV19 dc19 pm19 an19 cd19 ct19 | 20 => PySem.W.fnOf "_law_pick" "_law_pick" (defArgs s__law_pick) (defBody s__law_pick) (defScope s__law_pick) .none kV20 dc20 pm20 an20 cd20 ct20 | 21 => PySem.W.fnOf "_law_gcd" "_law_gcd" (defArgs s__law_gcd) (defBody s__law_gcd) (defScope s__law_gcd) .none kV21 dc21 pm21 an21 cd21 ct21 | 22 => PySem.W.fnOf "_law_q" "_law_q" (defArgs s__law_q) (defBody s__law_q) (defScope s__law_q) .none kV22 dc22 pm22 an22 cd22 ct22 | 23 => PySem.W.fnOf "_law_written" "_law_written" (defArgs s__law_written) (defBody s__law_written) (defScope s__law_written) .none kV23 dc23 pm23 an23 cd23 ct23 | 24 => PySem.W.fnOf "_law_pair" "_law_pair" (defArgs s__law_pair) (defBody s__law_pair) (defScope s__law_pair) .none kV24 dc24 pm24 an24 cd24 ct24 | 25 => PySem.W.fnOf "_law_shape_column" "_law_shape_column" (defArgs s__law_shape_column) (defBody s__law_shape_column) (defScope s__law_shape_column) .none kV25 dc25 pm25 an25 cd25 ct25 | 26 => PySem.W.fnOf "_law_due" "_law_due" (defArgs s__law_due) (defBody s__law_due) (defScope s__law_due) .none kV26 dc26 pm26 an26 cd26 ct26 | 27 => PySem.W.fnOf "_law_read" "_law_read" (defArgs s__law_read) (defBody s__law_read) (defScope s__law_read) .none kV27 dc27 pm27 an27 cd27 ct27 | 28 => PySem.W.fnOf "_law_start" "_law_start" (defArgs s__law_start) (defBody s__law_start) (defScope s__law_start) .none kV28 dc28 pm28 an28 cd28 ct28 | 29 => PySem.W.fnOf "law" "law" (defArgs s_law) (defBody s_law) (defScope s_law) .none kV29 dc29 pm29 an29 cd29 ct29 | 30 => PySem.W.ksFn "__init__" "BadText.__init__" (defArgs s_BadText) (defBody s_BadText) (defScope s_BadText) .none kV30 dc30 pm30 an30 (.ref da30) ct30 cc30 | 31 => PySem.W.ksFn "__init__" "BadNumber.__init__" (defArgs s_BadNumber) (defBody s_BadNumber) (defScope s_BadNumber) .none kV31 dc31 pm31 an31 (.ref da31) ct31 cc31 | 32 => PySem.W.ksFn "__init__" "TooLong.__init__" (defArgs s_TooLong) (defBody s_TooLong) (defScope s_TooLong) .none kV32 dc32 pm32 an32 (.ref da32) ct32 cc32 | _ => PySem.W.fnOf "law" "law" (defArgs s_law) (defBody s_law) (defScope s_law) .none kV29 dc29 pm29 an29 cd29 ct29) ⟨K, fun n => match n with | 0 => C0 | 1 => C0 | 2 => C0 | 3 => C0 | _ => 0, fun n => match n with | 1 => E1 | 3 => E3 | 8 => E8 | _ => 0, none⟩ := {
    hK := rfl,
    g_divisor_of := PySem.W.mg_of X G a1,
    f_divisor_of := ⟨⟨oc1, od1, _, kV1, dc1, pm1, an1, cd1, ct1, sl1, rfl, l1, c1⟩, k1⟩,
    n_divisor_of := .all fun us hl => match us, hl with | [_, _], _ => rfl,
    f_Ratio___init__ := ⟨⟨oc4, od4, _, kV4, dc4, pm4, an4, cd4, ct4, sl4, rfl, l4, c4⟩, k4⟩,
    n_Ratio___init__ := binds_full (show FunD K "__init__" "Ratio.__init__" (defArgs s_Ratio___init__) (defBody s_Ratio___init__) (defScope s_Ratio___init__) ([.int 1] : List V) [] f4 _ from ⟨⟨oc4, od4, _, kV4, dc4, pm4, an4, cd4, ct4, sl4, rfl, l4, c4, .inr ⟨by simp, t4, _, _, tn4, rfl, d4, rfl, (.cons ⟨_, rfl⟩ .nil)⟩, .inl rfl⟩, k4⟩) (by simp) fun _ _ _ _ _ _ _ us its hu hi => match us, hu, its, hi with | [_, _, _], _, [_], _ => ⟨_, rfl, rfl⟩,
    nd1_Ratio___init__ := FunD.binds1 (show FunD K "__init__" "Ratio.__init__" (defArgs s_Ratio___init__) (defBody s_Ratio___init__) (defScope s_Ratio___init__) ([.int 1] : List V) [] f4 _ from ⟨⟨oc4, od4, _, kV4, dc4, pm4, an4, cd4, ct4, sl4, rfl, l4, c4, .inr ⟨by simp, t4, _, _, tn4, rfl, d4, rfl, (.cons ⟨_, rfl⟩ .nil)⟩, .inl rfl⟩, k4⟩) 2 0 (by simp) rfl fun _ _ _ _ _ _ _ us its hu hi => match us, hu, its, hi with | [_, _], _, [_], _ => ⟨_, rfl, rfl⟩,
    g_number_end := PySem.W.mg_of X G a15,
    f_number_end := ⟨⟨oc15, od15, _, kV15, dc15, pm15, an15, cd15, ct15, sl15, rfl, l15, c15⟩, k15⟩,
    n_number_end := .all fun us hl => match us, hl with | [_, _], _ => rfl,
    g_ratio_column := PySem.W.mg_of X G a16,
    f_ratio_column := ⟨⟨oc16, od16, _, kV16, dc16, pm16, an16, cd16, ct16, sl16, rfl, l16, c16⟩, k16⟩,
    n_ratio_column := .all fun us hl => match us, hl with | [_], _ => rfl,
    g_ratio_of := PySem.W.mg_of X G a17,
    f_ratio_of := ⟨⟨oc17, od17, _, kV17, dc17, pm17, an17, cd17, ct17, sl17, rfl, l17, c17⟩, k17⟩,
    n_ratio_of := .all fun us hl => match us, hl with | [_], _ => rfl,
    g__law_pen := PySem.W.mg_of X G a18,
    f__law_pen := ⟨⟨oc18, od18, _, kV18, dc18, pm18, an18, cd18, ct18, sl18, rfl, l18, c18⟩, k18⟩,
    n__law_pen := .all fun us hl => match us, hl with | [_], _ => rfl,
    g__law_draw := PySem.W.mg_of X G a19,
    f__law_draw := ⟨⟨oc19, od19, _, kV19, dc19, pm19, an19, cd19, ct19, sl19, rfl, l19, c19⟩, k19⟩,
    n__law_draw := .all fun us hl => match us, hl with | [_, _], _ => rfl,
    g__law_pick := PySem.W.mg_of X G a20,
    f__law_pick := ⟨⟨oc20, od20, _, kV20, dc20, pm20, an20, cd20, ct20, sl20, rfl, l20, c20⟩, k20⟩,
    n__law_pick := .all fun us hl => match us, hl with | [_, _], _ => rfl,
    g__law_gcd := PySem.W.mg_of X G a21,
    f__law_gcd := ⟨⟨oc21, od21, _, kV21, dc21, pm21, an21, cd21, ct21, sl21, rfl, l21, c21⟩, k21⟩,
    n__law_gcd := .all fun us hl => match us, hl with | [_, _], _ => rfl,
    g__law_q := PySem.W.mg_of X G a22,
    f__law_q := ⟨⟨oc22, od22, _, kV22, dc22, pm22, an22, cd22, ct22, sl22, rfl, l22, c22⟩, k22⟩,
    n__law_q := .all fun us hl => match us, hl with | [_, _], _ => rfl,
    g__law_written := PySem.W.mg_of X G a23,
    f__law_written := ⟨⟨oc23, od23, _, kV23, dc23, pm23, an23, cd23, ct23, sl23, rfl, l23, c23⟩, k23⟩,
    n__law_written := .all fun us hl => match us, hl with | [_], _ => rfl,
    g__law_pair := PySem.W.mg_of X G a24,
    f__law_pair := ⟨⟨oc24, od24, _, kV24, dc24, pm24, an24, cd24, ct24, sl24, rfl, l24, c24⟩, k24⟩,
    n__law_pair := .all fun us hl => match us, hl with | [_], _ => rfl,
    g__law_shape_column := PySem.W.mg_of X G a25,
    f__law_shape_column := ⟨⟨oc25, od25, _, kV25, dc25, pm25, an25, cd25, ct25, sl25, rfl, l25, c25⟩, k25⟩,
    n__law_shape_column := .all fun us hl => match us, hl with | [_], _ => rfl,
    g__law_due := PySem.W.mg_of X G a26,
    f__law_due := ⟨⟨oc26, od26, _, kV26, dc26, pm26, an26, cd26, ct26, sl26, rfl, l26, c26⟩, k26⟩,
    n__law_due := .all fun us hl => match us, hl with | [_], _ => rfl,
    g__law_read := PySem.W.mg_of X G a27,
    f__law_read := ⟨⟨oc27, od27, _, kV27, dc27, pm27, an27, cd27, ct27, sl27, rfl, l27, c27⟩, k27⟩,
    n__law_read := .all fun us hl => match us, hl with | [_], _ => rfl,
    g__law_start := PySem.W.mg_of X G a28,
    f__law_start := ⟨⟨oc28, od28, _, kV28, dc28, pm28, an28, cd28, ct28, sl28, rfl, l28, c28⟩, k28⟩,
    n__law_start := .all fun us hl => match us, hl with | [_], _ => rfl,
    g_law := PySem.W.mg_of X G a29,
    f_law := ⟨⟨oc29, od29, _, kV29, dc29, pm29, an29, cd29, ct29, sl29, rfl, l29, c29⟩, k29⟩,
    n_law := .all fun us hl => match us, hl with | [_], _ => rfl,
    c_Ratio := PySem.W.mg_of X G aC0,
    mk_Ratio := ⟨mk0, a4, i4, kc0⟩,
    b_abs := PySem.W.mg_none_of X G z_abs,
    b_int := PySem.W.mg_none_of X G z_int,
    b_isinstance := PySem.W.mg_none_of X G z_isinstance,
    b_len := PySem.W.mg_none_of X G z_len,
    b_list := PySem.W.mg_none_of X G z_list,
    b_max := PySem.W.mg_none_of X G z_max,
    b_range := PySem.W.mg_none_of X G z_range,
    b_str := PySem.W.mg_none_of X G z_str,
    b_tuple := PySem.W.mg_none_of X G z_tuple,
    v_DIGITS := ⟨_, PySem.W.mg_of X G v_DIGITS⟩,
    g_BadText := PySem.W.mg_of X G aE1,
    ek_BadText := ⟨⟨oc30, od30, sl30, .none, kV30, dc30, pm30, ct30, an30, da30, cc30, xl30, xm30, xd30, xe30, xs30, xu30, vs30, fi30, tf30, cdC30, rfl, l30, c30, j30, v30, w30, y30, p30⟩, r30, PySem.W.mg_none_of X G zsup, u30, e30, opq, htop, ⟨⟨nm30, q30, N30, bs30, bm30, sn30, su30, ab30, co30, dd30, m0_30, m1_30, m2_30, m3_30, m5_30, x30, hb30⟩, s30, xb1, xt1, h30⟩⟩,
    oi_BadText := a30,
    ot_BadText := i30,
    on_BadText := (show Binds K (PySem.W.ksFn "__init__" "BadText.__init__" (defArgs s_BadText) (defBody s_BadText) (defScope s_BadText) .none kV30 dc30 pm30 an30 (.ref da30) ct30 cc30) ["self", "line", "column"] [] from .all fun us hl => match us, hl with | [_, _, _], _ => rfl),
    xf_BadText := ⟨ga1, gg1, xb1, xh1⟩,
    g_BadNumber := PySem.W.mg_of X G aE3,
    ek_BadNumber := ⟨⟨oc31, od31, sl31, .none, kV31, dc31, pm31, ct31, an31, da31, cc31, xl31, xm31, xd31, xe31, xs31, xu31, vs31, fi31, tf31, cdC31, rfl, l31, c31, j31, v31, w31, y31, p31⟩, r31, PySem.W.mg_none_of X G zsup, u31, e31, opq, htop, ⟨⟨nm31, q31, N31, bs31, bm31, sn31, su31, ab31, co31, dd31, m0_31, m1_31, m2_31, m3_31, m5_31, x31, hb31⟩, s31, xb3, xt3, h31⟩⟩,
    oi_BadNumber := a31,
    ot_BadNumber := i31,
    on_BadNumber := (show Binds K (PySem.W.ksFn "__init__" "BadNumber.__init__" (defArgs s_BadNumber) (defBody s_BadNumber) (defScope s_BadNumber) .none kV31 dc31 pm31 an31 (.ref da31) ct31 cc31) ["self", "what", "number"] [] from .all fun us hl => match us, hl with | [_, _, _], _ => rfl),
    g_TooLong := PySem.W.mg_of X G aE8,
    ek_TooLong := ⟨⟨oc32, od32, sl32, .none, kV32, dc32, pm32, ct32, an32, da32, cc32, xl32, xm32, xd32, xe32, xs32, xu32, vs32, fi32, tf32, cdC32, rfl, l32, c32, j32, v32, w32, y32, p32⟩, r32, PySem.W.mg_none_of X G zsup, u32, e32, opq, htop, ⟨⟨nm32, q32, N32, bs32, bm32, sn32, su32, ab32, co32, dd32, m0_32, m1_32, m2_32, m3_32, m5_32, x32, hb32⟩, s32, xb8, xt8, h32⟩⟩,
    oi_TooLong := a32,
    ot_TooLong := i32,
    on_TooLong := (show Binds K (PySem.W.ksFn "__init__" "TooLong.__init__" (defArgs s_TooLong) (defBody s_TooLong) (defScope s_TooLong) .none kV32 dc32 pm32 an32 (.ref da32) ct32 cc32) ["self", "digits"] [] from .all fun us hl => match us, hl with | [_, _], _ => rfl),
    of_BadNumber_number := of3_number,
    of_BadNumber_what := of3_what,
    of_BadText_column := of1_column,
    of_BadText_line := of1_line,
    of_TooLong_digits := of8_digits,
    gok := ⟨fun c f hf => by
      have key : ∀ c f, f ∈ cn c → Cls K ((fun n => match n with | 0 => C0 | 1 => C0 | 2 => C0 | 3 => C0 | _ => 0 : Nat → Addr) c) ∧ NoAttr K ((fun n => match n with | 0 => C0 | 1 => C0 | 2 => C0 | 3 => C0 | _ => 0 : Nat → Addr) c) f := fun c f hf => by
        match c, hf with
        | 0, hf =>
          simp only [cn, List.mem_cons, List.not_mem_nil, or_false] at hf
          rcases hf with rfl | rfl
          · exact ⟨⟨pg0, hd0, po0, sa0⟩, nf0_top⟩
          · exact ⟨⟨pg0, hd0, po0, sa0⟩, nf0_bottom⟩
        | 1, hf =>
          simp only [cn, List.mem_cons, List.not_mem_nil, or_false] at hf
          rcases hf with rfl | rfl | rfl | rfl | rfl
          · exact ⟨⟨pg0, hd0, po0, sa0⟩, nf0_fixed⟩
          · exact ⟨⟨pg0, hd0, po0, sa0⟩, nf0_slopes⟩
          · exact ⟨⟨pg0, hd0, po0, sa0⟩, nf0_size⟩
          · exact ⟨⟨pg0, hd0, po0, sa0⟩, nf0_is_number⟩
          · exact ⟨⟨pg0, hd0, po0, sa0⟩, nf0_row⟩
        | 2, hf =>
          simp only [cn, List.mem_cons, List.not_mem_nil, or_false] at hf
          rcases hf with rfl | rfl
          · exact ⟨⟨pg0, hd0, po0, sa0⟩, nf0_rows⟩
          · exact ⟨⟨pg0, hd0, po0, sa0⟩, nf0_size⟩
        | 3, hf =>
          simp only [cn, List.mem_cons, List.not_mem_nil, or_false] at hf
          rcases hf with rfl | rfl | rfl | rfl | rfl | rfl
          · exact ⟨⟨pg0, hd0, po0, sa0⟩, nf0_size⟩
          · exact ⟨⟨pg0, hd0, po0, sa0⟩, nf0_free⟩
          · exact ⟨⟨pg0, hd0, po0, sa0⟩, nf0_held⟩
          · exact ⟨⟨pg0, hd0, po0, sa0⟩, nf0_bottom⟩
          · exact ⟨⟨pg0, hd0, po0, sa0⟩, nf0_lines⟩
          · exact ⟨⟨pg0, hd0, po0, sa0⟩, nf0_plane_bottom⟩
        | n + 4, hf => exact absurd hf (by simp [cn])
      exact key c f hf⟩,
    iok := isOk_of (fun c hc => by
      match c, hc with
      | 0, _ => exact ⟨⟨pg0, hd0, po0, sa0⟩, ic0, ob0, ci0, ty0, b1_0, b2_0, b3_0, b4_0, b5_0⟩
      | n + 1, hc => simp at hc) (fun c c' hc hc' ne => by
      match c, c', hc, hc', ne with
      | 0, 0, _, _, ne => exact absurd rfl ne
      | n + 1, _, hc, _, _ => simp at hc
      | _, n + 1, _, hc, _ => simp at hc) g1 g2,
    xm := xmOk_of (fun c hc => by
      have r : c = 1 ∨ c = 3 ∨ c = 8 := by simpa using hc
      rcases r with rfl | rfl | rfl
      · exact ⟨xc1, xt1, xb1⟩
      · exact ⟨xc3, xt3, xb3⟩
      · exact ⟨xc8, xt8, xb8⟩
      ) (fun c c' hc hc' => by
      have r : c = 1 ∨ c = 3 ∨ c = 8 := by simpa using hc
      have r' : c' = 1 ∨ c' = 3 ∨ c' = 8 := by simpa using hc'
      rcases r with rfl | rfl | rfl <;> rcases r' with rfl | rfl | rfl
      · exact xx1_1
      · exact xx1_3
      · exact xx1_8
      · exact xx3_1
      · exact xx3_3
      · exact xx3_8
      · exact xx8_1
      · exact xx8_3
      · exact xx8_8
      ) }
  exact ⟨PySem.W.fnOf "law" "law" (defArgs s_law) (defBody s_law) (defScope s_law) .none kV29 dc29 pm29 an29 cd29 ct29, fun s v => .of_eq rfl, fun base _ _ => (ok_law T).imp fun vs H Q E hs => spLaw_of math rfl hs⟩
end LW
open PySem PySem.W PyProof.Rows
set_option maxRecDepth 100000 in
set_option maxHeartbeats 0 in
theorem PySem.Challenge.cw_hingeworks_k02_ratio_texts_holds : PySem.Challenge.rw_hingeworks_k02_ratio_texts.Holds := by
  w_on; o_law; k_head; (case hw => w_witness2)
  k_fill
  refine DL.walk (l := PySem.Challenge.rw_hingeworks_k02_ratio_texts) (k := 7) (x := "_law_script") rfl rfl ⟨rfl, by decide, by decide⟩ (fun w h Y => PySem.W.kIn_of Y) ?F
  case F =>
    intro w mg fa h KX G hmg
    refine' LW.all_mk (l := PySem.Challenge.rw_hingeworks_k02_ratio_texts) KX G hmg ?aC0 ?a1 ?l1 ?c1 ?k1 ?a4 ?i4 ?l4 ?c4 ?k4 ?d4 ?a15 ?l15 ?c15 ?k15 ?a16 ?l16 ?c16 ?k16 ?a17 ?l17 ?c17 ?k17 ?a18 ?l18 ?c18 ?k18 ?a19 ?l19 ?c19 ?k19 ?a20 ?l20 ?c20 ?k20 ?a21 ?l21 ?c21 ?k21 ?a22 ?l22 ?c22 ?k22 ?a23 ?l23 ?c23 ?k23 ?a24 ?l24 ?c24 ?k24 ?a25 ?l25 ?c25 ?k25 ?a26 ?l26 ?c26 ?k26 ?a27 ?l27 ?c27 ?k27 ?a28 ?l28 ?c28 ?k28 ?a29 ?l29 ?c29 ?k29 ?pg0 ?hd0 ?po0 ?mk0 ?ci0 ?sa0 ?kc0 ?ic0 ?ob0 ?ty0 ?b1_0 ?b2_0 ?b3_0 ?b4_0 ?b5_0 ?nf0_top ?nf0_bottom ?nf0_fixed ?nf0_slopes ?nf0_size ?nf0_is_number ?nf0_row ?nf0_rows ?nf0_free ?nf0_held ?nf0_lines ?nf0_plane_bottom ?g1 ?g2 ?z_abs ?z_int ?z_isinstance ?z_len ?z_list ?z_max ?z_range ?z_str ?z_tuple ?v_DIGITS ?opq ?zsup ?htop ?aE1 ?xc1 ?xt1 ?xb1 ?a30 ?i30 ?l30 ?c30 ?j30 ?v30 ?w30 ?y30 ?p30 ?r30 ?u30 ?e30 ?x30 ?hb30 ?s30 ?h30 ?ga1 ?gg1 ?xh1 ?aE3 ?xc3 ?xt3 ?xb3 ?a31 ?i31 ?l31 ?c31 ?j31 ?v31 ?w31 ?y31 ?p31 ?r31 ?u31 ?e31 ?x31 ?hb31 ?s31 ?h31 ?aE8 ?xc8 ?xt8 ?xb8 ?a32 ?i32 ?l32 ?c32 ?j32 ?v32 ?w32 ?y32 ?p32 ?r32 ?u32 ?e32 ?x32 ?hb32 ?s32 ?h32 ?of3_number ?of3_what ?of1_column ?of1_line ?of8_digits ?xx1_1 ?xx1_3 ?xx1_8 ?xx3_1 ?xx3_3 ?xx3_8 ?xx8_1 ?xx8_3 ?xx8_8
    (case aC0 => k_is)
    (case a1 => k_is)
    (case l1 => k_is)
    (case c1 => k_is)
    (case k1 => k_is)
    (case a4 => k_is)
    (case i4 => k_is)
    (case l4 => k_is)
    (case c4 => k_is)
    (case k4 => k_is)
    (case d4 => k_is)
    (case a15 => k_is)
    (case l15 => k_is)
    (case c15 => k_is)
    (case k15 => k_is)
    (case a16 => k_is)
    (case l16 => k_is)
    (case c16 => k_is)
    (case k16 => k_is)
    (case a17 => k_is)
    (case l17 => k_is)
    (case c17 => k_is)
    (case k17 => k_is)
    (case a18 => k_is)
    (case l18 => k_is)
    (case c18 => k_is)
    (case k18 => k_is)
    (case a19 => k_is)
    (case l19 => k_is)
    (case c19 => k_is)
    (case k19 => k_is)
    (case a20 => k_is)
    (case l20 => k_is)
    (case c20 => k_is)
    (case k20 => k_is)
    (case a21 => k_is)
    (case l21 => k_is)
    (case c21 => k_is)
    (case k21 => k_is)
    (case a22 => k_is)
    (case l22 => k_is)
    (case c22 => k_is)
    (case k22 => k_is)
    (case a23 => k_is)
    (case l23 => k_is)
    (case c23 => k_is)
    (case k23 => k_is)
    (case a24 => k_is)
    (case l24 => k_is)
    (case c24 => k_is)
    (case k24 => k_is)
    (case a25 => k_is)
    (case l25 => k_is)
    (case c25 => k_is)
    (case k25 => k_is)
    (case a26 => k_is)
    (case l26 => k_is)
    (case c26 => k_is)
    (case k26 => k_is)
    (case a27 => k_is)
    (case l27 => k_is)
    (case c27 => k_is)
    (case k27 => k_is)
    (case a28 => k_is)
    (case l28 => k_is)
    (case c28 => k_is)
    (case k28 => k_is)
    (case a29 => k_is)
    (case l29 => k_is)
    (case c29 => k_is)
    (case k29 => k_is)
    (case pg0 => k_is)
    (case hd0 => k_is)
    (case po0 => k_is)
    (case mk0 => k_is)
    (case ci0 => k_is)
    (case sa0 => k_is)
    (case kc0 => k_is)
    (case ic0 => k_is)
    (case ob0 => k_is)
    (case ty0 => k_is)
    (case b1_0 => k_is)
    (case b2_0 => k_is)
    (case b3_0 => k_is)
    (case b4_0 => k_is)
    (case b5_0 => k_is)
    (case nf0_top => k_is)
    (case nf0_bottom => k_is)
    (case nf0_fixed => k_is)
    (case nf0_slopes => k_is)
    (case nf0_size => k_is)
    (case nf0_is_number => k_is)
    (case nf0_row => k_is)
    (case nf0_rows => k_is)
    (case nf0_free => k_is)
    (case nf0_held => k_is)
    (case nf0_lines => k_is)
    (case nf0_plane_bottom => k_is)
    (case g1 => k_is)
    (case g2 => k_is)
    (case z_abs => k_is)
    (case z_int => k_is)
    (case z_isinstance => k_is)
    (case z_len => k_is)
    (case z_list => k_is)
    (case z_max => k_is)
    (case z_range => k_is)
    (case z_str => k_is)
    (case z_tuple => k_is)
    (case v_DIGITS => k_is)
    (case opq => k_is)
    (case zsup => k_is)
    (case htop => first | rfl | decide +kernel)
    (case aE1 => k_is)
    (case xc1 => k_is)
    (case xt1 => k_is)
    (case xb1 => k_is)
    (case a30 => k_is)
    (case i30 => k_is)
    (case l30 => k_is)
    (case c30 => k_is)
    (case j30 => k_is)
    (case v30 => rfl)
    (case w30 => first | rfl | decide +kernel)
    (case y30 => k_is)
    (case p30 => k_is)
    (case r30 => k_is)
    (case u30 => ks_is)
    (case e30 => k_is)
    (case x30 => k_is)
    (case hb30 => decide +kernel)
    (case s30 => k_is)
    (case h30 => k_is)
    (case ga1 => k_is)
    (case gg1 => k_is)
    (case xh1 => k_is)
    (case aE3 => k_is)
    (case xc3 => k_is)
    (case xt3 => k_is)
    (case xb3 => k_is)
    (case a31 => k_is)
    (case i31 => k_is)
    (case l31 => k_is)
    (case c31 => k_is)
    (case j31 => k_is)
    (case v31 => rfl)
    (case w31 => first | rfl | decide +kernel)
    (case y31 => k_is)
    (case p31 => k_is)
    (case r31 => k_is)
    (case u31 => ks_is)
    (case e31 => k_is)
    (case x31 => k_is)
    (case hb31 => decide +kernel)
    (case s31 => k_is)
    (case h31 => k_is)
    (case aE8 => k_is)
    (case xc8 => k_is)
    (case xt8 => k_is)
    (case xb8 => k_is)
    (case a32 => k_is)
    (case i32 => k_is)
    (case l32 => k_is)
    (case c32 => k_is)
    (case j32 => k_is)
    (case v32 => rfl)
    (case w32 => first | rfl | decide +kernel)
    (case y32 => k_is)
    (case p32 => k_is)
    (case r32 => k_is)
    (case u32 => ks_is)
    (case e32 => k_is)
    (case x32 => k_is)
    (case hb32 => decide +kernel)
    (case s32 => k_is)
    (case h32 => k_is)
    (case of3_number => k_is)
    (case of3_what => k_is)
    (case of1_column => k_is)
    (case of1_line => k_is)
    (case of8_digits => k_is)
    (case xx1_1 => k_is)
    (case xx1_3 => k_is)
    (case xx1_8 => k_is)
    (case xx3_1 => k_is)
    (case xx3_3 => k_is)
    (case xx3_8 => k_is)
    (case xx8_1 => k_is)
    (case xx8_3 => k_is)
    (case xx8_8 => k_is)
