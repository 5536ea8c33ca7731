import PyProof.Rows.All
import HandS.ForMost
import HandS.ForExc
import HandS.ExcInit
import HandS.IsInst
import HandS.Wide
import HandS.WideBits
import HandS.CallSlots
import HandS.TryMany
import HandS.Style
import HandS.Flow
import HandS.Lambda
import HandS.TupAny
import HandS.TupMul
import HandS.Zip
import HandS.Defaults
import KE.KOpsOwn
import KE.KExcSuper
import HandS.ExcField
import HandS.EndTab
import KE.KNestM
import PyProof.TupleOfStr
import HandS.StrMore
import HandS.Text
import HandS.EndBits
import PyProof.Fits
import HandS.EndOwn
import Wide.All
import OpenK.AllK
import Wide.FinOn
import PySem.Challenge.RW_hingeworks_k00_ratios
import KE.RegKSuper
import KE.RegKIsAll
set_option Elab.async false
set_option linter.all false
set_option maxRecDepth 100000
/-! Data: what a value is, with no heap in sight; how data stand in a heap. -/
namespace DL
open PySem L2

/-- data. cel n: a thing that changes, by its number -/
inductive D where
  | non | bl (b : Bool) | int (i : Int) | str (s : Str)
  | tup (xs : List D) | lst (xs : List D) | rol (xs : List D) | ins (c : Nat) (xs : List D) | cel (n : Nat)

/-- a thing that changes -/
inductive MO where
  | lst (xs : List D) | dic (kvs : List (Key × D)) | obj (c : Nat) (ns : List Str) (xs : List D) | tab (q : Str) | dead

/-- a slot: nothing; data; a list of one's own; an instance that is being made; a caught error -/
inductive Sl where
  | mt | d (x : D) | own (xs : List D) | obj (c : Nat) (ns : List Str) (xs : List D) | exn (c : Nat) (xs : List D) | lam

inductive R (α : Type) where
  | ok (a : α) (M : List MO) | ex (c : Nat) (xs : List D) (M : List MO) | bad
inductive RS where
  | nx (ρ : List Sl) (M : List MO) | rt (d : D) (M : List MO) | bk (ρ : List Sl) (M : List MO) | ct (ρ : List Sl) (M : List MO)
  | ex (c : Nat) (xs : List D) (ρ : List Sl) (M : List MO) | bad

abbrev FE := List Sl → List MO → R D
abbrev FT := List Sl → List MO → R Bool
abbrev FA := List Sl → List MO → R (List D)
abbrev FS := List Sl → List MO → RS

def R.bind {α β : Type} (r : R α) (k : α → List MO → R β) : R β :=
  match r with
  | .ok a M => k a M
  | .ex c xs M => .ex c xs M
  | .bad => .bad
def R.sbind {α : Type} (ρ : List Sl) (r : R α) (k : α → List MO → RS) : RS :=
  match r with
  | .ok a M => k a M
  | .ex c xs M => .ex c xs ρ M
  | .bad => .bad
@[simp] theorem R.bind_ok {α β : Type} (a : α) (M : List MO) (k : α → List MO → R β) : R.bind (.ok a M) k = k a M := rfl
@[simp] theorem R.bind_ex {α β : Type} (c : Nat) (xs : List D) (M : List MO) (k : α → List MO → R β) : R.bind (.ex c xs M : R α) k = .ex c xs M := rfl
@[simp] theorem R.bind_bad {α β : Type} (k : α → List MO → R β) : R.bind (.bad : R α) k = .bad := rfl
@[simp] theorem R.sbind_ok {α : Type} (ρ : List Sl) (a : α) (M : List MO) (k : α → List MO → RS) : R.sbind ρ (.ok a M) k = k a M := rfl
@[simp] theorem R.sbind_ex {α : Type} (ρ : List Sl) (c : Nat) (xs : List D) (M : List MO) (k : α → List MO → RS) : R.sbind ρ (.ex c xs M : R α) k = .ex c xs ρ M := rfl
@[simp] theorem R.sbind_bad {α : Type} (ρ : List Sl) (k : α → List MO → RS) : R.sbind ρ (.bad : R α) k = .bad := rfl

/-- where the text's classes stand; the names of their fields -/
structure Gam where
  K : PySem.W.Frag
  cA : Nat → Addr
  eA : Nat → Addr
  xa : Option (Addr × Nat × Addr) := none
  fa : Option (Addr × List Addr × Hp) := none
  tb : Str → Addr := fun _ => 0
/-- the fields of each class, in the order in which they are stored -/
def cn : Nat → List Str
  | 0 => ["top", "bottom"]
  | 1 => ["fixed", "slopes", "size", "is_number", "row"]
  | 2 => ["rows", "size"]
  | 3 => ["size", "free", "held", "bottom", "lines", "plane_bottom"]
  | _ => []
/-- the fields of each error, the last one first -/
def en : Nat → List Str
  | 1 => ["column", "line"]
  | 2 => ["name"]
  | 3 => ["number", "what"]
  | 4 => ["what"]
  | 5 => ["place"]
  | 6 => ["row"]
  | 7 => ["row"]
  | 8 => ["digits"]
  | 9 => ["limit", "many", "what"]
  | 10 => ["limit", "many", "what"]
  | 11 => ["what"]
  | 12 => []
  | 13 => ["name"]
  | 14 => []
  | 15 => ["rank"]
  | 16 => ["name"]
  | 17 => ["name"]
  | 18 => ["name"]
  | 19 => ["name"]
  | 20 => ["given", "promise"]
  | _ => []

section
variable (Γ : Gam) (as : List Addr) (G : Hp)
mutual
def Rep : D → V → Prop
  | .non, v => v = .non
  | .bl b, v => v = .bl b
  | .int i, v => v = .int i
  | .str s, v => v = .str s
  | .tup xs, v => ∃ a vs, v = .ref a ∧ SqT Γ.K G a vs ∧ RepL xs vs
  | .lst xs, v => ∃ a vs, v = .ref a ∧ G a = some (.lst vs) ∧ RepL xs vs
  | .rol xs, v => ∃ a vs, v = .ref a ∧ SqL Γ.K G a vs ∧ RepL xs vs
  | .ins c xs, v => ∃ a dx vs, v = .ref a ∧ G a = some (.ins (Γ.cA c) dx ((DL.cn c).zip vs)) ∧ vs.length = (DL.cn c).length ∧ RepL xs vs
  | .cel n, v => ∃ a, as[n]? = some a ∧ v = .ref a
def RepL : List D → List V → Prop
  | [], vs => vs = []
  | x :: xs, vs => ∃ v ws, vs = v :: ws ∧ Rep x v ∧ RepL xs ws
end
end

/-- the heap grows -/
def Le (H H' : Hp) : Prop := ∀ a o, H a = some o → H' a = some o
theorem Le.refl (H : Hp) : Le H H := fun _ _ h => h
theorem Le.trans {H H1 H2 : Hp} (a : Le H H1) (b : Le H1 H2) : Le H H2 := fun x o h => b x o (a x o h)
theorem Le.new {H : Hp} {p : Addr} {o : HO} (h : H p = none) : Le H (upd H p o) := fun a u e => by
  rw [upd_ne (ne_of_none e h)]; exact e
theorem Le.free {H H' : Hp} {p : Addr} (e : Le H H') (h : H' p = none) : H p = none := by
  cases h1 : H p with
  | none => rfl
  | some o => rw [e p o h1] at h; cases h
theorem Le.rd {H H' : Hp} {a : Addr} {u : HO} (e : Le H H') (h : Rd H a u) : Rd H' a u := by
  rcases h with h | ⟨o, h⟩
  · exact .inl (e a _ h)
  · exact .inr ⟨o, e a _ h⟩
theorem Le.sl {K : PySem.W.Frag} {H H' : Hp} {a : Addr} {xs : List V} (e : Le H H') (h : SqL K H a xs) : SqL K H' a xs := by
  rcases h with h | h
  · exact .inl (e.rd h)
  · exact .inr h
theorem Le.st {K : PySem.W.Frag} {H H' : Hp} {a : Addr} {xs : List V} (e : Le H H') (h : SqT K H a xs) : SqT K H' a xs := by
  rcases h with h | h
  · exact .inl (e.rd h)
  · exact .inr h

section
variable {Γ : Gam} {as as' : List Addr} {G G' : Hp}
theorem pre_get {α : Type} {l l' : List α} (h : l <+: l') {i : Nat} {x : α} (e : l[i]? = some x) : l'[i]? = some x := by
  obtain ⟨t, rfl⟩ := h
  rw [List.getElem?_append_left]
  · exact e
  · exact (List.getElem?_eq_some_iff.mp e).1
mutual
theorem Rep.mono (hG : Le G G') (ha : as <+: as') : ∀ {d : D} {v : V}, Rep Γ as G d v → Rep Γ as' G' d v
  | .non, _, h => h
  | .bl _, _, h => h
  | .int _, _, h => h
  | .str _, _, h => h
  | .tup xs, v, h => by
    obtain ⟨a, vs, e, s, r⟩ := h
    exact ⟨a, vs, e, hG.st s, RepL.mono hG ha r⟩
  | .lst xs, v, h => by
    obtain ⟨a, vs, e, s, r⟩ := h
    exact ⟨a, vs, e, hG _ _ s, RepL.mono hG ha r⟩
  | .rol xs, v, h => by
    obtain ⟨a, vs, e, s, r⟩ := h
    exact ⟨a, vs, e, hG.sl s, RepL.mono hG ha r⟩
  | .ins c xs, v, h => by
    obtain ⟨a, dx, vs, e, s, l, r⟩ := h
    exact ⟨a, dx, vs, e, hG _ _ s, l, RepL.mono hG ha r⟩
  | .cel n, v, h => by
    obtain ⟨a, e, r⟩ := h
    exact ⟨a, pre_get ha e, r⟩
theorem RepL.mono (hG : Le G G') (ha : as <+: as') : ∀ {xs : List D} {vs : List V}, RepL Γ as G xs vs → RepL Γ as' G' xs vs
  | [], _, h => h
  | x :: xs, vs, h => by
    obtain ⟨v, ws, e, r, t⟩ := h
    exact ⟨v, ws, e, Rep.mono hG ha r, RepL.mono hG ha t⟩
end
theorem RepL.length : ∀ {xs : List D} {vs : List V}, RepL Γ as G xs vs → xs.length = vs.length
  | [], _, h => by cases h; rfl
  | x :: xs, vs, h => by
    obtain ⟨v, ws, e, r, t⟩ := h
    subst e
    simp [RepL.length t]
theorem RepL.get : ∀ {xs : List D} {vs : List V} {i : Nat} {d : D}, RepL Γ as G xs vs → xs[i]? = some d → ∃ v, vs[i]? = some v ∧ Rep Γ as G d v
  | [], _, _, _, _, e => by simp at e
  | x :: xs, vs, 0, d, h, e => by
    obtain ⟨v, ws, rfl, r, t⟩ := h
    simp at e; subst e
    exact ⟨v, rfl, r⟩
  | x :: xs, vs, i + 1, d, h, e => by
    obtain ⟨v, ws, rfl, r, t⟩ := h
    simpa using RepL.get (i := i) t (by simpa using e)
theorem RepL.nil : RepL Γ as G [] [] := rfl
theorem RepL.cons {d : D} {v : V} {ds : List D} {vs : List V} (h : Rep Γ as G d v) (t : RepL Γ as G ds vs) : RepL Γ as G (d :: ds) (v :: vs) := ⟨v, vs, rfl, h, t⟩
theorem RepL.append : ∀ {xs ys : List D} {vs ws : List V}, RepL Γ as G xs vs → RepL Γ as G ys ws → RepL Γ as G (xs ++ ys) (vs ++ ws)
  | [], _, _, _, h, t => by cases h; exact t
  | x :: xs, ys, vs, ws, h, t => by
    obtain ⟨v, us, rfl, r, q⟩ := h
    exact ⟨v, us ++ ws, rfl, r, RepL.append q t⟩
theorem RepL.set : ∀ {xs : List D} {vs : List V} {d : D} {v : V} (i : Nat), RepL Γ as G xs vs → Rep Γ as G d v → RepL Γ as G (xs.set i d) (vs.set i v)
  | [], _, _, _, _, h, _ => by cases h; exact RepL.nil
  | x :: xs, vs, d, v, 0, h, r => by
    obtain ⟨w, us, rfl, _, q⟩ := h
    exact ⟨v, us, rfl, r, q⟩
  | x :: xs, vs, d, v, i + 1, h, r => by
    obtain ⟨w, us, rfl, r0, q⟩ := h
    exact ⟨w, us.set i v, rfl, r0, RepL.set i q r⟩
theorem RepL.drop : ∀ {xs : List D} {vs : List V} (n : Nat), RepL Γ as G xs vs → RepL Γ as G (xs.drop n) (vs.drop n)
  | _, _, 0, h => h
  | [], _, n + 1, h => by cases h; exact RepL.nil
  | x :: xs, vs, n + 1, h => by
    obtain ⟨w, us, rfl, _, q⟩ := h
    exact RepL.drop n q
theorem RepL.take : ∀ {xs : List D} {vs : List V} (n : Nat), RepL Γ as G xs vs → RepL Γ as G (xs.take n) (vs.take n)
  | _, _, 0, _ => RepL.nil
  | [], _, n + 1, h => by cases h; exact RepL.nil
  | x :: xs, vs, n + 1, h => by
    obtain ⟨w, us, rfl, r, q⟩ := h
    exact ⟨w, us.take n, rfl, r, RepL.take n q⟩
theorem RepL.reverse : ∀ {xs : List D} {vs : List V}, RepL Γ as G xs vs → RepL Γ as G xs.reverse vs.reverse
  | [], _, h => by cases h; exact RepL.nil
  | x :: xs, vs, h => by
    obtain ⟨w, us, rfl, r, q⟩ := h
    rw [List.reverse_cons, List.reverse_cons]
    exact (RepL.reverse q).append (RepL.cons r RepL.nil)
end

/-- how a thing that changes stands -/
def RepKV (Γ : Gam) (as : List Addr) (G : Hp) : List (Key × D) → List (Key × V) → Prop
  | [], vs => vs = []
  | x :: xs, vs => ∃ v ws, vs = (x.1, v) :: ws ∧ Rep Γ as G x.2 v ∧ RepKV Γ as G xs ws
theorem RepKV.mono {Γ : Gam} {as as' : List Addr} {G G' : Hp} (hG : Le G G') (ha : as <+: as') : ∀ {xs : List (Key × D)} {vs : List (Key × V)}, RepKV Γ as G xs vs → RepKV Γ as' G' xs vs
  | [], _, h => h
  | x :: xs, vs, h => by
    obtain ⟨v, ws, e, r, t⟩ := h
    exact ⟨v, ws, e, Rep.mono hG ha r, RepKV.mono hG ha t⟩
def RepM (Γ : Gam) (as : List Addr) (G H : Hp) (a : Addr) : MO → Prop
  | .lst xs => ∃ vs, H a = some (.lst vs) ∧ RepL Γ as G xs vs
  | .dic kvs => ∃ ws, H a = some (.dK ws) ∧ RepKV Γ as G kvs ws
  | .obj c ns xs => ∃ dx vs, H a = some (.ins (Γ.cA c) dx (ns.zip vs)) ∧ vs.length = ns.length ∧ RepL Γ as G xs vs
  | .tab q => a = Γ.tb q ∧ ∃ ps : Array Value, H a = some (.tbl ps) ∧ TriplesOk ps.toList ∧ ∀ (pos : Pos) (cv : Value), codeAmong pos ps.toList = some cv → ∃ c, cv = .ref c ∧ G c = some (LamX.CodeO c q)
  | .dead => True
theorem RepM.mono {Γ : Gam} {as as' : List Addr} {G G' H H' : Hp} {a : Addr} {m : MO} (hG : Le G G') (ha : as <+: as') (e : H' a = H a) (h : RepM Γ as G H a m) : RepM Γ as' G' H' a m := by
  cases m with
  | lst xs => obtain ⟨vs, q, r⟩ := h; exact ⟨vs, e.trans q, r.mono hG ha⟩
  | dic kvs => obtain ⟨vs, q, r⟩ := h; exact ⟨vs, e.trans q, r.mono hG ha⟩
  | obj c ns xs => obtain ⟨dx, vs, q, l, r⟩ := h; exact ⟨dx, vs, e.trans q, l, r.mono hG ha⟩
  | tab q =>
    obtain ⟨h0, ps, h1, h2, h3⟩ := h
    refine ⟨h0, ps, e.trans h1, h2, fun pos cv hc => ?_⟩
    obtain ⟨c, e1, e2⟩ := h3 pos cv hc
    exact ⟨c, e1, hG _ _ e2⟩
  | dead => trivial

/-- the entry: its heap, its cells, its ground; what may change -/
structure Ent where
  H : Hp
  as : List Addr
  G : Hp
  mu : Addr → Prop
  sf : Option Addr

/-- the cells and the ground, seen from the entry -/
structure St2 (Γ : Gam) (Θ : Ent) (as : List Addr) (G : Hp) (M : List MO) (H : Hp) : Prop where
  sub : Le G H
  grow : Le Θ.G G
  ext : Θ.as <+: as
  esub : ∀ a ∈ Θ.as, Θ.mu a
  fr : ∀ a o, Θ.H a = some o → ¬ Θ.mu a → H a = some o
  pres : ∀ a o, Θ.H a = some o → ∃ o', H a = some o'
  gfr : ∀ a o, G a = some o → Θ.G a = some o ∨ Θ.H a = none ∨ Θ.mu a
  len : as.length = M.length
  nd : as.Nodup
  cel : ∀ (n : Nat) (a : Addr) (m : MO), as[n]? = some a → M[n]? = some m → m ≠ .dead → G a = none ∧ (∃ o, H a = some o) ∧ RepM Γ as G H a m
  cfr : ∀ a ∈ as, a ∈ Θ.as ∨ Θ.H a = none
  ain : ∀ a ∈ as, ∃ o, H a = some o

/-- of an exception: its class, its own dict -/
def XP (Γ : Gam) (as : List Addr) (G : Hp) (c : Nat) (xs : List D) (d : Addr) : Prop := ∃ vs, G d = some (.xd ((DL.en c).zip vs)) ∧ vs.length = (DL.en c).length ∧ RepL Γ as G xs vs
theorem XP.mono {Γ : Gam} {as as' : List Addr} {G G' : Hp} {c : Nat} {xs : List D} {d : Addr} (hG : Le G G') (ha : as <+: as') (h : XP Γ as G c xs d) : XP Γ as' G' c xs d := by
  obtain ⟨vs, e, l, r⟩ := h
  exact ⟨vs, hG _ _ e, l, r.mono hG ha⟩
/-- a slot that owns what stands at a -/
def Owns (ρ : List Sl) (σ : L2.St) (i : Nat) (a : Addr) : Prop :=
  ((∃ xs, ρ[i]? = some (.own xs)) ∨ ∃ c ns xs, ρ[i]? = some (.obj c ns xs)) ∧ σ[i]? = some (some (.ref a))
def RepS (Γ : Gam) (as : List Addr) (G H : Hp) : Sl → Option V → Prop
  | .mt, _ => True
  | .d x, ov => ∃ v, ov = some v ∧ Rep Γ as G x v
  | .own xs, ov => ∃ a vs, ov = some (.ref a) ∧ H a = some (.lst vs) ∧ RepL Γ as G xs vs
  | .obj c ns xs, ov => ∃ a dx vs, ov = some (.ref a) ∧ H a = some (.ins (Γ.cA c) dx (ns.zip vs)) ∧ vs.length = ns.length ∧ RepL Γ as G xs vs
  | .exn c xs, ov => ∃ a d, ov = some (.ref a) ∧ Γ.xa = some (a, c, d) ∧ XP Γ as G c xs d
  | .lam, ov => ∃ f as1 G1, ov = some (.ref f) ∧ Γ.fa = some (f, as1, G1) ∧ as1 <+: as ∧ Le G1 G
structure Sta (Γ : Gam) (Θ : Ent) (as : List Addr) (G : Hp) (M : List MO) (ρ : List Sl) (σ : L2.St) (H : Hp) : Prop extends St2 Γ Θ as G M H where
  slen : ρ.length = σ.length
  env : ∀ (i : Nat) (s : Sl) (ov : Option V), ρ[i]? = some s → σ[i]? = some ov → RepS Γ as G H s ov
  own : ∀ i a, Owns ρ σ i a → G a = none ∧ a ∉ as ∧ (Θ.H a = none ∨ Θ.mu a)
  odj : ∀ i j a, Owns ρ σ i a → Owns ρ σ j a → i = j
  slf : ∀ (i c : Nat) (ns : List Str) (xs : List D) (a : Addr), ρ[i]? = some (.obj c ns xs) → σ[i]? = some (some (.ref a)) → Θ.sf = some a

/-! ### what is wanted of a result -/
def PostE (Γ : Gam) (Θ : Ent) (W : WX) (ρ : List Sl) (σ : L2.St) (as : List Addr) (G : Hp) (Q : VK) : R D → Prop
  | .ok d M => ∀ as' G' H' v, Sta Γ Θ as' G' M ρ σ H' → Le G G' → as <+: as' → Rep Γ as' G' d v → Q v H'
  | .ex c xs M => ∀ as' G' H' d, Sta Γ Θ as' G' M ρ σ H' → Le G G' → as <+: as' → XP Γ as' G' c xs d → W (.ref (Γ.eA c)) (some d) σ H'
  | .bad => False
def PostT (Γ : Gam) (Θ : Ent) (W : WX) (ρ : List Sl) (σ : L2.St) (as : List Addr) (G : Hp) (Q : Bool → Hp → Prop) : R Bool → Prop
  | .ok b M => ∀ as' G' H', Sta Γ Θ as' G' M ρ σ H' → Le G G' → as <+: as' → Q b H'
  | .ex c xs M => ∀ as' G' H' d, Sta Γ Θ as' G' M ρ σ H' → Le G G' → as <+: as' → XP Γ as' G' c xs d → W (.ref (Γ.eA c)) (some d) σ H'
  | .bad => False
def PostA (Γ : Gam) (Θ : Ent) (W : WX) (ρ : List Sl) (σ : L2.St) (as : List Addr) (G : Hp) (Q : List V → Hp → Prop) : R (List D) → Prop
  | .ok ds M => ∀ as' G' H' vs, Sta Γ Θ as' G' M ρ σ H' → Le G G' → as <+: as' → RepL Γ as' G' ds vs → Q vs H'
  | .ex c xs M => ∀ as' G' H' d, Sta Γ Θ as' G' M ρ σ H' → Le G G' → as <+: as' → XP Γ as' G' c xs d → W (.ref (Γ.eA c)) (some d) σ H'
  | .bad => False
def PostS (Γ : Gam) (Θ : Ent) (W : WX) (D : Ends) : RS → Prop
  | .nx ρ M => ∀ as' G' σ' H', Sta Γ Θ as' G' M ρ σ' H' → D.nx σ' H'
  | .bk ρ M => ∀ as' G' σ' H', Sta Γ Θ as' G' M ρ σ' H' → D.bk σ' H'
  | .ct ρ M => ∀ as' G' σ' H', Sta Γ Θ as' G' M ρ σ' H' → D.ct σ' H'
  | .rt d M => ∀ as' G' H' v, St2 Γ Θ as' G' M H' → Rep Γ as' G' d v → D.rt v H'
  | .ex c xs ρ M => ∀ as' G' σ' H' d, Sta Γ Θ as' G' M ρ σ' H' → XP Γ as' G' c xs d → W (.ref (Γ.eA c)) (some d) σ' H'
  | .bad => False
def tE (Γ : Gam) (W : WX) (f : FE) : TE := fun σ H Q => ∃ Θ as G M ρ, Sta Γ Θ as G M ρ σ H ∧ PostE Γ Θ W ρ σ as G Q (f ρ M)
def tT (Γ : Gam) (W : WX) (f : FT) : TT := fun σ H Q => ∃ Θ as G M ρ, Sta Γ Θ as G M ρ σ H ∧ PostT Γ Θ W ρ σ as G Q (f ρ M)
def tA (Γ : Gam) (W : WX) (f : FA) : TA := fun σ H Q => ∃ Θ as G M ρ, Sta Γ Θ as G M ρ σ H ∧ PostA Γ Θ W ρ σ as G Q (f ρ M)
def tS (Γ : Gam) (W : WX) (f : FS) : TS := fun D σ H => ∃ Θ as G M ρ, Sta Γ Θ as G M ρ σ H ∧ PostS Γ Θ W D (f ρ M)

/-! ### how wishes weaken -/
section
variable {Γ : Gam} {Θ : Ent} {W : WX} {ρ : List Sl} {σ : L2.St} {as as1 : List Addr} {G G1 : Hp}
theorem PostE.imp {Q Q' : VK} {r : R D} (h : PostE Γ Θ W ρ σ as G Q r) (hG : Le G G1) (ha : as <+: as1) (q : ∀ v H, Q v H → Q' v H) : PostE Γ Θ W ρ σ as1 G1 Q' r := by
  cases r with
  | ok d M => exact fun as' G' H' v s e p x => q _ _ (h as' G' H' v s (hG.trans e) (ha.trans p) x)
  | ex c xs M => exact fun as' G' H' d s e p x => h as' G' H' d s (hG.trans e) (ha.trans p) x
  | bad => exact h
theorem PostT.imp {Q Q' : Bool → Hp → Prop} {r : R Bool} (h : PostT Γ Θ W ρ σ as G Q r) (hG : Le G G1) (ha : as <+: as1) (q : ∀ v H, Q v H → Q' v H) : PostT Γ Θ W ρ σ as1 G1 Q' r := by
  cases r with
  | ok d M => exact fun as' G' H' s e p => q _ _ (h as' G' H' s (hG.trans e) (ha.trans p))
  | ex c xs M => exact fun as' G' H' d s e p x => h as' G' H' d s (hG.trans e) (ha.trans p) x
  | bad => exact h
theorem PostA.imp {Q Q' : List V → Hp → Prop} {r : R (List D)} (h : PostA Γ Θ W ρ σ as G Q r) (hG : Le G G1) (ha : as <+: as1) (q : ∀ v H, Q v H → Q' v H) : PostA Γ Θ W ρ σ as1 G1 Q' r := by
  cases r with
  | ok d M => exact fun as' G' H' v s e p x => q _ _ (h as' G' H' v s (hG.trans e) (ha.trans p) x)
  | ex c xs M => exact fun as' G' H' d s e p x => h as' G' H' d s (hG.trans e) (ha.trans p) x
  | bad => exact h
/-- first r, then k: for each kind of a first and each kind of a second part -/
theorem PostE.bindE {Q : VK} {r : R D} {k : D → List MO → R D} (h : PostE Γ Θ W ρ σ as G Q (r.bind k)) :
    PostE Γ Θ W ρ σ as G (fun v H' => ∃ d M' as' G', Sta Γ Θ as' G' M' ρ σ H' ∧ Le G G' ∧ as <+: as' ∧ Rep Γ as' G' d v ∧ PostE Γ Θ W ρ σ as' G' Q (k d M')) r := by
  cases r with
  | ok d M => exact fun as' G' H' v s e p x => ⟨d, M, as', G', s, e, p, x, PostE.imp h e p fun _ _ z => z⟩
  | ex c xs M => exact h
  | bad => exact h
theorem PostE.bindT {Q : VK} {r : R Bool} {k : Bool → List MO → R D} (h : PostE Γ Θ W ρ σ as G Q (r.bind k)) :
    PostT Γ Θ W ρ σ as G (fun b H' => ∃ M' as' G', Sta Γ Θ as' G' M' ρ σ H' ∧ Le G G' ∧ as <+: as' ∧ PostE Γ Θ W ρ σ as' G' Q (k b M')) r := by
  cases r with
  | ok d M => exact fun as' G' H' s e p => ⟨M, as', G', s, e, p, PostE.imp h e p fun _ _ z => z⟩
  | ex c xs M => exact h
  | bad => exact h
theorem PostE.bindA {Q : VK} {r : R (List D)} {k : List D → List MO → R D} (h : PostE Γ Θ W ρ σ as G Q (r.bind k)) :
    PostA Γ Θ W ρ σ as G (fun vs H' => ∃ ds M' as' G', Sta Γ Θ as' G' M' ρ σ H' ∧ Le G G' ∧ as <+: as' ∧ RepL Γ as' G' ds vs ∧ PostE Γ Θ W ρ σ as' G' Q (k ds M')) r := by
  cases r with
  | ok d M => exact fun as' G' H' v s e p x => ⟨d, M, as', G', s, e, p, x, PostE.imp h e p fun _ _ z => z⟩
  | ex c xs M => exact h
  | bad => exact h
theorem PostT.bindE {Q : Bool → Hp → Prop} {r : R D} {k : D → List MO → R Bool} (h : PostT Γ Θ W ρ σ as G Q (r.bind k)) :
    PostE Γ Θ W ρ σ as G (fun v H' => ∃ d M' as' G', Sta Γ Θ as' G' M' ρ σ H' ∧ Le G G' ∧ as <+: as' ∧ Rep Γ as' G' d v ∧ PostT Γ Θ W ρ σ as' G' Q (k d M')) r := by
  cases r with
  | ok d M => exact fun as' G' H' v s e p x => ⟨d, M, as', G', s, e, p, x, PostT.imp h e p fun _ _ z => z⟩
  | ex c xs M => exact h
  | bad => exact h
theorem PostT.bindT {Q : Bool → Hp → Prop} {r : R Bool} {k : Bool → List MO → R Bool} (h : PostT Γ Θ W ρ σ as G Q (r.bind k)) :
    PostT Γ Θ W ρ σ as G (fun b H' => ∃ M' as' G', Sta Γ Θ as' G' M' ρ σ H' ∧ Le G G' ∧ as <+: as' ∧ PostT Γ Θ W ρ σ as' G' Q (k b M')) r := by
  cases r with
  | ok d M => exact fun as' G' H' s e p => ⟨M, as', G', s, e, p, PostT.imp h e p fun _ _ z => z⟩
  | ex c xs M => exact h
  | bad => exact h
theorem PostA.bindE {Q : List V → Hp → Prop} {r : R D} {k : D → List MO → R (List D)} (h : PostA Γ Θ W ρ σ as G Q (r.bind k)) :
    PostE Γ Θ W ρ σ as G (fun v H' => ∃ d M' as' G', Sta Γ Θ as' G' M' ρ σ H' ∧ Le G G' ∧ as <+: as' ∧ Rep Γ as' G' d v ∧ PostA Γ Θ W ρ σ as' G' Q (k d M')) r := by
  cases r with
  | ok d M => exact fun as' G' H' v s e p x => ⟨d, M, as', G', s, e, p, x, PostA.imp h e p fun _ _ z => z⟩
  | ex c xs M => exact h
  | bad => exact h
theorem PostA.bindA {Q : List V → Hp → Prop} {r : R (List D)} {k : List D → List MO → R (List D)} (h : PostA Γ Θ W ρ σ as G Q (r.bind k)) :
    PostA Γ Θ W ρ σ as G (fun vs H' => ∃ ds M' as' G', Sta Γ Θ as' G' M' ρ σ H' ∧ Le G G' ∧ as <+: as' ∧ RepL Γ as' G' ds vs ∧ PostA Γ Θ W ρ σ as' G' Q (k ds M')) r := by
  cases r with
  | ok d M => exact fun as' G' H' v s e p x => ⟨d, M, as', G', s, e, p, x, PostA.imp h e p fun _ _ z => z⟩
  | ex c xs M => exact h
  | bad => exact h
theorem PostS.bindE {D : Ends} {r : R DL.D} {k : DL.D → List MO → RS} (h : PostS Γ Θ W D (R.sbind ρ r k)) : 
    PostE Γ Θ W ρ σ as G (fun v H' => ∃ d M' as' G', Sta Γ Θ as' G' M' ρ σ H' ∧ Le G G' ∧ as <+: as' ∧ Rep Γ as' G' d v ∧ PostS Γ Θ W D (k d M')) r := by
  cases r with
  | ok d M => exact fun as' G' H' v s e p x => ⟨d, M, as', G', s, e, p, x, h⟩
  | ex c xs M => exact fun as' G' H' d s _ _ x => h as' G' σ H' d s x
  | bad => exact h
theorem PostS.bindT {D : Ends} {r : R Bool} {k : Bool → List MO → RS} (h : PostS Γ Θ W D (R.sbind ρ r k)) : 
    PostT Γ Θ W ρ σ as G (fun b H' => ∃ M' as' G', Sta Γ Θ as' G' M' ρ σ H' ∧ PostS Γ Θ W D (k b M')) r := by
  cases r with
  | ok d M => exact fun as' G' H' s e p => ⟨M, as', G', s, h⟩
  | ex c xs M => exact fun as' G' H' d s _ _ x => h as' G' σ H' d s x
  | bad => exact h
theorem PostS.bindA {D : Ends} {r : R (List DL.D)} {k : List DL.D → List MO → RS} (h : PostS Γ Θ W D (R.sbind ρ r k)) : 
    PostA Γ Θ W ρ σ as G (fun vs H' => ∃ ds M' as' G', Sta Γ Θ as' G' M' ρ σ H' ∧ Le G G' ∧ as <+: as' ∧ RepL Γ as' G' ds vs ∧ PostS Γ Θ W D (k ds M')) r := by
  cases r with
  | ok d M => exact fun as' G' H' v s e p x => ⟨d, M, as', G', s, e, p, x, h⟩
  | ex c xs M => exact fun as' G' H' d s _ _ x => h as' G' σ H' d s x
  | bad => exact h
end
end DL
set_option maxRecDepth 100000
namespace DL
open PySem L2
section
variable {X : Cx}
theorem PE.imp {e : Expr} {t t' : TE} (h : PE X e t) (i : ∀ σ H Q, t' σ H Q → t σ H Q) : PE X e t' := ⟨fun pins s σ H Q I w => h.run pins s σ H Q I (i _ _ _ w)⟩
theorem PT.imp {e : Expr} {t t' : TT} (h : PT X e t) (i : ∀ σ H Q, t' σ H Q → t σ H Q) : PT X e t' := ⟨fun pins s σ H Q I w => h.run pins s σ H Q I (i _ _ _ w)⟩
theorem PW.imp {e : Expr} {t t' : TT} (h : PW X e t) (i : ∀ σ H Q, t' σ H Q → t σ H Q) : PW X e t' := ⟨fun wh pins s σ H Q I w => h.run wh pins s σ H Q I (i _ _ _ w)⟩
theorem PA.imp {es : List Expr} {t t' : TA} (h : PA X es t) (i : ∀ σ H Q, t' σ H Q → t σ H Q) : PA X es t' := ⟨fun pos pins s σ H Q I w => h.run pos pins s σ H Q I (i _ _ _ w)⟩
theorem PS.imp {st : Stmt} {t t' : TS} (h : PS X st t) (i : ∀ D σ H, t' D σ H → t D σ H) : PS X st t' := ⟨fun pins s σ H D I w => h.run pins s σ H D I (i _ _ _ w)⟩
theorem PSs.imp {st : List Stmt} {t t' : TS} (h : PSs X st t) (i : ∀ D σ H, t' D σ H → t D σ H) : PSs X st t' := ⟨fun pins s σ H D I w => h.run pins s σ H D I (i _ _ _ w)⟩
theorem PE.or {e : Expr} {t u : TE} (h : PE X e t) (k : PE X e u) : PE X e (fun σ H Q => t σ H Q ∨ u σ H Q) := ⟨fun pins s σ H Q I w => w.elim (h.run pins s σ H Q I) (k.run pins s σ H Q I)⟩
theorem PS.or {e : Stmt} {t u : TS} (h : PS X e t) (k : PS X e u) : PS X e (fun D σ H => t D σ H ∨ u D σ H) := ⟨fun pins s σ H D I w => w.elim (h.run pins s σ H D I) (k.run pins s σ H D I)⟩
theorem PI.or {tg e : Expr} {t u : TI} (h : PI X tg e t) (k : PI X tg e u) : PI X tg e (fun σ H Q => t σ H Q ∨ u σ H Q) := ⟨fun pins s σ H Q I w => w.elim (h.run pins s σ H Q I) (k.run pins s σ H Q I)⟩
theorem OpR.or {f : Value → Value → Sem Value} {r r' : R2} (h : OpR X f r) (k : OpR X f r') : OpR X f (fun x y H Q => r x y H Q ∨ r' x y H Q) :=
  fun pins s σ H x y v u Q I rx ry w => w.elim (h pins s σ H x y v u Q I rx ry) (k pins s σ H x y v u Q I rx ry)
theorem CallR.or {f : Value} {r r' : List V → Hp → VK → Prop} (h : CallR X f r) (k : CallR X f r') : CallR X f (fun x H Q => r x H Q ∨ r' x H Q) :=
  fun pins s σ H xs us Q I rx w => w.elim (h pins s σ H xs us Q I rx) (k pins s σ H xs us Q I rx)
end

/-! ### what data say of values -/
section
variable {Γ : Gam} {as : List Addr} {G : Hp}
theorem rep_int {i : Int} {v : V} : Rep Γ as G (.int i) v ↔ v = .int i := Iff.rfl
end

/-! ### names and constants -/
def dVar (i : Nat) : FE := fun ρ M => match ρ[i]? with
  | some (.d x) => .ok x M
  | _ => .bad
def dC (d : D) : FE := fun _ M => .ok d M
section
variable {X : Cx} {Γ : Gam} {W : WX}
theorem Sta.at_d {Θ : Ent} {as : List Addr} {G H : Hp} {M : List MO} {ρ : List Sl} {σ : L2.St} (S : Sta Γ Θ as G M ρ σ H) {i : Nat} {x : D} (h : ρ[i]? = some (.d x)) : ∃ v, σ[i]? = some (some v) ∧ Rep Γ as G x v := by
  have hl : i < σ.length := by rw [← S.slen]; exact (List.getElem?_eq_some_iff.mp h).1
  obtain ⟨v, e, r⟩ := S.env i _ _ h (List.getElem?_eq_getElem hl)
  exact ⟨v, by rw [List.getElem?_eq_getElem hl, e], r⟩
theorem q_var {e : Expr} {i : Nat} (h : PE X e (tVar i)) : PE X e (tE Γ W (dVar i)) := PE.imp h fun σ H Q ⟨Θ, as, G, M, ρ, S, q⟩ => by
  unfold dVar at q
  split at q
  · rename_i x e
    obtain ⟨v, h1, r⟩ := S.at_d e
    exact ⟨v, h1, q _ _ _ _ S (Le.refl _) (List.prefix_refl _) r⟩
  · exact q.elim
theorem q_c {e : Expr} {v : V} {d : D} (hr : ∀ as G, Rep Γ as G d v) (h : PE X e (tC v)) : PE X e (tE Γ W (dC d)) := PE.imp h fun σ H Q ⟨Θ, as, G, M, ρ, S, q⟩ =>
  q _ _ _ _ S (Le.refl _) (List.prefix_refl _) (hr _ _)
theorem q_int {i j pos} : PE X (.Constant (.int i) j pos) (tE Γ W (dC (.int i))) := q_c (fun _ _ => rfl) pe_int
theorem q_bl {b j pos} : PE X (.Constant (.bool b) j pos) (tE Γ W (dC (.bl b))) := q_c (fun _ _ => rfl) pe_bl
theorem q_non {j pos} : PE X (.Constant .none j pos) (tE Γ W (dC .non)) := q_c (fun _ _ => rfl) pe_non
theorem q_str {x j pos} : PE X (.Constant (.str x) j pos) (tE Γ W (dC (.str x))) := q_c (fun _ _ => rfl) pe_str
end

/-! ### operators -/
def d2 (g : D → D → List MO → R D) (fa fb : FE) : FE := fun ρ M => (fa ρ M).bind fun a M => (fb ρ M).bind fun b M => g a b M
def d1 (g : D → List MO → R D) (fa : FE) : FE := fun ρ M => (fa ρ M).bind fun a M => g a M
/-- r keeps g -/
def Keeps2 (Γ : Gam) (W : WX) (r : L2.St → R2) (g : D → D → List MO → R D) : Prop :=
  ∀ Θ ρ σ as G M H a b x y Q, Sta Γ Θ as G M ρ σ H → Rep Γ as G a x → Rep Γ as G b y → PostE Γ Θ W ρ σ as G Q (g a b M) → r σ x y H Q
def Keeps1 (Γ : Gam) (W : WX) (r : V → Hp → VK → Prop) (g : D → List MO → R D) : Prop :=
  ∀ Θ ρ σ as G M H a x Q, Sta Γ Θ as G M ρ σ H → Rep Γ as G a x → PostE Γ Θ W ρ σ as G Q (g a M) → r x H Q
def KeepsA (Γ : Gam) (W : WX) (r : List V → Hp → VK → Prop) (g : List D → List MO → R D) : Prop :=
  ∀ Θ ρ σ as G M H ds vs Q, Sta Γ Θ as G M ρ σ H → RepL Γ as G ds vs → PostE Γ Θ W ρ σ as G Q (g ds M) → r vs H Q
section
variable {X : Cx} {Γ : Gam} {W : WX}
theorem run2 {r : L2.St → R2} {g : D → D → List MO → R D} {fa fb : FE} (k : Keeps2 Γ W r g) {σ : L2.St} {H : Hp} {Q : VK} (h : tE Γ W (d2 g fa fb) σ H Q) :
    tE Γ W fa σ H fun x H1 => tE Γ W fb σ H1 fun y H2 => r σ x y H2 Q := by
  obtain ⟨Θ, as, G, M, ρ, S, q⟩ := h
  refine ⟨Θ, as, G, M, ρ, S, (PostE.bindE q).imp (Le.refl _) (List.prefix_refl _) ?_⟩
  rintro x H1 ⟨a, M1, as1, G1, S1, e1, p1, ra, q1⟩
  refine ⟨Θ, as1, G1, M1, ρ, S1, (PostE.bindE q1).imp (Le.refl _) (List.prefix_refl _) ?_⟩
  rintro y H2 ⟨b, M2, as2, G2, S2, e2, p2, rb, q2⟩
  exact k Θ ρ σ as2 G2 M2 H2 a b x y Q S2 (ra.mono e2 p2) rb q2
theorem q_op {op : Operator} {a b : Expr} {pos : Pos} {r : R2} {g : D → D → List MO → R D} {fa fb : FE} (ho : OpR X (binaryOp op) r) (k : Keeps2 Γ W (fun _ => r) g) (ha : PE X a (tE Γ W fa)) (hb : PE X b (tE Γ W fb)) :
    PE X (.BinOp a op b pos) (tE Γ W (d2 g fa fb)) := PE.imp (pe_op ho ha hb) fun _ _ _ h => run2 k h
theorem q_cmp {op : CmpOp} {a b : Expr} {pos : Pos} {r : R2} {g : D → D → List MO → R D} {fa fb : FE} (ho : OpR X (compareOp op) r) (k : Keeps2 Γ W (fun _ => r) g) (ha : PE X a (tE Γ W fa)) (hb : PE X b (tE Γ W fb)) (hm : behindInMarks op b = false) :
    PE X (.Compare a [op] [b] pos) (tE Γ W (d2 g fa fb)) := PE.imp (pe_cmpR ho ha hb hm) fun _ _ _ h => run2 k h
/-- a value that is a bool, as a test -/
def dB (f : FE) : FT := fun ρ M => (f ρ M).bind fun d M => match d with
  | .bl b => .ok b M
  | _ => .bad
theorem run_B {f : FE} {σ : L2.St} {H : Hp} {Q : Bool → Hp → Prop} (h : tT Γ W (dB f) σ H Q) : tE Γ W f σ H fun x H1 => ∃ k, x = .bl k ∧ Q k H1 := by
  obtain ⟨Θ, as, G, M, ρ, S, q⟩ := h
  refine ⟨Θ, as, G, M, ρ, S, (PostT.bindE q).imp (Le.refl _) (List.prefix_refl _) ?_⟩
  rintro x H1 ⟨d, M1, as1, G1, S1, e1, p1, ra, q1⟩
  split at q1
  · cases ra
    exact ⟨_, rfl, q1 _ _ _ S1 (Le.refl _) (List.prefix_refl _)⟩
  · exact q1.elim
theorem q_cmpT {op : CmpOp} {a b : Expr} {pos : Pos} {r : R2} {g : D → D → List MO → R D} {fa fb : FE} (ho : OpR X (compareOp op) r) (k : Keeps2 Γ W (fun _ => r) g) (ha : PE X a (tE Γ W fa)) (hb : PE X b (tE Γ W fb)) (hm : behindInMarks op b = false) :
    PT X (.Compare a [op] [b] pos) (tT Γ W (dB (d2 g fa fb))) := PT.imp (pt_cmpR ho ha hb hm) fun _ _ _ h => run2 (Q := fun x H1 => ∃ k, x = .bl k ∧ _) k (by
      obtain ⟨Θ, as, G, M, ρ, S, q⟩ := h
      exact ⟨Θ, as, G, M, ρ, S, (PostT.bindE q).imp (Le.refl _) (List.prefix_refl _) (by
        rintro x H1 ⟨d, M1, as1, G1, S1, e1, p1, ra, q1⟩
        split at q1
        · cases ra
          exact ⟨_, rfl, q1 _ _ _ S1 (Le.refl _) (List.prefix_refl _)⟩
        · exact q1.elim)⟩)
theorem q_val {e : Expr} {f : FE} (h : PE X e (tE Γ W f)) (he : ∀ whole, isTrue e X.env whole = (do let v ← whole; standAt e.pos; holding [v] (truthy v)) := by intro _; rfl) : PT X e (tT Γ W (dB f)) := PT.imp (pt_val h he) fun _ _ _ w => run_B w
/-! and, or, not, if -/
def dAnd (f g : FT) : FT := fun ρ M => (f ρ M).bind fun c M => if c = true then g ρ M else .ok false M
def dOr (f g : FT) : FT := fun ρ M => (f ρ M).bind fun c M => if c = true then .ok true M else g ρ M
def dNot (f : FT) : FT := fun ρ M => (f ρ M).bind fun c M => .ok (!c) M
def dAndV (f g : FE) : FE := fun ρ M => (f ρ M).bind fun d M => match d with
  | .bl c => if c = true then g ρ M else .ok (.bl false) M
  | _ => .bad
def dOrV (f g : FE) : FE := fun ρ M => (f ρ M).bind fun d M => match d with
  | .bl c => if c = true then .ok (.bl true) M else g ρ M
  | _ => .bad
def dNotV (f : FE) : FE := fun ρ M => (f ρ M).bind fun d M => match d with
  | .bl c => .ok (.bl (!c)) M
  | _ => .bad
def dIf (c : FT) (f g : FE) : FE := fun ρ M => (c ρ M).bind fun c M => if c = true then f ρ M else g ρ M
theorem q_and1 {a : Expr} {f : FT} {pos : Pos} (h : PT X a (tT Γ W f)) : PW X (.BoolOp .And [a] pos) (tT Γ W f) := pw_and1 h
theorem q_or1 {a : Expr} {f : FT} {pos : Pos} (h : PT X a (tT Γ W f)) : PW X (.BoolOp .Or [a] pos) (tT Γ W f) := pw_or1 h
theorem q_and {a b : Expr} {rest : List Expr} {f g : FT} {pos : Pos} (ha : PT X a (tT Γ W f)) (hb : PW X (.BoolOp .And (b :: rest) pos) (tT Γ W g)) : PW X (.BoolOp .And (a :: b :: rest) pos) (tT Γ W (dAnd f g)) := PW.imp (pw_and ha hb) fun σ H Q ⟨Θ, as, G, M, ρ, S, q⟩ => by
  refine ⟨Θ, as, G, M, ρ, S, (PostT.bindT q).imp (Le.refl _) (List.prefix_refl _) ?_⟩
  rintro c H1 ⟨M1, as1, G1, S1, e1, p1, q1⟩
  cases c with
  | true => rw [if_pos rfl] at q1 ⊢; exact ⟨Θ, as1, G1, M1, ρ, S1, q1⟩
  | false => rw [if_neg (by decide)] at q1 ⊢; exact q1 _ _ _ S1 (Le.refl _) (List.prefix_refl _)
theorem q_or {a b : Expr} {rest : List Expr} {f g : FT} {pos : Pos} (ha : PT X a (tT Γ W f)) (hb : PW X (.BoolOp .Or (b :: rest) pos) (tT Γ W g)) : PW X (.BoolOp .Or (a :: b :: rest) pos) (tT Γ W (dOr f g)) := PW.imp (pw_or ha hb) fun σ H Q ⟨Θ, as, G, M, ρ, S, q⟩ => by
  refine ⟨Θ, as, G, M, ρ, S, (PostT.bindT q).imp (Le.refl _) (List.prefix_refl _) ?_⟩
  rintro c H1 ⟨M1, as1, G1, S1, e1, p1, q1⟩
  cases c with
  | true => rw [if_pos rfl] at q1 ⊢; exact q1 _ _ _ S1 (Le.refl _) (List.prefix_refl _)
  | false => rw [if_neg (by decide)] at q1 ⊢; exact ⟨Θ, as1, G1, M1, ρ, S1, q1⟩
theorem q_not {a : Expr} {f : FT} {pos : Pos} (h : PT X a (tT Γ W f)) : PT X (.UnaryOp .Not a pos) (tT Γ W (dNot f)) := PT.imp (pt_not h) fun σ H Q ⟨Θ, as, G, M, ρ, S, q⟩ => by
  refine ⟨Θ, as, G, M, ρ, S, (PostT.bindT q).imp (Le.refl _) (List.prefix_refl _) ?_⟩
  rintro c H1 ⟨M1, as1, G1, S1, e1, p1, q1⟩
  exact q1 _ _ _ S1 (Le.refl _) (List.prefix_refl _)
theorem q_oneV {op} {a : Expr} {f : FE} {pos : Pos} (h : PE X a (tE Γ W f)) : PE X (.BoolOp op [a] pos) (tE Γ W f) := pe_one h
theorem q_andV {a b : Expr} {rest : List Expr} {f g : FE} {pos : Pos} (ha : PE X a (tE Γ W f)) (hb : PE X (.BoolOp .And (b :: rest) pos) (tE Γ W g)) : PE X (.BoolOp .And (a :: b :: rest) pos) (tE Γ W (dAndV f g)) := PE.imp (pe_and ha hb) fun σ H Q ⟨Θ, as, G, M, ρ, S, q⟩ => by
  refine ⟨Θ, as, G, M, ρ, S, (PostE.bindE q).imp (Le.refl _) (List.prefix_refl _) ?_⟩
  rintro x H1 ⟨d, M1, as1, G1, S1, e1, p1, r, q1⟩
  split at q1
  · rename_i c
    cases r
    refine ⟨c, rfl, ?_⟩
    cases c with
    | true => rw [if_pos rfl] at q1 ⊢; exact ⟨Θ, as1, G1, M1, ρ, S1, q1⟩
    | false => rw [if_neg (by decide)] at q1 ⊢; exact q1 _ _ _ _ S1 (Le.refl _) (List.prefix_refl _) rfl
  · exact q1.elim
theorem q_orV {a b : Expr} {rest : List Expr} {f g : FE} {pos : Pos} (ha : PE X a (tE Γ W f)) (hb : PE X (.BoolOp .Or (b :: rest) pos) (tE Γ W g)) : PE X (.BoolOp .Or (a :: b :: rest) pos) (tE Γ W (dOrV f g)) := PE.imp (pe_or ha hb) fun σ H Q ⟨Θ, as, G, M, ρ, S, q⟩ => by
  refine ⟨Θ, as, G, M, ρ, S, (PostE.bindE q).imp (Le.refl _) (List.prefix_refl _) ?_⟩
  rintro x H1 ⟨d, M1, as1, G1, S1, e1, p1, r, q1⟩
  split at q1
  · rename_i c
    cases r
    refine ⟨c, rfl, ?_⟩
    cases c with
    | true => rw [if_pos rfl] at q1 ⊢; exact q1 _ _ _ _ S1 (Le.refl _) (List.prefix_refl _) rfl
    | false => rw [if_neg (by decide)] at q1 ⊢; exact ⟨Θ, as1, G1, M1, ρ, S1, q1⟩
  · exact q1.elim
theorem q_notV {a : Expr} {f : FE} {pos : Pos} (h : PE X a (tE Γ W f)) : PE X (.UnaryOp .Not a pos) (tE Γ W (dNotV f)) := PE.imp (pe_not h) fun σ H Q ⟨Θ, as, G, M, ρ, S, q⟩ => by
  refine ⟨Θ, as, G, M, ρ, S, (PostE.bindE q).imp (Le.refl _) (List.prefix_refl _) ?_⟩
  rintro x H1 ⟨d, M1, as1, G1, S1, e1, p1, r, q1⟩
  split at q1
  · cases r
    exact ⟨_, rfl, q1 _ _ _ _ S1 (Le.refl _) (List.prefix_refl _) rfl⟩
  · exact q1.elim
theorem q_if {c a b : Expr} {fc : FT} {f g : FE} {pos : Pos} (hc : PT X c (tT Γ W fc)) (ha : PE X a (tE Γ W f)) (hb : PE X b (tE Γ W g)) : PE X (.IfExp c a b pos) (tE Γ W (dIf fc f g)) := PE.imp (pe_ifExp hc ha hb) fun σ H Q ⟨Θ, as, G, M, ρ, S, q⟩ => by
  refine ⟨Θ, as, G, M, ρ, S, (PostE.bindT q).imp (Le.refl _) (List.prefix_refl _) ?_⟩
  rintro c H1 ⟨M1, as1, G1, S1, e1, p1, q1⟩
  cases c with
  | true => rw [if_pos rfl] at q1 ⊢; exact ⟨Θ, as1, G1, M1, ρ, S1, q1⟩
  | false => rw [if_neg (by decide)] at q1 ⊢; exact ⟨Θ, as1, G1, M1, ρ, S1, q1⟩
/-! arguments -/
def aNil : FA := fun _ M => .ok [] M
def aCons (f : FE) (g : FA) : FA := fun ρ M => (f ρ M).bind fun d M => (g ρ M).bind fun ds M => .ok (d :: ds) M
theorem qa_nil : PA X [] (tA Γ W aNil) := PA.imp pa_nil fun σ H Q ⟨Θ, as, G, M, ρ, S, q⟩ => q _ _ _ _ S (Le.refl _) (List.prefix_refl _) RepL.nil
theorem qa_cons {e : Expr} {es : List Expr} {f : FE} {g : FA} (he : PE X e (tE Γ W f)) (hr : PA X es (tA Γ W g)) (hs : starEach (e :: es) X.env = (false, eval e X.env) :: starEach es X.env := by rfl) : PA X (e :: es) (tA Γ W (aCons f g)) :=
  PA.imp (pa_cons he hr hs) fun σ H Q ⟨Θ, as, G, M, ρ, S, q⟩ => by
    refine ⟨Θ, as, G, M, ρ, S, (PostA.bindE q).imp (Le.refl _) (List.prefix_refl _) ?_⟩
    rintro x H1 ⟨d, M1, as1, G1, S1, e1, p1, r, q1⟩
    refine ⟨Θ, as1, G1, M1, ρ, S1, (PostA.bindA q1).imp (Le.refl _) (List.prefix_refl _) ?_⟩
    rintro xs H2 ⟨ds, M2, as2, G2, S2, e2, p2, rs, q2⟩
    exact q2 _ _ _ _ S2 (Le.refl _) (List.prefix_refl _) (RepL.cons (r.mono e2 p2) rs)
theorem runA {r : List V → Hp → VK → Prop} {g : List D → List MO → R D} {fa : FA} (k : KeepsA Γ W r g) {σ : L2.St} {H : Hp} {Q : VK} (h : tE Γ W (fun ρ M => (fa ρ M).bind g) σ H Q) :
    tA Γ W fa σ H fun vs H1 => r vs H1 Q := by
  obtain ⟨Θ, as, G, M, ρ, S, q⟩ := h
  refine ⟨Θ, as, G, M, ρ, S, (PostE.bindA q).imp (Le.refl _) (List.prefix_refl _) ?_⟩
  rintro xs H1 ⟨ds, M1, as1, G1, S1, e1, p1, r, q1⟩
  exact k Θ ρ σ as1 G1 M1 H1 ds xs Q S1 r q1
/-- a built-in function, a built-in class called -/
def dCB (g : List D → List MO → R D) (fa : FA) : FE := fun ρ M => (fa ρ M).bind g
theorem q_callB {x : Str} {p pos : Pos} {e : Expr} {es : List Expr} {fa : FA} {id : String} {r : List V → Hp → VK → Prop} {g : List D → List MO → R D} (hc : CallR X (.builtin id) r) (k : KeepsA Γ W r g) (hg : Gl X x) (hm : X.mg x = none) (hv : bootBuiltins x = some (.builtin id)) (ha : PA X (e :: es) (tA Γ W fa)) (hn : x ≠ "__name__" := by decide) (hdb : (x == ("__debug__" : Str)) = false := by decide)
    (he : starEach (e :: es) X.env = (false, eval e X.env) :: starEach es X.env := by rfl) (hpl : (backTo pos (starEach es X.env)).any (·.1) = false := by rfl) : PE X (.Call (.Name x p) (e :: es) [] pos) (tE Γ W (dCB g fa)) :=
  PE.imp (pe_callB hc hg hm hv ha hn hdb he hpl) fun _ _ _ h => runA k h
theorem q_callTy {x : Str} {p pos : Pos} {e : Expr} {es : List Expr} {fa : FA} {T : String} {r : List V → Hp → VK → Prop} {g : List D → List MO → R D} (hc : CallR X (.type T) r) (k : KeepsA Γ W r g) (hg : Gl X x) (hm : X.mg x = none) (hv : bootBuiltins x = some (.type T)) (ha : PA X (e :: es) (tA Γ W fa)) (hn : x ≠ "__name__" := by decide) (hdb : (x == ("__debug__" : Str)) = false := by decide)
    (he : starEach (e :: es) X.env = (false, eval e X.env) :: starEach es X.env := by rfl) (hpl : (backTo pos (starEach es X.env)).any (·.1) = false := by rfl) : PE X (.Call (.Name x p) (e :: es) [] pos) (tE Γ W (dCB g fa)) :=
  PE.imp (pe_callTy hc hg hm hv ha hn hdb he hpl) fun _ _ _ h => runA k h
end
end DL
set_option maxRecDepth 100000
namespace DL
open PySem PySem.Spec PyProof.Rows L2

section
variable {Γ : Gam} {Θ : Ent} {as as' : List Addr} {G G' H H' : Hp} {M M' : List MO} {ρ : List Sl} {σ : L2.St}
/-- the entry that is now -/
abbrev now (H : Hp) (as : List Addr) (G : Hp) : Ent := ⟨H, as, G, (· ∈ as), none⟩
theorem St2.now (S : St2 Γ Θ as G M H) : St2 Γ (DL.now H as G) as G M H :=
  ⟨S.sub, Le.refl _, List.prefix_refl _, fun _ h => h, fun _ _ h _ => h, fun _ o h => ⟨o, h⟩, fun _ _ h => .inl h, S.len, S.nd, S.cel, fun _ h => .inl h, S.ain⟩
theorem St2.old (S : St2 Γ Θ as G M H) {a : Addr} (h : H a = none) : Θ.H a = none := by
  cases e : Θ.H a with
  | none => rfl
  | some o =>
    obtain ⟨o', z⟩ := S.pres a o e
    rw [h] at z; cases z
theorem Owns.inH (S : Sta Γ Θ as G M ρ σ H) {i : Nat} {a : Addr} (o : Owns ρ σ i a) : ∃ u, H a = some u := by
  obtain ⟨h, e⟩ := o
  rcases h with ⟨xs, h⟩ | ⟨c, ns, xs, h⟩
  · obtain ⟨b, vs, e1, e2, _⟩ := S.env i _ _ h e
    cases e1
    exact ⟨_, e2⟩
  · obtain ⟨b, dx, vs, e1, e2, _⟩ := S.env i _ _ h e
    cases e1
    exact ⟨_, e2⟩
/-- behind a call -/
theorem St2.after (S : St2 Γ Θ as G M H) (C : St2 Γ (DL.now H as G) as' G' M' H') : St2 Γ Θ as' G' M' H' where
  sub := C.sub
  grow := S.grow.trans C.grow
  ext := S.ext.trans C.ext
  esub := S.esub
  fr := fun a o h hm => C.fr a o (S.fr a o h hm) fun ha => by
    rcases S.cfr a ha with q | q
    · exact hm (S.esub a q)
    · rw [q] at h; cases h
  pres := fun a o h => by
    obtain ⟨o', e⟩ := S.pres a o h
    exact C.pres a o' e
  gfr := fun a o h => by
    rcases C.gfr a o h with q | q | q
    · exact S.gfr a o q
    · exact .inr (.inl (S.old q))
    · rcases S.cfr a q with q | q
      · exact .inr (.inr (S.esub a q))
      · exact .inr (.inl q)
  len := C.len
  nd := C.nd
  cel := C.cel
  cfr := fun a h => by
    rcases C.cfr a h with q | q
    · exact S.cfr a q
    · exact .inr (S.old q)
  ain := C.ain
theorem RepS.mono {s : Sl} {ov : Option V} (hG : Le G G') (ha : as <+: as') (hs : ∀ a, (∃ xs, s = .own xs) ∨ (∃ c ns xs, s = .obj c ns xs) → ov = some (.ref a) → H' a = H a) (h : RepS Γ as G H s ov) : RepS Γ as' G' H' s ov := by
  cases s with
  | mt => trivial
  | d x => obtain ⟨v, e, r⟩ := h; exact ⟨v, e, r.mono hG ha⟩
  | own xs => obtain ⟨a, vs, e, q, r⟩ := h; exact ⟨a, vs, e, (hs a (.inl ⟨_, rfl⟩) e).trans q, r.mono hG ha⟩
  | obj c ns xs => obtain ⟨a, dx, vs, e, q, l, r⟩ := h; exact ⟨a, dx, vs, e, (hs a (.inr ⟨_, _, _, rfl⟩) e).trans q, l, r.mono hG ha⟩
  | exn c xs => obtain ⟨a, d, e, q, r⟩ := h; exact ⟨a, d, e, q, r.mono hG ha⟩
  | lam => obtain ⟨f, as1, G1, e, q, p, l⟩ := h; exact ⟨f, as1, G1, e, q, p.trans ha, l.trans hG⟩
theorem Sta.after (S : Sta Γ Θ as G M ρ σ H) (C : St2 Γ (DL.now H as G) as' G' M' H') : Sta Γ Θ as' G' M' ρ σ H' := by
  have st : ∀ i a, Owns ρ σ i a → H' a = H a := fun i a o => by
    obtain ⟨u, e⟩ := Owns.inH S o
    rw [e]
    exact C.fr a u e (S.own i a o).2.1
  refine ⟨S.toSt2.after C, S.slen, fun i s ov h1 h2 => ?_, fun i a o => ?_, S.odj, S.slf⟩
  · refine RepS.mono C.grow C.ext (fun a hs e => ?_) (S.env i s ov h1 h2)
    subst e
    refine st i a ⟨?_, h2⟩
    rcases hs with ⟨xs, e⟩ | ⟨c, ns, xs, e⟩
    · exact .inl ⟨xs, e ▸ h1⟩
    · exact .inr ⟨c, ns, xs, e ▸ h1⟩
  · obtain ⟨h1, h2, h3⟩ := S.own i a o
    obtain ⟨u, e⟩ := Owns.inH S o
    refine ⟨?_, fun ha => ?_, h3⟩
    · cases z : G' a with
      | none => rfl
      | some w =>
        rcases C.gfr a w z with q | q | q
        · exact absurd (h1.symm.trans q) (by simp)
        · exact absurd (e.symm.trans q) (by simp)
        · exact absurd q h2
    · rcases C.cfr a ha with q | q
      · exact h2 q
      · exact absurd (e.symm.trans q) (by simp)
/-- a value goes into a slot -/
theorem Sta.set (S : Sta Γ Θ as G M ρ σ H) {d : D} {v : V} (i : Nat) (r : Rep Γ as G d v) : Sta Γ Θ as G M (ρ.set i (.d d)) (σ.set i (some v)) H := by
  have ow : ∀ j a, Owns (ρ.set i (.d d)) (σ.set i (some v)) j a → Owns ρ σ j a := fun j a ⟨h, e⟩ => by
    by_cases hj : i = j
    · subst hj
      rcases h with ⟨xs, h⟩ | ⟨c, ns, xs, h⟩ <;> (rw [List.getElem?_set_self'] at h; cases q : ρ[i]? <;> rw [q] at h <;> simp at h)
    · rw [List.getElem?_set_ne hj] at e
      rw [List.getElem?_set_ne hj] at h
      exact ⟨h, e⟩
  refine ⟨S.toSt2, by simp [S.slen], fun j s ov h1 h2 => ?_, fun j a o => S.own j a (ow j a o), fun j k a o1 o2 => S.odj j k a (ow j a o1) (ow k a o2), fun j c ns xs a h1 h2 => ?_⟩
  rotate_left
  · by_cases hj : i = j
    · subst hj
      rw [List.getElem?_set_self'] at h1
      cases q : ρ[i]? <;> rw [q] at h1 <;> simp at h1
    · rw [List.getElem?_set_ne hj] at h1 h2
      exact S.slf j c ns xs a h1 h2
  by_cases hj : i = j
  · subst hj
    rw [List.getElem?_set_self'] at h1 h2
    cases q : ρ[i]? with
    | none => rw [q] at h1; simp at h1
    | some z =>
      cases q2 : σ[i]? with
      | none => rw [q2] at h2; simp at h2
      | some z2 =>
        rw [q] at h1; rw [q2] at h2
        simp at h1 h2
        subst h1; subst h2
        exact ⟨v, rfl, r⟩
  · rw [List.getElem?_set_ne hj] at h1 h2
    exact S.env j s ov h1 h2
/-- a new thing that stands for good -/
theorem St2.lay (S : St2 Γ Θ as G M H) {p : Addr} {o : HO} (n : H p = none) : St2 Γ (DL.now H as G) as (upd G p o) M (upd H p o) := by
  have gp : G p = none := S.sub.free n
  have ap : p ∉ as ∨ True := .inr trivial
  refine ⟨fun a u h => ?_, Le.new gp, List.prefix_refl _, fun _ h => h, fun a u h _ => Le.new n a u h, fun a u h => ⟨u, Le.new n a u h⟩, fun a u h => ?_, S.len, S.nd, fun k a m h1 h2 h3 => ?_, fun _ h => .inl h, fun a h => by
    obtain ⟨o, e⟩ := S.ain a h
    exact ⟨o, Le.new n a o e⟩⟩
  · by_cases e : a = p
    · subst e; rw [upd_same] at h ⊢; exact h
    · rw [upd_ne e] at h ⊢; exact S.sub a u h
  · by_cases e : a = p
    · subst e; exact .inr (.inl n)
    · rw [upd_ne e] at h; exact .inl h
  · obtain ⟨c1, ⟨u, c2⟩, c3⟩ := S.cel k a m h1 h2 h3
    have e : a ≠ p := ne_of_none c2 n
    exact ⟨by rw [upd_ne e]; exact c1, ⟨u, by rw [upd_ne e]; exact c2⟩, c3.mono (Le.new gp) (List.prefix_refl _) (upd_ne e)⟩
/-- a new thing that is not tracked by the data -/
theorem St2.lay0 (S : St2 Γ Θ as G M H) {p : Addr} {o : HO} (n : H p = none) : St2 Γ (DL.now H as G) as G M (upd H p o) := by
  refine ⟨fun a u h => Le.new n a u (S.sub a u h), Le.refl _, List.prefix_refl _, fun _ h => h, fun a u h _ => Le.new n a u h, fun a u h => ⟨u, Le.new n a u h⟩, fun a u h => .inl h, S.len, S.nd, fun k a m h1 h2 h3 => ?_, fun _ h => .inl h, fun a h => by
    obtain ⟨o, e⟩ := S.ain a h
    exact ⟨o, Le.new n a o e⟩⟩
  obtain ⟨c1, ⟨u, c2⟩, c3⟩ := S.cel k a m h1 h2 h3
  have e : a ≠ p := ne_of_none c2 n
  exact ⟨c1, ⟨u, by rw [upd_ne e]; exact c2⟩, c3.mono (Le.refl _) (List.prefix_refl _) (upd_ne e)⟩
end

/-! ### displays -/
def szOk (n : Nat) : Bool := decide (n ≤ 16777216)
theorem szOk_le {n : Nat} (h : szOk n = true) : n ≤ sizeLine := by
  rw [sizeLine_eq]
  exact of_decide_eq_true h
def dTup (fa : FA) : FE := fun ρ M => (fa ρ M).bind fun ds M => if szOk ds.length then .ok (.tup ds) M else .bad
def dLst (fa : FA) : FE := fun ρ M => (fa ρ M).bind fun ds M => if szOk ds.length then .ok (.lst ds) M else .bad
section
variable {X : Cx} {Γ : Gam} {W : WX}
theorem Sta.lay {Θ : Ent} {as : List Addr} {G H : Hp} {M : List MO} {ρ : List Sl} {σ : L2.St} (S : Sta Γ Θ as G M ρ σ H) {p : Addr} {o : HO} (n : H p = none) : Sta Γ Θ as (upd G p o) M ρ σ (upd H p o) := S.after (S.toSt2.lay n)
theorem keepsNewTup {Θ : Ent} {as : List Addr} {G H : Hp} {M : List MO} {ρ : List Sl} {σ : L2.St} {ds : List D} {vs : List V} {Q : VK} (S : Sta Γ Θ as G M ρ σ H) (r : RepL Γ as G ds vs) (q : PostE Γ Θ W ρ σ as G Q (.ok (.tup ds) M)) {p : Addr} (n : H p = none) : Q (.ref p) (upd H p (.tup vs)) :=
  q _ _ _ _ (S.lay n) (Le.new (S.sub.free n)) (List.prefix_refl _) ⟨p, vs, rfl, .inl (.inl upd_same), r.mono (Le.new (S.sub.free n)) (List.prefix_refl _)⟩
theorem keepsNewLst {Θ : Ent} {as : List Addr} {G H : Hp} {M : List MO} {ρ : List Sl} {σ : L2.St} {ds : List D} {vs : List V} {Q : VK} (S : Sta Γ Θ as G M ρ σ H) (r : RepL Γ as G ds vs) (q : PostE Γ Θ W ρ σ as G Q (.ok (.lst ds) M)) {p : Addr} (n : H p = none) : Q (.ref p) (upd H p (.lst vs)) :=
  q _ _ _ _ (S.lay n) (Le.new (S.sub.free n)) (List.prefix_refl _) ⟨p, vs, rfl, upd_same, r.mono (Le.new (S.sub.free n)) (List.prefix_refl _)⟩
theorem q_tup {es : List Expr} {x1} {pos : Pos} {fa : FA} (h : PA X es (tA Γ W fa)) : PE X (.Tuple es x1 pos) (tE Γ W (dTup fa)) := PE.imp (pe_tup h) fun σ H Q ⟨Θ, as, G, M, ρ, S, q⟩ => by
  refine ⟨Θ, as, G, M, ρ, S, (PostE.bindA q).imp (Le.refl _) (List.prefix_refl _) ?_⟩
  rintro vs H1 ⟨ds, M1, as1, G1, S1, e1, p1, r, q1⟩
  split at q1
  · rename_i hz
    exact ⟨by rw [← r.length]; exact szOk_le hz, fun p n => keepsNewTup S1 r q1 n⟩
  · exact q1.elim
theorem q_lst {es : List Expr} {pos : Pos} {fa : FA} (h : PA X es (tA Γ W fa)) : PE X (.List es pos) (tE Γ W (dLst fa)) := PE.imp (pe_lst h) fun σ H Q ⟨Θ, as, G, M, ρ, S, q⟩ => by
  refine ⟨Θ, as, G, M, ρ, S, (PostE.bindA q).imp (Le.refl _) (List.prefix_refl _) ?_⟩
  rintro vs H1 ⟨ds, M1, as1, G1, S1, e1, p1, r, q1⟩
  split at q1
  · rename_i hz
    exact ⟨by rw [← r.length]; exact szOk_le hz, fun p n => keepsNewLst S1 r q1 n⟩
  · exact q1.elim
end

/-! ### defs -/
abbrev FN := List D → List MO → R D
def PostC (Γ : Gam) (Θ : Ent) (Q : VK) (E : XK) : R D → Prop
  | .ok d M => ∀ as' G' H' v, St2 Γ Θ as' G' M H' → Rep Γ as' G' d v → Q v H'
  | .ex c xs M => ∀ as' G' H' d, St2 Γ Θ as' G' M H' → XP Γ as' G' c xs d → E (.ref (Γ.eA c)) (some d) H'
  | .bad => False
def spF (Γ : Gam) (n : Nat) (F : FN) : Sp := fun vs H Q E => ∃ as G M ds, St2 Γ (DL.now H as G) as G M H ∧ RepL Γ as G ds vs ∧ ds.length = n ∧ PostC Γ (DL.now H as G) Q E (F ds M)
/-- a def's body, run at data -/
def start0 (n : Nat) (ds : List D) : List Sl := ds.map .d ++ List.replicate (n - ds.length) .mt
def runF (n : Nat) (f : FS) : FN := fun ds M => match f (start0 n ds) M with
  | .nx _ M => .ok .non M
  | .rt d M => .ok d M
  | .ex c xs _ M => .ex c xs M
  | _ => .bad
section
variable {Γ : Gam}
theorem RepL.iget : ∀ {as : List Addr} {G : Hp} {ds : List D} {vs : List V} {i : Nat} {v : V}, RepL Γ as G ds vs → vs[i]? = some v → ∃ d, ds[i]? = some d ∧ Rep Γ as G d v := fun {as G ds vs i v} r e => by
  have hi : i < ds.length := by rw [r.length]; exact (List.getElem?_eq_some_iff.mp e).1
  obtain ⟨w, e2, q⟩ := r.get (List.getElem?_eq_getElem hi)
  rw [e] at e2
  cases e2
  exact ⟨_, List.getElem?_eq_getElem hi, q⟩
theorem sta_start {as : List Addr} {G H : Hp} {M : List MO} {ds : List D} {vs : List V} {N : List Str} (S : St2 Γ (DL.now H as G) as G M H) (r : RepL Γ as G ds vs) : Sta Γ (DL.now H as G) as G M (start0 N.length ds) (L2.start N vs) H := by
  have noown : ∀ i a, ¬ Owns (start0 N.length ds) (L2.start N vs) i a := fun i a ⟨h, e⟩ => by
    have key : ∀ s, (start0 N.length ds)[i]? = some s → (∃ d, s = .d d) ∨ s = .mt := fun s hs => by
      unfold start0 at hs
      by_cases hi : i < (ds.map Sl.d).length
      · rw [List.getElem?_append_left hi, List.getElem?_map] at hs
        cases q : ds[i]? with
        | none => rw [q] at hs; simp at hs
        | some d => rw [q] at hs; exact .inl ⟨d, (Option.some.inj hs).symm⟩
      · rw [List.getElem?_append_right (Nat.le_of_not_lt hi), List.getElem?_replicate] at hs
        split at hs
        · exact .inr (Option.some.inj hs).symm
        · cases hs
    rcases h with ⟨xs, h⟩ | ⟨c, ns, xs, h⟩
    · rcases key _ h with ⟨d, e⟩ | e <;> cases e
    · rcases key _ h with ⟨d, e⟩ | e <;> cases e
  refine ⟨S, by simp [start0, L2.start, r.length], fun i s ov h1 h2 => ?_, fun i a o => absurd o (noown i a), fun i j a o => absurd o (noown i a), fun i c ns xs a h1 h2 => absurd ⟨.inr ⟨c, ns, xs, h1⟩, h2⟩ (noown i a)⟩
  unfold start0 at h1
  unfold L2.start at h2
  by_cases hi : i < vs.length
  · rw [List.getElem?_append_left (by simpa using hi), List.getElem?_map] at h2
    rw [List.getElem?_append_left (by simpa [r.length] using hi), List.getElem?_map] at h1
    rw [List.getElem?_eq_getElem hi] at h2
    have hi' : i < ds.length := by rw [r.length]; exact hi
    obtain ⟨w, e2, q⟩ := r.get (List.getElem?_eq_getElem hi')
    rw [List.getElem?_eq_getElem hi] at e2
    rw [List.getElem?_eq_getElem hi'] at h1
    simp at h1 h2 e2
    subst h1; subst h2
    exact ⟨_, rfl, by rw [e2]; exact q⟩
  · rw [List.getElem?_append_right (by simpa [r.length] using hi), List.getElem?_replicate] at h1
    split at h1
    · cases h1; trivial
    · cases h1
variable {P : Program} {w : World} {K : PySem.W.Frag} {mg : Str → Option Value} {base : Heap}
/-- a def of the text, with any defaults -/
structure Fn1 (K : PySem.W.Frag) (x qual : Str) (st : Stmt) (f : Addr) (fd : FuncData) : Prop where
  ex : ∃ (oc : Value) (od : Option Addr) (dV kV doc pm : Value) (an : Option Addr) (cdv ct : Value) (osl : Array (Option Value)),
    fd = PySem.W.fnOf x qual (defArgs st) (defBody st) (defScope st) dV kV doc pm an cdv ct ∧ K.lookup f = some ⟨oc, od, .func fd, osl⟩ ∧ PySem.W.codeIn K cdv qual = true
  kp : PySem.W.keepIn K (.ref f) = true
theorem Fn1.okX {x qual : Str} {st : Stmt} {f : Addr} {fd : FuncData} {N ps : List Str} {k : Nat} {sp : Sp} (F : Fn1 K x qual st f fd) (S : FnScope N ps (defScope st)) (len : ∀ vs H Q E, sp vs H Q E → vs.length = ps.length)
    (hbody : ∀ (cdv : Value) (A : Around) (outer : List Env) (s : Shared) (H : Hp) (vs : List V) (Q : VK) (E : XK), Room k (A.deeper (envOfC qual (defScope st) s.heap.objs.size f cdv)) → sp vs H Q E →
      ∃ t, PSs (cxOf (L2.CX P w) P w K mg base N qual (defScope st) f cdv A outer s H E) (defBody st) t ∧ t { nx := fun _ H' => Q .non H', rt := Q } (L2.start N vs) H) : FnOk P w K mg base (L2.CX P w) (k + 1) f fd ps sp := by
  obtain ⟨oc, od, dV, kV, doc, pm, an, cdv, ct, osl, rfl, lk, hcd⟩ := F.ex
  exact fn_of lk hcd S len fun A outer s H vs Q E hr hsp => hbody cdv A outer s H vs Q E hr hsp
/-- THE RULE of a def -/
theorem fn_ok {x qual : Str} {st : Stmt} {f : Addr} {fd : FuncData} {N ps : List Str} {k : Nat} {fb : FS} (F : Fn1 K x qual st f fd) (S : FnScope N ps (defScope st))
    (hbody : ∀ (cdv : Value) (A : Around) (outer : List Env) (s : Shared) (H : Hp) (E : XK), Room k (A.deeper (envOfC qual (defScope st) s.heap.objs.size f cdv)) →
      Takes (cxOf (L2.CX P w) P w K mg base N qual (defScope st) f cdv A outer s H E) (fun cls d _ H => E cls d H) →
      PSs (cxOf (L2.CX P w) P w K mg base N qual (defScope st) f cdv A outer s H E) (defBody st) (tS Γ (fun cls d _ H => E cls d H) fb)) :
    FnOk P w K mg base (L2.CX P w) (k + 1) f fd ps (spF Γ ps.length (runF N.length fb)) := by
  refine F.okX S (fun vs H Q E h => ?_) (fun cdv A outer s H vs Q E hr h => ⟨_, hbody cdv A outer s H E hr (takes_of rfl rfl rfl rfl), ?_⟩)
  · obtain ⟨as, G, M, ds, _, r, l, _⟩ := h
    rw [← r.length]; exact l
  · obtain ⟨as, G, M, ds, S2, r, l, q⟩ := h
    refine ⟨DL.now H as G, as, G, M, start0 N.length ds, sta_start S2 r, ?_⟩
    unfold runF at q
    cases e : fb (start0 N.length ds) M with
    | nx ρ M' => rw [e] at q; exact fun as' G' σ' H' s' => q as' G' H' _ s'.toSt2 rfl
    | rt d M' => rw [e] at q; exact fun as' G' H' v s' rv => q as' G' H' v s' rv
    | ex c xs ρ M' => rw [e] at q; exact fun as' G' σ' H' d s' x => q as' G' H' d s'.toSt2 x
    | bk ρ M' => rw [e] at q; exact q.elim
    | ct ρ M' => rw [e] at q; exact q.elim
    | bad => rw [e] at q; exact q.elim
end

/-! ### calls -/
def dCall (F : FN) (ddv : List D) (fa : FA) : FE := fun ρ M => (fa ρ M).bind fun ds M => F (ds ++ ddv) M
section
variable {X : Cx} {Γ : Gam} {W : WX}
/-- what a def promises, at a caller's state -/
theorem sp_of {Θ : Ent} {as : List Addr} {G H : Hp} {M : List MO} {ρ : List Sl} {σ : L2.St} {n : Nat} {F : FN} {ds : List D} {vs : List V} {Q : VK} (S : Sta Γ Θ as G M ρ σ H) (r : RepL Γ as G ds vs) (l : ds.length = n) (q : PostE Γ Θ W ρ σ as G Q (F ds M)) : spF Γ n F vs H Q (WE W σ) := by
  refine ⟨as, G, M, ds, S.toSt2.now, r, l, ?_⟩
  cases e : F ds M with
  | ok d M' => rw [e] at q; exact fun as' G' H' v C x => q as' G' H' v (S.after C) C.grow C.ext x
  | ex c xs M' => rw [e] at q; exact fun as' G' H' d C x => q as' G' H' d (S.after C) C.grow C.ext x
  | bad => rw [e] at q; exact q.elim
/-- as spF, but any number of arguments is told at the call -/
theorem keepsCall {n : Nat} {F : FN} {ddv : List D} {dvs : List V} (hdd : ∀ as G, RepL Γ as G ddv dvs) {σ : L2.St} {H : Hp} {Q : VK} {fa : FA} (h : tE Γ W (dCall (fun ds M => if ds.length = n then F ds M else .bad) ddv fa) σ H Q) :
    tA Γ W fa σ H fun vs H1 => spF Γ n F (vs ++ dvs) H1 Q (WE W σ) := by
  obtain ⟨Θ, as, G, M, ρ, S, q⟩ := h
  refine ⟨Θ, as, G, M, ρ, S, (PostE.bindA q).imp (Le.refl _) (List.prefix_refl _) ?_⟩
  rintro vs H1 ⟨ds, M1, as1, G1, S1, e1, p1, r, q1⟩
  dsimp only at q1
  split at q1
  · rename_i hl
    exact sp_of S1 (r.append (hdd _ _)) hl q1
  · exact q1.elim
abbrev lenIs (n : Nat) (F : FN) : FN := fun ds M => if ds.length = n then F ds M else .bad
theorem q_call {x : Str} {p pos : Pos} {e : Expr} {es : List Expr} {fa : FA} {k n : Nat} {f : Addr} {fd : FuncData} {ps : List Str} {F : FN} {ds : List Value} {dvs : List V} {ddv : List D}
    (Fo : FnOk X.prog X.w X.K X.mg X.base (L2.CX X.prog X.w) k f fd ps (spF Γ n F)) (hr : Room k X.A) (hg : Gl X x) (hm : X.mg x = some (.ref f)) (hk : PySem.W.keepIn X.K (.ref f) = true) (hb : Binds X.K fd ps ds) (hd : Vals dvs ds) (hdd : ∀ as G, RepL Γ as G ddv dvs) (tk : Takes X W)
    (ha : PA X (e :: es) (tA Γ W fa)) (hdb : (x == ("__debug__" : Str)) = false := by decide) (he : starEach (e :: es) X.env = (false, eval e X.env) :: starEach es X.env := by rfl) (hpl : (backTo pos (starEach es X.env)).any (·.1) = false := by rfl) :
    PE X (.Call (.Name x p) (e :: es) [] pos) (tE Γ W (dCall (lenIs n F) ddv fa)) :=
  PE.imp (pe_callSD Fo hr hg hm hk hb hd (fun σ => passAt tk σ) ha hdb he hpl) fun _ _ _ h => keepsCall hdd h
/-- o.m(e, ..), o data: an instance of the class of number c -/
def dMeth (c : Nat) (F : FN) (ddv : List D) (fo : FE) (fa : FA) : FE := fun ρ M => (fo ρ M).bind fun d M => match d with
  | .ins c' xs => if c' = c then (fa ρ M).bind fun ds M => F (.ins c' xs :: (ds ++ ddv)) M else .bad
  | .cel j => match M[j]? with
    | some (.obj c' _ _) => if c' = c then (fa ρ M).bind fun ds M => F (.cel j :: (ds ++ ddv)) M else .bad
    | _ => .bad
  | _ => .bad
end
end DL
set_option maxRecDepth 100000
namespace DL
open PySem PySem.Spec PyProof.Rows L2

/-! ### fields by name -/
def putN {α : Type} (f : Str) (d : α) : List Str → List α → List Str × List α
  | n :: ns, x :: xs => if n = f then (n :: ns, d :: xs) else (n :: (putN f d ns xs).1, x :: (putN f d ns xs).2)
  | _, _ => ([f], [d])
theorem putN_zip {f : Str} {y : V} : ∀ {ns : List Str} {vs : List V}, vs.length = ns.length → putF f y (ns.zip vs) = (putN f y ns vs).1.zip (putN f y ns vs).2
  | [], [], _ => rfl
  | n :: ns, v :: vs, h => by
    show (if n = f then (n, y) :: ns.zip vs else (n, v) :: putF f y (ns.zip vs)) = _
    unfold putN
    by_cases e : n = f
    · rw [if_pos e, if_pos e]; rfl
    · rw [if_neg e, if_neg e, putN_zip (by simpa using h)]; rfl
theorem putN_len {α : Type} {f : Str} {d : α} : ∀ {ns : List Str} {xs : List α}, xs.length = ns.length → (putN f d ns xs).2.length = (putN f d ns xs).1.length
  | [], [], _ => rfl
  | n :: ns, x :: xs, h => by
    unfold putN
    by_cases e : n = f
    · rw [if_pos e]; exact h
    · rw [if_neg e]; simpa using putN_len (f := f) (d := d) (ns := ns) (xs := xs) (by simpa using h)
theorem putN_rep {Γ : Gam} {as : List Addr} {G : Hp} {f : Str} {d : D} {v : V} (r : Rep Γ as G d v) : ∀ {ns : List Str} {xs : List D} {vs : List V}, RepL Γ as G xs vs → vs.length = ns.length → (putN f d ns xs).1 = (putN f v ns vs).1 ∧ RepL Γ as G (putN f d ns xs).2 (putN f v ns vs).2
  | [], [], vs, h, l => by cases h; exact ⟨rfl, RepL.cons r RepL.nil⟩
  | [], x :: xs, vs, h, l => by
    obtain ⟨w, ws, rfl, _, _⟩ := h
    simp at l
  | n :: ns, [], vs, h, l => by cases h; simp at l
  | n :: ns, x :: xs, vs, h, l => by
    obtain ⟨w, ws, rfl, rw', t⟩ := h
    unfold putN
    by_cases e : n = f
    · rw [if_pos e, if_pos e]; exact ⟨rfl, RepL.cons r t⟩
    · rw [if_neg e, if_neg e]
      obtain ⟨h1, h2⟩ := putN_rep r (ns := ns) t (by simpa using l)
      exact ⟨by rw [h1], RepL.cons rw' h2⟩
theorem zip_look {Γ : Gam} {as : List Addr} {G : Hp} {f : Str} {d : D} : ∀ {ns : List Str} {xs : List D} {vs : List V}, RepL Γ as G xs vs → (ns.zip xs).lookup f = some d → ∃ v, (ns.zip vs).lookup f = some v ∧ Rep Γ as G d v
  | [], xs, vs, h, e => by simp at e
  | n :: ns, [], vs, h, e => by simp at e
  | n :: ns, x :: xs, vs, h, e => by
    obtain ⟨w, ws, rfl, r, t⟩ := h
    rw [List.zip_cons_cons, List.lookup_cons] at e
    rw [List.zip_cons_cons, List.lookup_cons]
    cases q : f == n with
    | true => rw [q] at e; cases e; exact ⟨w, rfl, r⟩
    | false => rw [q] at e; exact zip_look t e

/-- what the text says of the classes whose instances are data -/
structure GOk (Γ : Gam) : Prop where
  cls : ∀ c f, f ∈ cn c → Cls Γ.K (Γ.cA c) ∧ NoAttr Γ.K (Γ.cA c) f
theorem look_mem {α : Type} {f : Str} {d : α} : ∀ {ns : List Str} {xs : List α}, (ns.zip xs).lookup f = some d → f ∈ ns
  | [], xs, e => by simp at e
  | n :: ns, [], e => by simp at e
  | n :: ns, x :: xs, e => by
    rw [List.zip_cons_cons, List.lookup_cons] at e
    cases q : f == n with
    | true => rw [beq_iff_eq.mp q]; exact List.mem_cons_self
    | false => rw [q] at e; exact List.mem_cons_of_mem _ (look_mem e)

def fldOf (f : Str) (M : List MO) : D → Option D
  | .ins c xs => ((cn c).zip xs).lookup f
  | .cel n => match M[n]? with
    | some (.obj c ns xs) => if f ∈ cn c then (ns.zip xs).lookup f else none
    | _ => none
  | _ => none
def ofOpt (o : Option D) (M : List MO) : R D := match o with
  | some d => .ok d M
  | none => .bad
def dFld (f : Str) (fo : FE) : FE := fun ρ M => (fo ρ M).bind fun d M => ofOpt (fldOf f M d) M
/-- self.f where self is being made -/
def dFldO (i : Nat) (f : Str) : FE := fun ρ M => match ρ[i]? with
  | some (.obj c ns xs) => if f ∈ cn c then ofOpt ((ns.zip xs).lookup f) M else .bad
  | _ => .bad
section
variable {X : Cx} {Γ : Gam} {W : WX}
theorem q_fld {o : Expr} {f : Str} {pos : Pos} {fo : FE} (T : GOk Γ) (hK : Γ.K = X.K) (ho : PE X o (tE Γ W fo)) (hb : attributeBase o f X.env (eval o X.env) = eval o X.env := by rfl) : PE X (.Attribute o f pos) (tE Γ W (dFld f fo)) := PE.imp (pe_fld ho hb) fun σ H Q ⟨Θ, as, G, M, ρ, S, q⟩ => by
  refine ⟨Θ, as, G, M, ρ, S, (PostE.bindE q).imp (Le.refl _) (List.prefix_refl _) ?_⟩
  rintro v H1 ⟨d, M1, as1, G1, S1, e1, p1, r, q1⟩
  unfold ofOpt at q1
  split at q1
  · rename_i y hy
    unfold fldOf at hy
    cases d with
    | ins c xs =>
      obtain ⟨a, dx, vs, e, g, l, rl⟩ := r
      obtain ⟨w, hw, rw'⟩ := zip_look rl hy
      obtain ⟨c1, c2⟩ := T.cls c f (look_mem hy)
      rw [hK] at c1 c2
      exact ⟨a, _, dx, _, w, e, S1.sub _ _ g, c1, c2, hw, q1 _ _ _ _ S1 (Le.refl _) (List.prefix_refl _) rw'⟩
    | cel n =>
      obtain ⟨a, ea, ev⟩ := r
      dsimp only at hy
      split at hy
      · rename_i c ns xs em
        split at hy
        · rename_i hf
          obtain ⟨c1, c2⟩ := T.cls c f hf
          rw [hK] at c1 c2
          obtain ⟨_, _, dx, vs, g, l, rl⟩ := S1.cel n a _ ea em (by simp)
          obtain ⟨w, hw, rw'⟩ := zip_look rl hy
          exact ⟨a, _, dx, _, w, ev, g, c1, c2, hw, q1 _ _ _ _ S1 (Le.refl _) (List.prefix_refl _) rw'⟩
        · cases hy
      · cases hy
    | _ => cases hy
  · exact q1.elim
theorem q_fldO {o : Expr} {f : Str} {pos : Pos} {i : Nat} (T : GOk Γ) (hK : Γ.K = X.K) (ho : PE X o (tVar i)) (hb : attributeBase o f X.env (eval o X.env) = eval o X.env := by rfl) : PE X (.Attribute o f pos) (tE Γ W (dFldO i f)) := PE.imp (pe_fld ho hb) fun σ H Q ⟨Θ, as, G, M, ρ, S, q⟩ => by
  unfold dFldO at q
  split at q
  · rename_i c ns xs hi
    split at q
    · rename_i hf
      unfold ofOpt at q
      split at q
      · rename_i y hy
        have hl : i < σ.length := by rw [← S.slen]; exact (List.getElem?_eq_some_iff.mp hi).1
        obtain ⟨a, dx, vs, e, g, l, rl⟩ := S.env i _ _ hi (List.getElem?_eq_getElem hl)
        obtain ⟨w, hw, rw'⟩ := zip_look rl hy
        obtain ⟨c1, c2⟩ := T.cls c f hf
        rw [hK] at c1 c2
        exact ⟨.ref a, by rw [List.getElem?_eq_getElem hl, e], a, _, dx, _, w, rfl, g, c1, c2, hw, q _ _ _ _ S (Le.refl _) (List.prefix_refl _) rw'⟩
      · exact q.elim
    · exact q.elim
  · exact q.elim

/-! ### methods -/
/-- o.m(e, ..), what is raised is wished for at the slots -/
def tMethW (C : Addr) (m : Str) (sp : Sp) (dvs : List V) (E : L2.St → XK) (ta : TE) (t : TA) : TE := fun σ H Q => ta σ H fun x H1 => ∃ a dx fs, x = .ref a ∧ H1 a = some (.ins C dx fs) ∧ fs.lookup m = none ∧
  t σ H1 fun vs H2 => sp (x :: (vs ++ dvs)) H2 Q (E σ)
section
variable {CX : CXT} {k : Nat} {f C : Addr} {fd : FuncData} {ps : List Str} {sp : Sp} {dvs : List V} {ds : List Value} {E : L2.St → XK} {x m : Str} {p pos apos : Pos} {e o : Expr} {es : List Expr} {ta : TE} {t : TA}
theorem pe_methW {pl : Sem Bool} (he : PE X o ta) (c : Cls X.K C) (hm : Meth X.K C m f) (F : FnOk X.prog X.w X.K X.mg X.base CX k f fd ps sp) (hr : Room k X.A) (hb : Binds X.K fd ps ds) (hd : Vals dvs ds) (hx : ∀ σ, PassesAt CX X σ (E σ)) (ha : PA X (e :: es) t)
    (hst : starEach (e :: es) X.env = (false, eval e X.env) :: starEach es X.env := by rfl) (hpl : (backTo pos (starEach es X.env)).any (·.1) = false := by rfl)
    (ht : eval (.Call (.Attribute o m apos) (e :: es) [] pos) X.env = (do
      let ov ← eval o X.env
      standAt apos.atName
      let (f, first) ← holding [ov] (getMethod ov m pl)
      callWith pos f first (backTo pos (starEach (e :: es) X.env)) (backToKw pos (keywordEach [] X.env))) := by rfl) :
    PE X (.Call (.Attribute o m apos) (e :: es) [] pos) (tMethW C m sp dvs E ta t) :=
  ⟨fun pins s σ H Q I h => PySem.W.methodCall_KW (pl := pl) (thn (he.run pins s σ H _ I h) fun u s1 ⟨x, H1, I1, rx, a, dx, fs, ex, ea, l, q⟩ => by
    cases ex
    cases rx
    exact getmeth_ok I1 ea c hm l (PySem.W.callWith_K (first := [.ref a]) (h₀ := X.base) I.ok.mod.kin hm.kp (thn (ha.run pos pins s1 σ H1 _ I1 q) fun us s2 ⟨vs, H2, I2, r, q2⟩ =>
      ⟨I2.kIn, run_fnSD (us := .ref a :: us) (vs := .ref a :: vs) F hr hb hd (hx σ) I2 (.cons rfl r) q2⟩) hst hpl)) ht⟩
theorem pe_methW0 {pl : Sem Bool} (he : PE X o ta) (c : Cls X.K C) (hm : Meth X.K C m f) (F : FnOk X.prog X.w X.K X.mg X.base CX k f fd ps sp) (hr : Room k X.A) (hb : Binds X.K fd ps ds) (hd : Vals dvs ds) (hx : ∀ σ, PassesAt CX X σ (E σ))
    (ht : eval (.Call (.Attribute o m apos) [] [] pos) X.env = (do
      let ov ← eval o X.env
      standAt apos.atName
      let (f, first) ← holding [ov] (getMethod ov m pl)
      callWith pos f first (backTo pos (starEach [] X.env)) (backToKw pos (keywordEach [] X.env))) := by rfl) :
    PE X (.Call (.Attribute o m apos) [] [] pos) (tMethW C m sp dvs E ta tNil) :=
  ⟨fun pins s σ H Q I h => PySem.W.methodCall_KW (pl := pl) (thn (he.run pins s σ H _ I h) fun u s1 ⟨x, H1, I1, rx, a, dx, fs, ex, ea, l, q⟩ => by
    cases ex
    cases rx
    exact getmeth_ok I1 ea c hm l (PySem.W.callWith_K0 (first := [.ref a]) I1.kIn hm.kp (run_fnSD (us := [.ref a]) (vs := [.ref a]) F hr hb hd (hx σ) I1 (.cons rfl .nil) q))) ht⟩
end
theorem zip_nolook {α : Type} {m : Str} : ∀ {ns : List Str} {xs : List α}, m ∉ ns → (ns.zip xs).lookup m = none
  | [], xs, _ => by simp
  | n :: ns, [], _ => by simp
  | n :: ns, x :: xs, h => by
    rw [List.zip_cons_cons, List.lookup_cons]
    have e : (m == n) = false := by
      cases q : m == n with
      | false => rfl
      | true => exact absurd (by rw [beq_iff_eq.mp q]; exact List.mem_cons_self) h
    rw [e]
    exact zip_nolook fun z => h (List.mem_cons_of_mem _ z)
/-- which cells hold an instance of class c whose own attributes don't hide m -/
def isIns (c : Nat) (m : Str) (M : List MO) : D → Bool
  | .ins c' _ => c' = c && !(cn c).contains m
  | .cel j => match M[j]? with
    | some (.obj c' ns _) => c' = c && !ns.contains m
    | _ => false
  | _ => false
theorem isIns_at {c : Nat} {m : Str} {Θ : Ent} {as : List Addr} {G H : Hp} {M : List MO} (S : St2 Γ Θ as G M H) {d : D} {v : V} (r : Rep Γ as G d v) (h : isIns c m M d = true) : ∃ a dx fs, v = .ref a ∧ H a = some (.ins (Γ.cA c) dx fs) ∧ fs.lookup m = none := by
  cases d with
  | ins c' xs =>
    obtain ⟨a, dx, vs, e, g, l, _⟩ := r
    unfold isIns at h
    simp only [Bool.and_eq_true, decide_eq_true_eq, Bool.not_eq_true'] at h
    obtain ⟨rfl, h2⟩ := h
    exact ⟨a, dx, _, e, S.sub _ _ g, zip_nolook fun z => by rw [List.contains_iff_mem.mpr z] at h2; cases h2⟩
  | cel j =>
    obtain ⟨a, ea, ev⟩ := r
    unfold isIns at h
    dsimp only at h
    split at h
    · rename_i c' ns xs em
      simp only [Bool.and_eq_true, decide_eq_true_eq, Bool.not_eq_true'] at h
      obtain ⟨rfl, h2⟩ := h
      obtain ⟨_, _, dx, vs, g, l, rl⟩ := S.cel j a _ ea em (by simp)
      exact ⟨a, dx, _, ev, g, zip_nolook fun z => by rw [List.contains_iff_mem.mpr z] at h2; cases h2⟩
    · cases h
  | _ => cases h
def dMethC (c : Nat) (m : Str) (F : FN) (ddv : List D) (fo : FE) (fa : FA) : FE := fun ρ M => (fo ρ M).bind fun d M => if isIns c m M d then (fa ρ M).bind fun ds M => F (d :: (ds ++ ddv)) M else .bad
theorem keepsMeth {c : Nat} {m : Str} {n : Nat} {F : FN} {ddv : List D} {dvs : List V} (hdd : ∀ as G, RepL Γ as G ddv dvs) {fo : FE} {fa : FA} {σ : L2.St} {H : Hp} {Q : VK} (h : tE Γ W (dMethC c m (lenIs n F) ddv fo fa) σ H Q) :
    tMethW (Γ.cA c) m (spF Γ n F) dvs (WE W) (tE Γ W fo) (tA Γ W fa) σ H Q := by
  obtain ⟨Θ, as, G, M, ρ, S, q⟩ := h
  refine ⟨Θ, as, G, M, ρ, S, (PostE.bindE q).imp (Le.refl _) (List.prefix_refl _) ?_⟩
  rintro v H1 ⟨d, M1, as1, G1, S1, e1, p1, r, q1⟩
  split at q1
  · rename_i hc
    obtain ⟨a, dx, fs, ev, g, hl⟩ := isIns_at S1.toSt2 r hc
    refine ⟨a, dx, fs, ev, g, hl, Θ, as1, G1, M1, ρ, S1, (PostE.bindA q1).imp (Le.refl _) (List.prefix_refl _) ?_⟩
    rintro vs H2 ⟨ds, M2, as2, G2, S2, e2, p2, rs, q2⟩
    dsimp only [lenIs] at q2
    split at q2
    · rename_i hz
      exact sp_of S2 (RepL.cons (r.mono e2 p2) (rs.append (hdd _ _))) hz q2
    · exact q2.elim
  · exact q1.elim
theorem q_meth {c : Nat} {k n : Nat} {f : Addr} {fd : FuncData} {ps : List Str} {F : FN} {dvs : List V} {ddv : List D} {ds : List Value} {m : Str} {pos apos : Pos} {e o : Expr} {es : List Expr} {fo : FE} {fa : FA} {pl : Sem Bool} (he : PE X o (tE Γ W fo)) (cl : Cls X.K (Γ.cA c)) (hm : Meth X.K (Γ.cA c) m f) (Fo : FnOk X.prog X.w X.K X.mg X.base (L2.CX X.prog X.w) k f fd ps (spF Γ n F))
    (hr : Room k X.A) (hb : Binds X.K fd ps ds) (hd : Vals dvs ds) (hdd : ∀ as G, RepL Γ as G ddv dvs) (tk : Takes X W) (ha : PA X (e :: es) (tA Γ W fa))
    (hst : starEach (e :: es) X.env = (false, eval e X.env) :: starEach es X.env := by rfl) (hpl : (backTo pos (starEach es X.env)).any (·.1) = false := by rfl)
    (ht : eval (.Call (.Attribute o m apos) (e :: es) [] pos) X.env = (do
      let ov ← eval o X.env
      standAt apos.atName
      let (f, first) ← holding [ov] (getMethod ov m pl)
      callWith pos f first (backTo pos (starEach (e :: es) X.env)) (backToKw pos (keywordEach [] X.env))) := by rfl) :
    PE X (.Call (.Attribute o m apos) (e :: es) [] pos) (tE Γ W (dMethC c m (lenIs n F) ddv fo fa)) := PE.imp (pe_methW he cl hm Fo hr hb hd (fun σ => passAt tk σ) ha hst hpl ht) fun _ _ _ h => keepsMeth hdd h
theorem keepsMeth0 {c : Nat} {m : Str} {n : Nat} {F : FN} {ddv : List D} {dvs : List V} (hdd : ∀ as G, RepL Γ as G ddv dvs) {fo : FE} {σ : L2.St} {H : Hp} {Q : VK} (h : tE Γ W (dMethC c m (lenIs n F) ddv fo aNil) σ H Q) :
    tMethW (Γ.cA c) m (spF Γ n F) dvs (WE W) (tE Γ W fo) tNil σ H Q := by
  obtain ⟨Θ, as, G, M, ρ, S, q⟩ := h
  refine ⟨Θ, as, G, M, ρ, S, (PostE.bindE q).imp (Le.refl _) (List.prefix_refl _) ?_⟩
  rintro v H1 ⟨d, M1, as1, G1, S1, e1, p1, r, q1⟩
  split at q1
  · rename_i hc
    obtain ⟨a, dx, fs, ev, g, hl⟩ := isIns_at S1.toSt2 r hc
    have q2 : PostE Γ Θ W ρ σ as1 G1 Q (lenIs n F (d :: ([] ++ ddv)) M1) := q1
    dsimp only [lenIs] at q2
    split at q2
    · rename_i hz
      exact ⟨a, dx, fs, ev, g, hl, sp_of S1 (RepL.cons r (RepL.nil.append (hdd _ _))) hz q2⟩
    · exact q2.elim
  · exact q1.elim
theorem q_meth0 {c : Nat} {k n : Nat} {f : Addr} {fd : FuncData} {ps : List Str} {F : FN} {dvs : List V} {ddv : List D} {ds : List Value} {m : Str} {pos apos : Pos} {o : Expr} {fo : FE} {pl : Sem Bool} (he : PE X o (tE Γ W fo)) (cl : Cls X.K (Γ.cA c)) (hm : Meth X.K (Γ.cA c) m f) (Fo : FnOk X.prog X.w X.K X.mg X.base (L2.CX X.prog X.w) k f fd ps (spF Γ n F))
    (hr : Room k X.A) (hb : Binds X.K fd ps ds) (hd : Vals dvs ds) (hdd : ∀ as G, RepL Γ as G ddv dvs) (tk : Takes X W)
    (ht : eval (.Call (.Attribute o m apos) [] [] pos) X.env = (do
      let ov ← eval o X.env
      standAt apos.atName
      let (f, first) ← holding [ov] (getMethod ov m pl)
      callWith pos f first (backTo pos (starEach [] X.env)) (backToKw pos (keywordEach [] X.env))) := by rfl) :
    PE X (.Call (.Attribute o m apos) [] [] pos) (tE Γ W (dMethC c m (lenIs n F) ddv fo aNil)) := PE.imp (pe_methW0 he cl hm Fo hr hb hd (fun σ => passAt tk σ) ht) fun _ _ _ h => keepsMeth0 hdd h
end
end DL
set_option maxRecDepth 100000
namespace DL
open PySem PySem.Spec PyProof.Rows L2

/-! ### an instance that is data: made by its __init__ -/
/-- the entry of an __init__: self at x may change -/
abbrev nowI (H : Hp) (as : List Addr) (G : Hp) (x : Addr) : Ent := ⟨H, as, G, fun a => a ∈ as ∨ a = x, some x⟩
def PostI (Γ : Gam) (Θ : Ent) (c : Nat) (x : Addr) (Q : VK) (E : XK) : R (List D) → Prop
  | .ok xs M => ∀ as' G' H' dx vs, St2 Γ Θ as' G' M H' → G' x = none → x ∉ as' → H' x = some (.ins (Γ.cA c) dx ((cn c).zip vs)) → vs.length = (cn c).length → RepL Γ as' G' xs vs → Q .non H'
  | .ex e xs M => ∀ as' G' H' d, St2 Γ Θ as' G' M H' → XP Γ as' G' e xs d → E (.ref (Γ.eA e)) (some d) H'
  | .bad => False
def spI (Γ : Gam) (c n : Nat) (F : List D → List MO → R (List D)) : Sp := fun vs H Q E => ∃ as G M ds x dx ws, vs = .ref x :: ws ∧ St2 Γ (DL.now H as G) as G M H ∧ H x = some (.ins (Γ.cA c) dx []) ∧ G x = none ∧ x ∉ as ∧
  RepL Γ as G ds ws ∧ ds.length = n ∧ PostI Γ (nowI H as G x) c x Q E (F ds M)
def runI (c n : Nat) (f : FS) (ds : List D) (M : List MO) : R (List D) := match f (.obj c [] [] :: start0 n ds) M with
  | .nx ρ M => match ρ[0]? with
    | some (Sl.obj c' ns xs) => if c' = c ∧ ns = cn c then .ok xs M else .bad
    | _ => .bad
  | .ex e xs _ M => .ex e xs M
  | _ => .bad
section
variable {Γ : Gam}
theorem sta_startI {as : List Addr} {G H : Hp} {M : List MO} {ds : List D} {vs : List V} {N : List Str} {c : Nat} {x dx : Addr} {p : Str} (S : St2 Γ (DL.now H as G) as G M H) (r : RepL Γ as G ds vs) (hx : H x = some (.ins (Γ.cA c) dx [])) (gx : G x = none) (ax : x ∉ as) :
    Sta Γ (nowI H as G x) as G M (.obj c [] [] :: start0 N.length ds) (L2.start (p :: N) (.ref x :: vs)) H := by
  have S0 := sta_start (N := N) S r
  have es : L2.start (p :: N) (.ref x :: vs) = some (.ref x) :: L2.start N vs := by simp [L2.start]
  rw [es]
  have ow : ∀ i a, Owns (.obj c [] [] :: start0 N.length ds) (some (.ref x) :: L2.start N vs) i a → i = 0 ∧ a = x := fun i a ⟨h, e⟩ => by
    cases i with
    | zero => simp at e; exact ⟨rfl, e.symm⟩
    | succ i =>
      exfalso
      simp only [List.getElem?_cons_succ] at h e
      have o : Owns (start0 N.length ds) (L2.start N vs) i a := ⟨h, e⟩
      have key : ∀ s, (start0 N.length ds)[i]? = some s → (∃ d, s = .d d) ∨ s = .mt := fun s hs => by
        unfold start0 at hs
        by_cases hi : i < (ds.map Sl.d).length
        · rw [List.getElem?_append_left hi, List.getElem?_map] at hs
          cases q : ds[i]? with
          | none => rw [q] at hs; simp at hs
          | some d => rw [q] at hs; exact .inl ⟨d, (Option.some.inj hs).symm⟩
        · rw [List.getElem?_append_right (Nat.le_of_not_lt hi), List.getElem?_replicate] at hs
          split at hs
          · exact .inr (Option.some.inj hs).symm
          · cases hs
      rcases h with ⟨xs, h⟩ | ⟨c, ns, xs, h⟩ <;> rcases key _ h with ⟨d, e⟩ | e <;> cases e
  refine ⟨⟨S.sub, Le.refl _, List.prefix_refl _, fun _ h => .inl h, fun _ _ h _ => h, fun _ o h => ⟨o, h⟩, fun _ _ h => .inl h, S.len, S.nd, S.cel, fun _ h => .inl h, S.ain⟩, by simp [S0.slen], fun i s ov h1 h2 => ?_, fun i a o => ?_, fun i j a o1 o2 => ?_, fun i c ns xs a h1 h2 => ?_⟩
  · cases i with
    | zero =>
      simp at h1 h2
      subst h1; subst h2
      exact ⟨x, dx, [], rfl, hx, rfl, RepL.nil⟩
    | succ i => exact S0.env i s ov (by simpa using h1) (by simpa using h2)
  · obtain ⟨rfl, rfl⟩ := ow i a o
    exact ⟨gx, ax, .inr (.inr rfl)⟩
  · rw [(ow i a o1).1, (ow j a o2).1]
  · rw [(ow i a ⟨.inr ⟨c, ns, xs, h1⟩, h2⟩).2]
variable {P : Program} {w : World} {K : PySem.W.Frag} {mg : Str → Option Value} {base : Heap}
theorem init_ok {x qual p : Str} {st : Stmt} {f : Addr} {fd : FuncData} {N ps : List Str} {k c : Nat} {fb : FS} (F : Fn1 K x qual st f fd) (S : FnScope (p :: N) (p :: ps) (defScope st))
    (hbody : ∀ (cdv : Value) (A : Around) (outer : List Env) (s : Shared) (H : Hp) (E : XK), Room k (A.deeper (envOfC qual (defScope st) s.heap.objs.size f cdv)) →
      Takes (cxOf (L2.CX P w) P w K mg base (p :: N) qual (defScope st) f cdv A outer s H E) (fun cls d _ H => E cls d H) →
      PSs (cxOf (L2.CX P w) P w K mg base (p :: N) qual (defScope st) f cdv A outer s H E) (defBody st) (tS Γ (fun cls d _ H => E cls d H) fb)) :
    FnOk P w K mg base (L2.CX P w) (k + 1) f fd (p :: ps) (spI Γ c ps.length (runI c N.length fb)) := by
  refine F.okX S (fun vs H Q E h => ?_) (fun cdv A outer s H vs Q E hr h => ⟨_, hbody cdv A outer s H E hr (takes_of rfl rfl rfl rfl), ?_⟩)
  · obtain ⟨as, G, M, ds, x, dx, ws, rfl, _, _, _, _, r, l, _⟩ := h
    simp [← r.length, l]
  · obtain ⟨as, G, M, ds, x, dx, ws, rfl, S2, hx, gx, ax, r, l, q⟩ := h
    refine ⟨nowI H as G x, as, G, M, _, sta_startI S2 r hx gx ax, ?_⟩
    unfold runI at q
    cases e : fb (.obj c [] [] :: start0 N.length ds) M with
    | nx ρ M' =>
      rw [e] at q
      dsimp only at q
      split at q
      · rename_i c' ns xs h0
        split at q
        · rename_i hc
          obtain ⟨rfl, rfl⟩ := hc
          intro as' G' σ' H' s'
          have hl : 0 < σ'.length := by rw [← s'.slen]; exact (List.getElem?_eq_some_iff.mp h0).1
          obtain ⟨a, dx', vs, e1, e2, e3, e4⟩ := s'.env 0 _ _ h0 (List.getElem?_eq_getElem hl)
          have ow : Owns ρ σ' 0 a := ⟨.inr ⟨_, _, _, h0⟩, by rw [List.getElem?_eq_getElem hl, e1]⟩
          obtain ⟨o1, o2, o3⟩ := s'.own 0 a ow
          have ex : x = a := Option.some.inj (s'.slf 0 _ _ _ a h0 (by rw [List.getElem?_eq_getElem hl, e1]))
          subst ex
          exact q as' G' H' dx' vs s'.toSt2 o1 o2 e2 e3 e4
        · exact q.elim
      · exact q.elim
    | rt d M' => rw [e] at q; exact q.elim
    | ex c xs ρ M' => rw [e] at q; exact fun as' G' σ' H' d s' x => q as' G' H' d s'.toSt2 x
    | bk ρ M' => rw [e] at q; exact q.elim
    | ct ρ M' => rw [e] at q; exact q.elim
    | bad => rw [e] at q; exact q.elim
end

section
variable {Γ : Gam} {Θ : Ent} {as as' : List Addr} {G G' H H' H1 : Hp} {M M' : List MO}
/-- what stood as one's own stands for good -/
theorem St2.freeze (S : St2 Γ Θ as G M H) {x : Addr} {o : HO} (g : G x = none) (h : H x = some o) (e : Θ.H x = none ∨ Θ.mu x) (a : x ∉ as) : St2 Γ Θ as (upd G x o) M H where
  sub := fun b u hb => by
    by_cases q : b = x
    · subst q; rw [upd_same] at hb; rw [h, hb]
    · rw [upd_ne q] at hb; exact S.sub b u hb
  grow := S.grow.trans (Le.new g)
  ext := S.ext
  esub := S.esub
  fr := S.fr
  pres := S.pres
  gfr := fun b u hb => by
    by_cases q : b = x
    · subst q; exact .inr e
    · rw [upd_ne q] at hb; exact S.gfr b u hb
  len := S.len
  nd := S.nd
  cel := fun k b m h1 h2 h3 => by
    obtain ⟨c1, c2, c3⟩ := S.cel k b m h1 h2 h3
    have q : b ≠ x := fun z => a (by rw [← z]; exact List.mem_of_getElem? h1)
    exact ⟨by rw [upd_ne q]; exact c1, c2, c3.mono (Le.new g) (List.prefix_refl _) rfl⟩
  cfr := S.cfr
  ain := S.ain
/-- behind an __init__ -/
theorem St2.made {x dx : Addr} {u v : HO} (nx : H x = none) (nd : H dx = none) (ne : dx ≠ x) (C : St2 Γ (nowI (upd (upd H dx u) x v) as G x) as' G' M' H') : St2 Γ (DL.now H as G) as' G' M' H' := by
  have up : ∀ a o, H a = some o → (upd (upd H dx u) x v) a = some o := fun a o h => by rw [upd_ne (ne_of_none h nx), upd_ne (ne_of_none h nd)]; exact h
  have dn : ∀ a, (upd (upd H dx u) x v) a = none → H a = none := fun a h => by
    cases q : H a with
    | none => rfl
    | some o => rw [up a o q] at h; cases h
  refine ⟨C.sub, C.grow, C.ext, fun _ h => h, fun a o h ha => C.fr a o (up a o h) fun z => ?_, fun a o h => C.pres a o (up a o h), fun a o h => ?_, C.len, C.nd, C.cel, fun a h => ?_, C.ain⟩
  · rcases z with z | z
    · exact ha z
    · exact ne_of_none h nx z
  · rcases C.gfr a o h with q | q | q | q
    · exact .inl q
    · exact .inr (.inl (dn a q))
    · exact .inr (.inr q)
    · exact .inr (.inl (by rw [q]; exact nx))
  · rcases C.cfr a h with q | q
    · exact .inl q
    · exact .inr (dn a q)
end

section
variable {X : Cx} {Γ : Gam} {W : WX}
/-- C(..): what is raised is wished for at the slots -/
def tMakeW (C : Addr) (sp : Sp) (dvs : List V) (E : L2.St → XK) (t : TA) : TE := fun σ H Q => t σ H fun vs H1 => ∀ x dx, H1 x = none → H1 dx = none → dx ≠ x →
  sp (.ref x :: (vs ++ dvs)) (upd (upd H1 dx (.own x)) x (.ins C dx [])) (fun v H2 => v = .non ∧ Q (.ref x) H2) (E σ)
section
variable {CX : CXT} {k : Nat} {f C : Addr} {fd : FuncData} {ps : List Str} {sp : Sp} {dvs : List V} {ds : List Value} {E : L2.St → XK} {x : Str} {p pos : Pos} {e : Expr} {es : List Expr} {t : TA}
theorem run_makeW {pins : List (Addr × Obj)} {σ : L2.St} {H : Hp} {s : Shared} {Q : VK} {us : List Value} {vs : List V} (M : Mk X.K C f) (F : FnOk X.prog X.w X.K X.mg X.base CX k f fd ps sp) (hr : Room (k + 1) X.A) (hb : Binds X.K fd ps ds) (hd : Vals dvs ds)
    (hx : ∀ σ, PassesAt CX X σ (E σ)) (I : Inv X pins σ H s) (r : Vals vs us)
    (h : ∀ x dx, H x = none → H dx = none → dx ≠ x → sp (.ref x :: (vs ++ dvs)) (upd (upd H dx (.own x)) x (.ins C dx [])) (fun v H2 => v = .non ∧ Q (.ref x) H2) (E σ)) :
    wpAny (model X.prog X.w) X.A (call (.ref C) us) (EP X pins σ Q) X.xe s := by
  generalize hz : s.heap.objs.size = z at *
  have hq := h (z + 1) z (I.hok.fresh (by rw [hz]; exact Nat.le_succ z)) (I.hok.fresh (by rw [hz]; exact Nat.le_refl z)) (Nat.ne_of_lt (Nat.lt_succ_self z))
  have I2 := Inv.made (C := C) I
  rw [hz] at I2
  have r2 : Vals (V.ref (z + 1) :: (vs ++ dvs)) (Value.ref (z + 1) :: (us ++ ds)) := .cons rfl (r.append hd)
  have hl : (Value.ref (z + 1) :: us ++ ds).length = ps.length := (r2.length.symm.trans (F.len _ _ _ _ hq))
  refine wpAny_call (make_map (f := f) I.kIn M.makes M.init (beq_iff_eq.mp M.fn) ?_)
  rw [hz]
  refine codeAny_mono (F.run _ X.stack _ _ ⟨Value.ref (z + 1) :: us, []⟩ (Value.ref (z + 1) :: (us ++ ds)) _ _ (E σ) (hr.make C us []) (I2.env0.make C us []) (hb _ (Value.ref (z + 1) :: us) I2.kIn hl) r2 hq) fun r s' hq' => ?_
  match r, hq' with
  | .error e, hq' => exact hx σ pins _ _ e s' I2 hq'
  | .ok (.ret u), hq' =>
    obtain ⟨v, H', I3, rv, ev, q3⟩ := I2.after hq'
    cases ev
    exact ⟨rv, .ref (z + 1), H', I3, rfl, q3⟩
theorem pe_makeW (M : Mk X.K C f) (F : FnOk X.prog X.w X.K X.mg X.base CX k f fd ps sp) (hr : Room (k + 1) X.A) (hg : Gl X x) (hm : X.mg x = some (.ref C)) (hb : Binds X.K fd ps ds) (hd : Vals dvs ds) (hx : ∀ σ, PassesAt CX X σ (E σ))
    (ha : PA X (e :: es) t) (hdb : (x == ("__debug__" : Str)) = false := by decide) (he : starEach (e :: es) X.env = (false, eval e X.env) :: starEach es X.env := by rfl) (hpl : (backTo pos (starEach es X.env)).any (·.1) = false := by rfl) :
    PE X (.Call (.Name x p) (e :: es) [] pos) (tMakeW C sp dvs E t) :=
  ⟨fun pins s σ H Q I h => wpAny_Call_Name_kw (ld_glob I hg hm (PySem.W.callWith_K (h₀ := X.base) I.ok.mod.kin M.kp (thn (ha.run pos pins s σ H _ I h) fun us s1 ⟨vs, H1, I1, r, q⟩ => ⟨I1.kIn, run_makeW M F hr hb hd hx I1 r q⟩) he hpl) hdb)⟩
end
def dMake (c n : Nat) (F : List D → List MO → R (List D)) (ddv : List D) (fa : FA) : FE := fun ρ M => (fa ρ M).bind fun ds M => if (ds ++ ddv).length = n then (F (ds ++ ddv) M).bind fun xs M => .ok (.ins c xs) M else .bad
theorem q_make {c n k : Nat} {f : Addr} {fd : FuncData} {ps : List Str} {F : List D → List MO → R (List D)} {dvs : List V} {ddv : List D} {ds : List Value} {x : Str} {p pos : Pos} {e : Expr} {es : List Expr} {fa : FA} (Mm : Mk X.K (Γ.cA c) f) (Fo : FnOk X.prog X.w X.K X.mg X.base (L2.CX X.prog X.w) k f fd ps (spI Γ c n F)) (hr : Room (k + 1) X.A) (hg : Gl X x) (hm : X.mg x = some (.ref (Γ.cA c)))
    (hb : Binds X.K fd ps ds) (hd : Vals dvs ds) (hdd : ∀ as G, RepL Γ as G ddv dvs) (tk : Takes X W) (ha : PA X (e :: es) (tA Γ W fa))
    (hdb : (x == ("__debug__" : Str)) = false := by decide) (he : starEach (e :: es) X.env = (false, eval e X.env) :: starEach es X.env := by rfl) (hpl : (backTo pos (starEach es X.env)).any (·.1) = false := by rfl) :
    PE X (.Call (.Name x p) (e :: es) [] pos) (tE Γ W (dMake c n F ddv fa)) := PE.imp (pe_makeW Mm Fo hr hg hm hb hd (fun σ => passAt tk σ) ha hdb he hpl) fun σ H Q ⟨Θ, as, G, M, ρ, S, q⟩ => by
  refine ⟨Θ, as, G, M, ρ, S, (PostE.bindA q).imp (Le.refl _) (List.prefix_refl _) ?_⟩
  rintro vs H1 ⟨ds, M1, as1, G1, S1, e1, p1, r, q1⟩ x dx nx ndx ne
  split at q1
  · rename_i hl
    have hx : (upd H1 dx (.own x)) x = none := by rw [upd_ne (Ne.symm ne)]; exact nx
    have C1 : St2 Γ (DL.now H1 as1 G1) as1 G1 M1 (upd (upd H1 dx (.own x)) x (.ins (Γ.cA c) dx [])) := (S1.toSt2.lay0 ndx).after ((S1.toSt2.lay0 (o := .own x) ndx).lay0 hx)
    have gx : G1 x = none := S1.sub.free nx
    have ax : x ∉ as1 := fun z => by
      obtain ⟨o, h⟩ := S1.ain x z
      rw [nx] at h; cases h
    refine ⟨as1, G1, M1, ds ++ ddv, x, dx, vs ++ dvs, rfl, C1.now, upd_same, gx, ax, r.append (hdd _ _), hl, ?_⟩
    cases eF : F (ds ++ ddv) M1 with
    | ok xs M' =>
      rw [eF] at q1
      intro as' G' H' dx' ws C2 g2 a2 h2 l2 r2
      have C3 : St2 Γ (DL.now H1 as1 G1) as' G' M' H' := St2.made nx ndx ne C2
      have C4 := C3.freeze g2 h2 (.inl nx) a2
      exact ⟨rfl, q1 _ _ _ _ (S1.after C4) (C2.grow.trans (Le.new g2)) C2.ext ⟨x, dx', ws, rfl, upd_same, l2, r2.mono (Le.new g2) (List.prefix_refl _)⟩⟩
    | ex e' xs M' =>
      rw [eF] at q1
      exact fun as' G' H' d C2 z => q1 as' G' H' d (S1.after (St2.made nx ndx ne C2)) C2.grow C2.ext z
    | bad => rw [eF] at q1; exact q1.elim
  · exact q1.elim
end
end DL
set_option maxRecDepth 100000
namespace DL
open PySem PySem.Spec PyProof.Rows L2

section
variable {X : Cx} {Γ : Gam} {W : WX}
/-! ### blocks -/
def dNext : FS := fun ρ M => .nx ρ M
def dSeq (f g : FS) : FS := fun ρ M => match f ρ M with
  | .nx ρ M => g ρ M
  | r => r
theorem q_nil : PSs X [] (tS Γ W dNext) := PSs.imp pss_nil fun D σ H ⟨Θ, as, G, M, ρ, S, q⟩ => q _ _ _ _ S
theorem q_pass {pos : Pos} : PS X (.Pass pos) (tS Γ W dNext) := PS.imp ps_pass fun D σ H ⟨Θ, as, G, M, ρ, S, q⟩ => q _ _ _ _ S
theorem q_seq {st : Stmt} {rest : List Stmt} {f g : FS} (h1 : PS X st (tS Γ W f)) (h2 : PSs X rest (tS Γ W g)) : PSs X (st :: rest) (tS Γ W (dSeq f g)) := PSs.imp (pss_cons h1 h2) fun D σ H ⟨Θ, as, G, M, ρ, S, q⟩ => by
  refine ⟨Θ, as, G, M, ρ, S, ?_⟩
  unfold dSeq at q
  cases e : f ρ M with
  | nx ρ' M' => rw [e] at q; exact fun as' G' σ' H' s' => ⟨Θ, as', G', M', ρ', s', q⟩
  | rt d M' => rw [e] at q; exact q
  | bk ρ' M' => rw [e] at q; exact q
  | ct ρ' M' => rw [e] at q; exact q
  | ex c xs ρ' M' => rw [e] at q; exact q
  | bad => rw [e] at q; exact q.elim
theorem q_one {st : Stmt} {f : FS} (h1 : PS X st (tS Γ W f)) : PSs X [st] (tS Γ W f) := pss_one h1
def dBreak : FS := fun ρ M => .bk ρ M
def dCont : FS := fun ρ M => .ct ρ M
theorem q_break {pos : Pos} : PS X (.Break pos) (tS Γ W dBreak) := PS.imp ps_break fun D σ H ⟨Θ, as, G, M, ρ, S, q⟩ => q _ _ _ _ S
theorem q_cont {pos : Pos} : PS X (.Continue pos) (tS Γ W dCont) := PS.imp ps_continue fun D σ H ⟨Θ, as, G, M, ρ, S, q⟩ => q _ _ _ _ S
def dRet (f : FE) : FS := fun ρ M => (f ρ M).sbind ρ fun d M => .rt d M
theorem q_ret {e : Expr} {f : FE} {pos : Pos} (h : PE X e (tE Γ W f)) : PS X (.Return (some e) pos) (tS Γ W (dRet f)) := PS.imp (ps_ret h) fun D σ H ⟨Θ, as, G, M, ρ, S, q⟩ => by
  refine ⟨Θ, as, G, M, ρ, S, (PostS.bindE q).imp (Le.refl _) (List.prefix_refl _) ?_⟩
  rintro v H1 ⟨d, M1, as1, G1, S1, e1, p1, r, q1⟩
  exact q1 _ _ _ _ S1.toSt2 r
def dRetN : FS := fun ρ M => .rt .non M
theorem q_retN {pos : Pos} : PS X (.Return none pos) (tS Γ W dRetN) := PS.imp ps_retN fun D σ H ⟨Θ, as, G, M, ρ, S, q⟩ => q _ _ _ _ S.toSt2 rfl
def dDrop (f : FE) : FS := fun ρ M => (f ρ M).sbind ρ fun _ M => .nx ρ M
theorem q_expr {e : Expr} {f : FE} {pos : Pos} (h : PE X e (tE Γ W f)) (hs : swapsWith e none pos.line X.env = pure false := by rfl) : PS X (.Expr e pos) (tS Γ W (dDrop f)) := PS.imp (ps_expr h hs) fun D σ H ⟨Θ, as, G, M, ρ, S, q⟩ => by
  refine ⟨Θ, as, G, M, ρ, S, (PostS.bindE q).imp (Le.refl _) (List.prefix_refl _) ?_⟩
  rintro v H1 ⟨d, M1, as1, G1, S1, e1, p1, r, q1⟩
  exact q1 _ _ _ _ S1
def dIfS (c : FT) (f g : FS) : FS := fun ρ M => (c ρ M).sbind ρ fun b M => if b = true then f ρ M else g ρ M
theorem q_ifS {c : Expr} {a b : List Stmt} {fc : FT} {f g : FS} {pos : Pos} (hc : PT X c (tT Γ W fc)) (ha : PSs X a (tS Γ W f)) (hb : PSs X b (tS Γ W g)) : PS X (.If c a b pos) (tS Γ W (dIfS fc f g)) := PS.imp (ps_if hc ha hb) fun D σ H ⟨Θ, as, G, M, ρ, S, q⟩ => by
  refine ⟨Θ, as, G, M, ρ, S, (PostS.bindT q).imp (Le.refl _) (List.prefix_refl _) ?_⟩
  rintro c H1 ⟨M1, as1, G1, S1, q1⟩
  cases c with
  | true => rw [if_pos rfl] at q1 ⊢; exact ⟨Θ, as1, G1, M1, ρ, S1, q1⟩
  | false => rw [if_neg (by decide)] at q1 ⊢; exact ⟨Θ, as1, G1, M1, ρ, S1, q1⟩
/-- what is never come to -/
def dNever : FS := fun _ _ => .bad
theorem q_never {st : Stmt} : PS X st (tS Γ W dNever) := PS.imp ps_never fun D σ H ⟨Θ, as, G, M, ρ, S, q⟩ => q
theorem q_nevers {sts : List Stmt} : PSs X sts (tS Γ W dNever) := PSs.imp pss_never fun D σ H ⟨Θ, as, G, M, ρ, S, q⟩ => q

/-! ### targets -/
abbrev TGt := D → List Sl → List MO → Option (List Sl × List MO)
abbrev TGts := List D → List Sl → List MO → Option (List Sl × List MO)
def tG (Γ : Gam) (f : TGt) : TG := fun v σ H Q => ∃ Θ as G M ρ d ρ' M', Sta Γ Θ as G M ρ σ H ∧ Rep Γ as G d v ∧ f d ρ M = some (ρ', M') ∧ ∀ as' G' σ' H', Sta Γ Θ as' G' M' ρ' σ' H' → Le G G' → as <+: as' → Q σ' H'
def tGs (Γ : Gam) (f : TGts) : TGs := fun vs σ H Q => ∃ Θ as G M ρ ds ρ' M', Sta Γ Θ as G M ρ σ H ∧ RepL Γ as G ds vs ∧ f ds ρ M = some (ρ', M') ∧ ∀ as' G' σ' H', Sta Γ Θ as' G' M' ρ' σ' H' → Le G G' → as <+: as' → Q σ' H'
theorem PG.imp {tg : Expr} {t t' : TG} (h : PG X tg t) (i : ∀ v σ H Q, t' v σ H Q → t v σ H Q) : PG X tg t' := ⟨fun pins s σ H v u Q I r w => h.run pins s σ H v u Q I r (i _ _ _ _ w)⟩
theorem PGs.imp {tg : List Expr} {t t' : TGs} (h : PGs X tg t) (i : ∀ v σ H Q, t' v σ H Q → t v σ H Q) : PGs X tg t' := ⟨fun pins s σ H v u Q I r w => h.run pins s σ H v u Q I r (i _ _ _ _ w)⟩
def gN (i : Nat) : TGt := fun d ρ M => some (ρ.set i (.d d), M)
theorem qg_name {i : Nat} {e : Expr} (h : PG X e (gName i)) : PG X e (tG Γ (gN i)) := PG.imp h fun v σ H Q ⟨Θ, as, G, M, ρ, d, ρ', M', S, r, e, q⟩ => by
  cases e
  exact q _ _ _ _ (S.set i r) (Le.refl _) (List.prefix_refl _)
def gsNil : TGts := fun ds ρ M => match ds with
  | [] => some (ρ, M)
  | _ => none
def gsCons (f : TGt) (g : TGts) : TGts := fun ds ρ M => match ds with
  | d :: ds => (f d ρ M).bind fun p => g ds p.1 p.2
  | [] => none
theorem qgs_nil : PGs X [] (tGs Γ gsNil) := PGs.imp pgs_nil fun v σ H Q ⟨Θ, as, G, M, ρ, ds, ρ', M', S, r, e, q⟩ => by
  unfold gsNil at e
  cases ds with
  | nil => cases e; cases r; exact ⟨rfl, q _ _ _ _ S (Le.refl _) (List.prefix_refl _)⟩
  | cons _ _ => cases e
theorem qgs_cons {e : Expr} {es : List Expr} {f : TGt} {g : TGts} (h1 : PG X e (tG Γ f)) (h2 : PGs X es (tGs Γ g))
    (hs : (assignEach (e :: es) X.env).map (·.2) = assign e X.env :: (assignEach es X.env).map (·.2) := by rfl) : PGs X (e :: es) (tGs Γ (gsCons f g)) := PGs.imp (pgs_cons h1 h2 hs) fun vs σ H Q ⟨Θ, as, G, M, ρ, ds, ρ', M', S, r, e, q⟩ => by
  cases ds with
  | nil => cases e
  | cons d ds =>
    obtain ⟨v, ws, rfl, r1, r2⟩ := r
    unfold gsCons at e
    dsimp only at e
    cases e1 : f d ρ M with
    | none => rw [e1] at e; cases e
    | some p =>
      rw [e1] at e
      exact ⟨v, ws, rfl, Θ, as, G, M, ρ, d, p.1, p.2, S, r1, e1, fun as' G' σ' H' S' eG pa => ⟨Θ, as', G', p.2, p.1, ds, ρ', M', S', r2.mono eG pa, e, fun as2 G2 σ2 H2 S2 e2 p2 => q as2 G2 σ2 H2 S2 (eG.trans e2) (pa.trans p2)⟩⟩
/-- (a, b, ..) = a tuple -/
def gTupT (n : Nat) (g : TGts) : TGt := fun d ρ M => match d with
  | .tup ds => if ds.length = n then g ds ρ M else none
  | _ => none
theorem qg_tup {es : List Expr} {k : Nat} {pos : Pos} {g : TGts} {n : Nat} (hK : Γ.K = X.K) (hc : X.calm = true) (h : PGs X es (tGs Γ g))
    (hn : (assignEach es X.env).length = n := by rfl) (hst : (assignEach es X.env).findIdx? (·.1) = none := by rfl) : PG X (.Tuple es k pos) (tG Γ (gTupT n g)) := PG.imp (pg_tup hc h hn hst) fun v σ H Q ⟨Θ, as, G, M, ρ, d, ρ', M', S, r, e, q⟩ => by
  unfold gTupT at e
  split at e
  · rename_i ds
    split at e
    · rename_i hl
      obtain ⟨a, vs, ev, st, rl⟩ := r
      rw [hK] at st
      exact ⟨a, vs, ev, S.sub.st st, rl.length.symm.trans hl, Θ, as, G, M, ρ, ds, ρ', M', S, rl, e, q⟩
    · cases e
  · cases e
/-- target = value -/
def dAsg (f : FE) (g : TGt) : FS := fun ρ M => (f ρ M).sbind ρ fun d M => match g d ρ M with
  | some p => .nx p.1 p.2
  | none => .bad
theorem run_asg {f : FE} {g : TGt} {D : Ends} {σ : L2.St} {H : Hp} (h : tS Γ W (dAsg f g) D σ H) : tE Γ W f σ H fun x H1 => tG Γ g x σ H1 D.nx := by
  obtain ⟨Θ, as, G, M, ρ, S, q⟩ := h
  refine ⟨Θ, as, G, M, ρ, S, (PostS.bindE q).imp (Le.refl _) (List.prefix_refl _) ?_⟩
  rintro v H1 ⟨d, M1, as1, G1, S1, e1, p1, r, q1⟩
  split at q1
  · rename_i p hp
    exact ⟨Θ, as1, G1, M1, ρ, d, p.1, p.2, S1, r, hp, fun as' G' σ' H' s' _ _ => q1 as' G' σ' H' s'⟩
  · exact q1.elim
theorem q_asg {tg e : Expr} {f : FE} {g : TGt} {pos : Pos} (he : PE X e (tE Γ W f)) (hg : PG X tg (tG Γ g)) (hs : swapsWithSole [tg] e pos.line X.env = pure false := by rfl) (hw : swappedStores [tg] e X.env = pure none := by rfl)
    (h1 : (assignEach [tg] X.env).map (·.2) = [assign tg X.env] := by rfl) : PS X (.Assign [tg] e pos) (tS Γ W (dAsg f g)) := PS.imp (ps_asg he hg hs hw h1) fun _ _ _ h => run_asg h
def dSet (i : Nat) (f : FE) : FS := fun ρ M => (f ρ M).sbind ρ fun d M => .nx (ρ.set i (.d d)) M
theorem q_set {st : Stmt} {i : Nat} {f : FE} (h : PS X st (tAsg (tE Γ W f) (gName i))) : PS X st (tS Γ W (dSet i f)) := PS.imp h fun D σ H ⟨Θ, as, G, M, ρ, S, q⟩ => by
  refine ⟨Θ, as, G, M, ρ, S, (PostS.bindE q).imp (Le.refl _) (List.prefix_refl _) ?_⟩
  rintro v H1 ⟨d, M1, as1, G1, S1, e1, p1, r, q1⟩
  exact q1 _ _ _ _ (S1.set i r)
/-- a, b = x, y -/
def dPar (i j : Nat) (fa : FA) : FS := fun ρ M => (fa ρ M).sbind ρ fun ds M => match ds with
  | [a, b] => .nx ((ρ.set i (.d a)).set j (.d b)) M
  | _ => .bad
theorem q_par {st : Stmt} {i j : Nat} {fa : FA} (h : PS X st (tPar i j (tA Γ W fa))) : PS X st (tS Γ W (dPar i j fa)) := PS.imp h fun D σ H ⟨Θ, as, G, M, ρ, S, q⟩ => by
  refine ⟨Θ, as, G, M, ρ, S, (PostS.bindA q).imp (Le.refl _) (List.prefix_refl _) ?_⟩
  rintro vs H1 ⟨ds, M1, as1, G1, S1, e1, p1, r, q1⟩
  split at q1
  · obtain ⟨v, ws, rfl, r1, w, us, rfl, r2, rfl⟩ := r
    exact ⟨v, w, rfl, q1 _ _ _ _ ((S1.set i r1).set j r2)⟩
  · exact q1.elim
def dPar3 (i j l : Nat) (fa : FA) : FS := fun ρ M => (fa ρ M).sbind ρ fun ds M => match ds with
  | [a, b, c] => .nx (((ρ.set i (.d a)).set j (.d b)).set l (.d c)) M
  | _ => .bad
theorem q_par3 {st : Stmt} {i j l : Nat} {fa : FA} (h : PS X st (tPar3 i j l (tA Γ W fa))) : PS X st (tS Γ W (dPar3 i j l fa)) := PS.imp h fun D σ H ⟨Θ, as, G, M, ρ, S, q⟩ => by
  refine ⟨Θ, as, G, M, ρ, S, (PostS.bindA q).imp (Le.refl _) (List.prefix_refl _) ?_⟩
  rintro vs H1 ⟨ds, M1, as1, G1, S1, e1, p1, r, q1⟩
  split at q1
  · obtain ⟨v, ws, rfl, r1, w, us, rfl, r2, z, ts, rfl, r3, rfl⟩ := r
    exact ⟨v, w, z, rfl, q1 _ _ _ _ (((S1.set i r1).set j r2).set l r3)⟩
  · exact q1.elim

/-! ### while -/
def whileN (c : FT) (b : FS) : Nat → FS
  | 0, _, _ => .bad
  | n + 1, ρ, M => (c ρ M).sbind ρ fun k M => if k = true then (match b ρ M with
    | .nx ρ M => whileN c b n ρ M
    | .ct ρ M => whileN c b n ρ M
    | .bk ρ M => .nx ρ M
    | r => r) else .nx ρ M
theorem whileN_more {c : FT} {b : FS} : ∀ {n : Nat} {ρ : List Sl} {M : List MO} {r : RS}, whileN c b n ρ M = r → r ≠ .bad → whileN c b (n + 1) ρ M = r
  | 0, ρ, M, r, h, hr => absurd h.symm hr
  | n + 1, ρ, M, r, h, hr => by
    rw [whileN] at h ⊢
    cases e : c ρ M with
    | ok k M1 =>
      rw [e] at h
      simp only [R.sbind_ok] at h ⊢
      cases k with
      | false => simpa using h
      | true =>
        simp only [if_true] at h ⊢
        cases e2 : b ρ M1 with
        | nx ρ' M' => rw [e2] at h; exact whileN_more h hr
        | ct ρ' M' => rw [e2] at h; exact whileN_more h hr
        | bk ρ' M' => rw [e2] at h; exact h
        | rt d M' => rw [e2] at h; exact h
        | ex c xs ρ' M' => rw [e2] at h; exact h
        | bad => rw [e2] at h; exact absurd h.symm hr
    | ex c xs M1 => rw [e] at h; exact h
    | bad => rw [e] at h; exact absurd h.symm hr
theorem whileN_le {c : FT} {b : FS} {n m : Nat} (hm : n ≤ m) {ρ : List Sl} {M : List MO} {r : RS} (h : whileN c b n ρ M = r) (hr : r ≠ .bad) : whileN c b m ρ M = r := by
  induction hm with
  | refl => exact h
  | step _ ih => exact whileN_more ih hr
open Classical in
noncomputable def dWhile (c : FT) (b : FS) : FS := fun ρ M => if h : ∃ n, whileN c b n ρ M ≠ .bad then whileN c b h.choose ρ M else .bad
theorem dWhile_eq {c : FT} {b : FS} {n : Nat} {ρ : List Sl} {M : List MO} {r : RS} (h : whileN c b n ρ M = r) (hr : r ≠ .bad) : dWhile c b ρ M = r := by
  have hx : ∃ n, whileN c b n ρ M ≠ .bad := ⟨n, by rw [h]; exact hr⟩
  unfold dWhile
  rw [dif_pos hx]
  have q := hx.choose_spec
  have h1 := whileN_le (Nat.le_max_left hx.choose n) (r := whileN c b hx.choose ρ M) rfl q
  have h2 := whileN_le (Nat.le_max_right hx.choose n) h hr
  exact h1.symm.trans h2
theorem q_while {c : Expr} {body : List Stmt} {fc : FT} {fb : FS} {pos : Pos} (hp : PassesOwn (model X.prog X.w) X.A X.env X.xe) (hc : PT X c (tT Γ W fc)) (hb : PSs X body (tS Γ W fb)) : PS X (.While c body [] pos) (tS Γ W (dWhile fc fb)) := PS.imp (ps_while hp hc hb) fun D σ H ⟨Θ, as, G, M, ρ, S, q⟩ => by
  have ex : ∃ n, PostS Γ Θ W D (whileN fc fb n ρ M) := by
    unfold dWhile at q
    split at q
    · exact ⟨_, q⟩
    · exact q.elim
  obtain ⟨n, q⟩ := ex
  refine ⟨fun m σ H => ∃ as G M ρ, Sta Γ Θ as G M ρ σ H ∧ PostS Γ Θ W D (whileN fc fb m ρ M), ⟨n, as, G, M, ρ, S, q⟩, ?_⟩
  rintro m σ H ⟨as, G, M, ρ, S, q⟩
  cases m with
  | zero => exact q.elim
  | succ m =>
    rw [whileN] at q
    refine ⟨Θ, as, G, M, ρ, S, (PostS.bindT q).imp (Le.refl _) (List.prefix_refl _) ?_⟩
    rintro k H1 ⟨M1, as1, G1, S1, q1⟩
    cases k with
    | false => rw [if_neg (by decide)] at q1 ⊢; exact q1 _ _ _ _ S1
    | true =>
      rw [if_pos rfl] at q1 ⊢
      refine ⟨fun σ' H' => ∃ as G M ρ, Sta Γ Θ as G M ρ σ' H' ∧ PostS Γ Θ W D (whileN fc fb m ρ M), fun σ' H' z => ⟨m, Nat.lt_succ_self m, z⟩, Θ, as1, G1, M1, ρ, S1, ?_⟩
      cases e2 : fb ρ M1 with
      | nx ρ' M' => rw [e2] at q1; exact fun as' G' σ' H' s' => ⟨as', G', M', ρ', s', q1⟩
      | ct ρ' M' => rw [e2] at q1; exact fun as' G' σ' H' s' => ⟨as', G', M', ρ', s', q1⟩
      | bk ρ' M' => rw [e2] at q1; exact q1
      | rt d M' => rw [e2] at q1; exact q1
      | ex c xs ρ' M' => rw [e2] at q1; exact q1
      | bad => rw [e2] at q1; exact q1.elim

/-! ### what is walked -/
/-- the walk J yields the data ds -/
structure SimIt (Γ : Gam) (J : It) (as : List Addr) (G : Hp) (ds : List DL.D) : Prop where
  go : ∀ i H, Le G H → i < ds.length → J.go i H
  stop : ∀ i H, Le G H → ds.length ≤ i → J.stop i H
  yld : ∀ i H x H' d, Le G H → ds[i]? = some d → J.yld i H x H' → (H' = H ∧ Rep Γ as G d x) ∨ ∃ p vs ds', x = .ref p ∧ H p = none ∧ H' = upd H p (.tup vs) ∧ d = .tup ds' ∧ RepL Γ as G ds' vs
def PostJ (Γ : Gam) (Θ : Ent) (W : WX) (ρ : List Sl) (σ : L2.St) (as : List Addr) (G : Hp) (R : It → Hp → Prop) : DL.R (List DL.D) → Prop
  | .ok ds M => ∀ as' G' H' J, Sta Γ Θ as' G' M ρ σ H' → Le G G' → as <+: as' → SimIt Γ J as' G' ds → R J H'
  | .ex c xs M => ∀ as' G' H' d, Sta Γ Θ as' G' M ρ σ H' → Le G G' → as <+: as' → XP Γ as' G' c xs d → W (.ref (Γ.eA c)) (some d) σ H'
  | .bad => False
def tI (Γ : Gam) (W : WX) (f : FA) : TI := fun σ H R => ∃ Θ as G M ρ, Sta Γ Θ as G M ρ σ H ∧ PostJ Γ Θ W ρ σ as G R (f ρ M)
theorem PI.imp {tg e : Expr} {t t' : TI} (h : PI X tg e t) (i : ∀ σ H R, t' σ H R → t σ H R) : PI X tg e t' := ⟨fun pins s σ H R I w => h.run pins s σ H R I (i _ _ _ w)⟩
theorem PostJ.bindE {Θ : Ent} {ρ : List Sl} {σ : L2.St} {as : List Addr} {G : Hp} {Rr : It → Hp → Prop} {r : DL.R DL.D} {k : DL.D → List MO → DL.R (List DL.D)} (h : PostJ Γ Θ W ρ σ as G Rr (r.bind k)) :
    PostE Γ Θ W ρ σ as G (fun v H' => ∃ d M' as' G', Sta Γ Θ as' G' M' ρ σ H' ∧ Le G G' ∧ as <+: as' ∧ Rep Γ as' G' d v ∧ PostJ Γ Θ W ρ σ as' G' Rr (k d M')) r := by
  cases r with
  | ok d M =>
    intro as' G' H' v s e p x
    refine ⟨d, M, as', G', s, e, p, x, ?_⟩
    have h' : PostJ Γ Θ W ρ σ as G Rr (k d M) := h
    cases q : k d M with
    | ok ds M2 => rw [q] at h'; exact fun a2 G2 H2 J s2 e2 p2 z => h' a2 G2 H2 J s2 (e.trans e2) (p.trans p2) z
    | ex c xs M2 => rw [q] at h'; exact fun a2 G2 H2 J s2 e2 p2 z => h' a2 G2 H2 J s2 (e.trans e2) (p.trans p2) z
    | bad => rw [q] at h'; exact h'
  | ex c xs M => exact h
  | bad => exact h
theorem PostJ.bindA {Θ : Ent} {ρ : List Sl} {σ : L2.St} {as : List Addr} {G : Hp} {Rr : It → Hp → Prop} {r : DL.R (List DL.D)} {k : List DL.D → List MO → DL.R (List DL.D)} (h : PostJ Γ Θ W ρ σ as G Rr (r.bind k)) :
    PostA Γ Θ W ρ σ as G (fun vs H' => ∃ ds M' as' G', Sta Γ Θ as' G' M' ρ σ H' ∧ Le G G' ∧ as <+: as' ∧ RepL Γ as' G' ds vs ∧ PostJ Γ Θ W ρ σ as' G' Rr (k ds M')) r := by
  cases r with
  | ok d M =>
    intro as' G' H' v s e p x
    refine ⟨d, M, as', G', s, e, p, x, ?_⟩
    have h' : PostJ Γ Θ W ρ σ as G Rr (k d M) := h
    cases q : k d M with
    | ok ds M2 => rw [q] at h'; exact fun a2 G2 H2 J s2 e2 p2 z => h' a2 G2 H2 J s2 (e.trans e2) (p.trans p2) z
    | ex c xs M2 => rw [q] at h'; exact fun a2 G2 H2 J s2 e2 p2 z => h' a2 G2 H2 J s2 (e.trans e2) (p.trans p2) z
    | bad => rw [q] at h'; exact h'
  | ex c xs M => exact h
  | bad => exact h
theorem sq_fun {K : PySem.W.Frag} {H : Hp} {a : Addr} {xs ys : List V} : True := trivial
/-- a list or a tuple -/
def iSeq (f : FE) : FA := fun ρ M => (f ρ M).bind fun d M => match d with
  | .lst xs => .ok xs M
  | .rol xs => .ok xs M
  | .tup xs => .ok xs M
  | _ => .bad
def iRange1 (f : FE) : FA := fun ρ M => (f ρ M).bind fun d M => match d with
  | .int j => if -(2 ^ 62) ≤ j ∧ j < 2 ^ 62 then .ok ((List.range j.toNat).map fun (i : Nat) => .int (i : Int)) M else .bad
  | _ => .bad
def iRange2 (fa : FA) : FA := fun ρ M => (fa ρ M).bind fun ds M => match ds with
  | [.int i, .int j] => if -(2 ^ 62) ≤ i ∧ i < 2 ^ 62 ∧ -(2 ^ 62) ≤ j ∧ j < 2 ^ 62 then .ok ((List.range (j - i).toNat).map fun (k : Nat) => .int (i + (k : Int))) M else .bad
  | _ => .bad

/-! ### for -/
/-- the entry, later -/
def Ent.late (Θ : Ent) (as : List Addr) (G : Hp) : Ent := ⟨Θ.H, as, G, fun a => Θ.mu a ∨ a ∈ as, Θ.sf⟩
theorem Sta.late {Θ : Ent} {as : List Addr} {G H : Hp} {M : List MO} {ρ : List Sl} {σ : L2.St} (S : Sta Γ Θ as G M ρ σ H) : Sta Γ (Θ.late as G) as G M ρ σ H :=
  ⟨⟨S.sub, Le.refl _, List.prefix_refl _, fun _ h => .inr h, fun a o h n => S.fr a o h fun z => n (.inl z), S.pres, fun _ _ h => .inl h, S.len, S.nd, S.cel, fun _ h => .inl h, S.ain⟩, S.slen, S.env,
    fun i a o => ⟨(S.own i a o).1, (S.own i a o).2.1, (S.own i a o).2.2.elim .inl fun z => .inr (.inl z)⟩, S.odj, S.slf⟩
theorem St2.ofLate {Θ : Ent} {as as' : List Addr} {G G' H H' : Hp} {M M' : List MO} (S : St2 Γ Θ as G M H) (C : St2 Γ (Θ.late as G) as' G' M' H') : St2 Γ Θ as' G' M' H' where
  sub := C.sub
  grow := S.grow.trans C.grow
  ext := S.ext.trans C.ext
  esub := S.esub
  fr := fun a o h n => C.fr a o h fun z => z.elim n fun z => by
    rcases S.cfr a z with q | q
    · exact n (S.esub a q)
    · exact absurd (h.symm.trans q) (by simp)
  pres := C.pres
  gfr := fun a o h => by
    rcases C.gfr a o h with q | q | q | q
    · exact S.gfr a o q
    · exact .inr (.inl q)
    · exact .inr (.inr q)
    · rcases S.cfr a q with q | q
      · exact .inr (.inr (S.esub a q))
      · exact .inr (.inl q)
  len := C.len
  nd := C.nd
  cel := C.cel
  cfr := fun a h => by
    rcases C.cfr a h with q | q
    · exact S.cfr a q
    · exact .inr q
  ain := C.ain
theorem Sta.ofLate {Θ : Ent} {as as' : List Addr} {G G' H H' : Hp} {M M' : List MO} {ρ' : List Sl} {σ' : L2.St} (S : St2 Γ Θ as G M H) (C : Sta Γ (Θ.late as G) as' G' M' ρ' σ' H') : Sta Γ Θ as' G' M' ρ' σ' H' :=
  ⟨S.ofLate C.toSt2, C.slen, C.env, fun i a o => ⟨(C.own i a o).1, (C.own i a o).2.1, (C.own i a o).2.2.elim .inl fun z => z.elim .inr fun z => absurd (C.ext.subset z) (C.own i a o).2.1⟩, C.odj, C.slf⟩
theorem PostS.late {Θ : Ent} {as : List Addr} {G H : Hp} {M : List MO} {D : Ends} {r : RS} (S : St2 Γ Θ as G M H) (h : PostS Γ Θ W D r) : PostS Γ (Θ.late as G) W D r := by
  cases r with
  | nx ρ M => exact fun a g σ H s => h a g σ H (Sta.ofLate S s)
  | bk ρ M => exact fun a g σ H s => h a g σ H (Sta.ofLate S s)
  | ct ρ M => exact fun a g σ H s => h a g σ H (Sta.ofLate S s)
  | rt d M => exact fun a g H v s x => h a g H v (St2.ofLate S s) x
  | ex c xs ρ M => exact fun a g σ H d s x => h a g σ H d (Sta.ofLate S s) x
  | bad => exact h
def forL (t : TGt) (b : FS) : List DL.D → FS
  | [], ρ, M => .nx ρ M
  | d :: ds, ρ, M => match t d ρ M with
    | none => .bad
    | some p => match b p.1 p.2 with
      | .nx ρ M => forL t b ds ρ M
      | .ct ρ M => forL t b ds ρ M
      | .bk ρ M => .nx ρ M
      | r => r
def dFor (fi : FA) (t : TGt) (b : FS) : FS := fun ρ M => (fi ρ M).sbind ρ fun ds M => forL t b ds ρ M
theorem q_for {tg iter : Expr} {body : List Stmt} {fi : FA} {t : TGt} {fb : FS} {pos : Pos} (hp : PassesOwn (model X.prog X.w) X.A X.env X.xe) (hc : X.calm = true) (hi : PI X tg iter (tI Γ W fi)) (hg : PG X tg (tG Γ t)) (hb : PSs X body (tS Γ W fb))
    (hs : ∀ x, foldedSetIterable iter X.env x = pure x := by intro _; rfl) : PS X (.For tg iter body [] pos) (tS Γ W (dFor fi t fb)) := PS.imp (ps_for hp hc hi hg hb hs) fun D σ H ⟨Θ, as, G, M, ρ, S, q⟩ => by
  refine ⟨Θ, as, G, M, ρ, S, ?_⟩
  unfold dFor at q
  cases e : fi ρ M with
  | bad => rw [e] at q; exact q.elim
  | ex c xs M1 => rw [e] at q; exact fun as' G' H' d s _ _ x => q as' G' σ H' d s x
  | ok ds M1 =>
    rw [e] at q
    intro as1 G1 H1 J S1 e1 p1 sim
    have q : PostS Γ Θ W D (forL t fb ds ρ M1) := q
    refine ⟨fun i m σ H => m = ds.length - i ∧ ∃ as2 G2 M2 ρ2, Sta Γ (Θ.late as1 G1) as2 G2 M2 ρ2 σ H ∧ PostS Γ (Θ.late as1 G1) W D (forL t fb (ds.drop i) ρ2 M2), ⟨_, rfl, as1, G1, M1, ρ, S1.late, q.late S1.toSt2⟩, ?_⟩
    rintro i m σ2 H2 ⟨rfl, as2, G2, M2, ρ2, S2, q2⟩
    have e2 : Le G1 G2 := S2.grow
    have p2 : as1 <+: as2 := S2.ext
    have le : Le G1 H2 := e2.trans S2.sub
    by_cases hi : i < ds.length
    · right
      refine ⟨sim.go i H2 le hi, fun σ' H' => ∃ as3 G3 M3 ρ3, Sta Γ (Θ.late as1 G1) as3 G3 M3 ρ3 σ' H' ∧ PostS Γ (Θ.late as1 G1) W D (forL t fb (ds.drop (i + 1)) ρ3 M3), fun σ' H' z => ⟨ds.length - (i + 1), by omega, rfl, z⟩, ?_⟩
      intro x H' hy
      have hd : ds[i]? = some ds[i] := List.getElem?_eq_getElem hi
      rw [List.drop_eq_getElem_cons hi, forL] at q2
      have step : ∃ as3 G3, Sta Γ (Θ.late as1 G1) as3 G3 M2 ρ2 σ2 H' ∧ Rep Γ as3 G3 ds[i] x := by
        rcases sim.yld i H2 x H' _ le hd hy with ⟨rfl, r⟩ | ⟨p, vs, ds', rfl, hn, rfl, hd', r⟩
        · exact ⟨as2, G2, S2, r.mono e2 p2⟩
        · have gp := S2.sub.free hn
          refine ⟨as2, upd G2 p (.tup vs), S2.lay hn, ?_⟩
          rw [hd']
          exact ⟨p, vs, rfl, .inl (.inl upd_same), r.mono (e2.trans (Le.new gp)) p2⟩
      obtain ⟨as3, G3, S3, r3⟩ := step
      cases et : t ds[i] ρ2 M2 with
      | none => rw [et] at q2; exact q2.elim
      | some pp =>
        rw [et] at q2
        refine ⟨_, as3, G3, M2, ρ2, ds[i], pp.1, pp.2, S3, r3, et, fun as4 G4 σ4 H4 S4 e4 p4 => ⟨_, as4, G4, pp.2, pp.1, S4, ?_⟩⟩
        dsimp only at q2
        cases eb : fb pp.1 pp.2 with
        | nx ρ' M' => rw [eb] at q2; exact fun as' G' σ' H' s' => ⟨as', G', M', ρ', s', q2⟩
        | ct ρ' M' => rw [eb] at q2; exact fun as' G' σ' H' s' => ⟨as', G', M', ρ', s', q2⟩
        | bk ρ' M' => rw [eb] at q2; exact q2
        | rt d M' => rw [eb] at q2; exact q2
        | ex c xs ρ' M' => rw [eb] at q2; exact q2
        | bad => rw [eb] at q2; exact q2.elim
    · left
      refine ⟨sim.stop i H2 le (Nat.le_of_not_lt hi), ?_⟩
      rw [List.drop_eq_nil_of_le (Nat.le_of_not_lt hi), forL] at q2
      exact q2 _ _ _ _ S2
end
end DL
set_option maxRecDepth 100000
namespace DL
open PySem PySem.Spec PyProof.Rows L2

/-! ### operators on data -/
def gOr2 (g g' : D → D → List MO → R D) : D → D → List MO → R D := fun a b M => match g a b M with
  | .bad => g' a b M
  | r => r
def intBitsOk (i j : Int) : Prop := (Builtin.Int.intBits i : Int) + (Builtin.Int.intBits j : Int) ≤ 134217728
instance (i j : Int) : Decidable (intBitsOk i j) := inferInstanceAs (Decidable (_ ≤ _))
def addI : D → D → List MO → R D
  | .int i, .int j, M => .ok (.int (i + j)) M
  | _, _, _ => .bad
def addS : D → D → List MO → R D
  | .str a, .str b, M => if szOk (a.length + b.length) then .ok (.str (a ++ b)) M else .bad
  | _, _, _ => .bad
def addL : D → D → List MO → R D
  | .lst a, .lst b, M => if szOk (a.length + b.length) then .ok (.lst (a ++ b)) M else .bad
  | _, _, _ => .bad
def subI : D → D → List MO → R D
  | .int i, .int j, M => .ok (.int (i - j)) M
  | _, _, _ => .bad
def mulI : D → D → List MO → R D
  | .int i, .int j, M => if intBitsOk i j then .ok (.int (i * j)) M else .bad
  | _, _, _ => .bad
def modI : D → D → List MO → R D
  | .int i, .int j, M => if j = 0 then .bad else .ok (.int (i.fmod j)) M
  | _, _, _ => .bad
def divOk (i j : Int) : Bool := decide (j ≠ 0) && !Builtin.divisionGoesByPylong i j
def divI : D → D → List MO → R D
  | .int i, .int j, M => if divOk i j then .ok (.int (i.fdiv j)) M else .bad
  | _, _, _ => .bad
def powI : D → D → List MO → R D
  | .int i, .int j, M => if 0 ≤ j ∧ j ≤ 1000000 ∧ i.natAbs < 2 ^ 64 then .ok (.int (i ^ j.toNat)) M else .bad
  | _, _, _ => .bad
def negI : D → List MO → R D
  | .int i, M => .ok (.int (-i)) M
  | _, _ => .bad
def ltI : D → D → List MO → R D
  | .int i, .int j, M => .ok (.bl (decide (i < j))) M
  | _, _, _ => .bad
def leI : D → D → List MO → R D
  | .int i, .int j, M => .ok (.bl (decide (i ≤ j))) M
  | _, _, _ => .bad
def gtI : D → D → List MO → R D
  | .int i, .int j, M => .ok (.bl (decide (j < i))) M
  | _, _, _ => .bad
def geI : D → D → List MO → R D
  | .int i, .int j, M => .ok (.bl (decide (j ≤ i))) M
  | _, _, _ => .bad
/-! data without instances and cells -/
mutual
def toPy : D → Option PyData
  | .non => some .none
  | .bl b => some (.bool b)
  | .int i => some (.int i)
  | .str s => some (.str s)
  | .tup xs => (toPys xs).map .tuple
  | .lst xs => (toPys xs).map .list
  | .rol xs => (toPys xs).map .list
  | .ins _ _ => none
  | .cel _ => none
def toPys : List D → Option (List PyData)
  | [] => some []
  | x :: xs => (toPy x).bind fun p => (toPys xs).bind fun ps => some (p :: ps)
end
def pyEq (a b : D) : Option Bool := match toPy a, toPy b with
  | some d, some e => if SeqAt.shaped d && SeqAt.shaped e then some (PyData.eqv d e) else none
  | _, _ => none
def eqD (a b : D) (M : List MO) : R D := match pyEq a b with
  | some k => .ok (.bl k) M
  | none => .bad
def neD (a b : D) (M : List MO) : R D := match pyEq a b with
  | some k => .ok (.bl (!k)) M
  | none => .bad
def isNonD : D → Bool
  | .non => true
  | _ => false
/-- is None -/
def isND : D → D → List MO → R D := fun a b M => match b with
  | .non => .ok (.bl (isNonD a)) M
  | _ => .bad
def notND : D → D → List MO → R D := fun a b M => match b with
  | .non => .ok (.bl (!isNonD a)) M
  | _ => .bad

section
variable {Γ : Gam} {W : WX} {X : Cx}
theorem k_or {r r' : L2.St → R2} {g g' : D → D → List MO → R D} (h : Keeps2 Γ W r g) (h' : Keeps2 Γ W r' g') : Keeps2 Γ W (fun σ x y H Q => r σ x y H Q ∨ r' σ x y H Q) (gOr2 g g') := by
  intro Θ ρ σ as G M H a b x y Q S ra rb q
  unfold gOr2 at q
  cases e : g a b M with
  | ok d M' => rw [e] at q; exact .inl (h Θ ρ σ as G M H a b x y Q S ra rb (by rw [e]; exact q))
  | ex c xs M' => rw [e] at q; exact .inl (h Θ ρ σ as G M H a b x y Q S ra rb (by rw [e]; exact q))
  | bad => rw [e] at q; exact .inr (h' Θ ρ σ as G M H a b x y Q S ra rb q)
theorem got {Θ : Ent} {ρ : List Sl} {σ : L2.St} {as : List Addr} {G H : Hp} {M : List MO} {d : D} {v : V} {Q : VK} (S : Sta Γ Θ as G M ρ σ H) (q : PostE Γ Θ W ρ σ as G Q (.ok d M)) (r : Rep Γ as G d v) : Q v H := q _ _ _ _ S (Le.refl _) (List.prefix_refl _) r
theorem k_I0 {h : Int → Int → V} {g : D → D → List MO → R D} (hg : ∀ a b M r, g a b M = r → r ≠ .bad → ∃ i j d, a = .int i ∧ b = .int j ∧ r = .ok d M ∧ ∀ as G, Rep Γ as G d (h i j)) : Keeps2 Γ W (fun _ => rI0 h) g := by
  intro Θ ρ σ as G M H a b x y Q S ra rb q
  have hb : g a b M ≠ .bad := fun z => by rw [z] at q; exact q
  obtain ⟨i, j, d, rfl, rfl, e, rd⟩ := hg a b M _ rfl hb
  cases ra; cases rb
  rw [e] at q
  exact ⟨i, j, rfl, rfl, got S q (rd _ _)⟩
theorem k_I {C : Int → Int → Prop} {h : Int → Int → V} {g : D → D → List MO → R D} (hg : ∀ a b M r, g a b M = r → r ≠ .bad → ∃ i j d, a = .int i ∧ b = .int j ∧ C i j ∧ r = .ok d M ∧ ∀ as G, Rep Γ as G d (h i j)) : Keeps2 Γ W (fun _ => rI C h) g := by
  intro Θ ρ σ as G M H a b x y Q S ra rb q
  have hb : g a b M ≠ .bad := fun z => by rw [z] at q; exact q
  obtain ⟨i, j, d, rfl, rfl, hc, e, rd⟩ := hg a b M _ rfl hb
  cases ra; cases rb
  rw [e] at q
  exact ⟨i, j, rfl, rfl, hc, got S q (rd _ _)⟩
theorem k_addI : Keeps2 Γ W (fun _ => rI0 fun i j => .int (i + j)) addI := k_I0 fun a b M r h hr => by
  subst h
  unfold addI at hr ⊢
  split at hr
  · exact ⟨_, _, _, rfl, rfl, rfl, fun _ _ => rfl⟩
  · exact absurd rfl hr
theorem k_subI : Keeps2 Γ W (fun _ => rI0 fun i j => .int (i - j)) subI := k_I0 fun a b M r h hr => by
  subst h
  unfold subI at hr ⊢
  split at hr
  · exact ⟨_, _, _, rfl, rfl, rfl, fun _ _ => rfl⟩
  · exact absurd rfl hr
theorem k_ltI : Keeps2 Γ W (fun _ => rI0 fun i j => .bl (decide (i < j))) ltI := k_I0 fun a b M r h hr => by
  subst h
  unfold ltI at hr ⊢
  split at hr
  · exact ⟨_, _, _, rfl, rfl, rfl, fun _ _ => rfl⟩
  · exact absurd rfl hr
theorem k_leI : Keeps2 Γ W (fun _ => rI0 fun i j => .bl (decide (i ≤ j))) leI := k_I0 fun a b M r h hr => by
  subst h
  unfold leI at hr ⊢
  split at hr
  · exact ⟨_, _, _, rfl, rfl, rfl, fun _ _ => rfl⟩
  · exact absurd rfl hr
theorem k_gtI : Keeps2 Γ W (fun _ => rI0 fun i j => .bl (decide (j < i))) gtI := k_I0 fun a b M r h hr => by
  subst h
  unfold gtI at hr ⊢
  split at hr
  · exact ⟨_, _, _, rfl, rfl, rfl, fun _ _ => rfl⟩
  · exact absurd rfl hr
theorem k_geI : Keeps2 Γ W (fun _ => rI0 fun i j => .bl (decide (j ≤ i))) geI := k_I0 fun a b M r h hr => by
  subst h
  unfold geI at hr ⊢
  split at hr
  · exact ⟨_, _, _, rfl, rfl, rfl, fun _ _ => rfl⟩
  · exact absurd rfl hr
theorem k_mulI : Keeps2 Γ W (fun _ => rI CMulX fun i j => .int (i * j)) mulI := k_I fun a b M r h hr => by
  subst h
  unfold mulI at hr ⊢
  split at hr
  · split at hr
    · rename_i hc
      rw [if_pos hc]
      exact ⟨_, _, _, rfl, rfl, hc, rfl, fun _ _ => rfl⟩
    · exact absurd rfl hr
  · exact absurd rfl hr
theorem k_modI : Keeps2 Γ W (fun _ => rI (fun _ j => j ≠ 0) fun i j => .int (i.fmod j)) modI := k_I fun a b M r h hr => by
  subst h
  unfold modI at hr ⊢
  split at hr
  · split at hr
    · exact absurd rfl hr
    · rename_i hc
      rw [if_neg hc]
      exact ⟨_, _, _, rfl, rfl, hc, rfl, fun _ _ => rfl⟩
  · exact absurd rfl hr
def CDivO (i j : Int) : Prop := divOk i j = true
theorem op_divO : OpR X (binaryOp .FloorDiv) (rI CDivO fun i j => .int (i.fdiv j)) := opI fun i j _ _ _ _ _ hc q => by
  unfold CDivO divOk at hc
  simp only [Bool.and_eq_true, decide_eq_true_eq, Bool.not_eq_true'] at hc
  exact floordiv_int hc.1 q (.inl hc.2)
theorem k_divI : Keeps2 Γ W (fun _ => rI CDivO fun i j => .int (i.fdiv j)) divI := k_I fun a b M r h hr => by
  subst h
  unfold divI at hr ⊢
  split at hr
  · split at hr
    · rename_i hc
      rw [if_pos hc]
      exact ⟨_, _, _, rfl, rfl, hc, rfl, fun _ _ => rfl⟩
    · exact absurd rfl hr
  · exact absurd rfl hr
theorem k_powI : Keeps2 Γ W (fun _ => rI CPow fun i j => .int (i ^ j.toNat)) powI := k_I fun a b M r h hr => by
  subst h
  unfold powI at hr ⊢
  split at hr
  · split at hr
    · rename_i hc
      rw [if_pos hc]
      exact ⟨_, _, _, rfl, rfl, hc, rfl, fun _ _ => rfl⟩
    · exact absurd rfl hr
  · exact absurd rfl hr
theorem k_addS : Keeps2 Γ W (fun _ x y H Q => ∃ i j, x = .str i ∧ y = .str j ∧ i.length + j.length ≤ sizeLine ∧ Q (.str (i ++ j)) H) addS := by
  intro Θ ρ σ as G M H a b x y Q S ra rb q
  unfold addS at q
  split at q
  · split at q
    · rename_i hz
      cases ra; cases rb
      exact ⟨_, _, rfl, rfl, szOk_le hz, got S q rfl⟩
    · exact q.elim
  · exact q.elim
theorem k_addL : Keeps2 Γ W (fun _ => rCat) addL := by
  intro Θ ρ σ as G M H a b x y Q S ra rb q
  unfold addL at q
  split at q
  · split at q
    · rename_i hz
      obtain ⟨p, vs, rfl, g1, r1⟩ := ra
      obtain ⟨p', vs', rfl, g2, r2⟩ := rb
      exact ⟨p, p', vs, vs', rfl, rfl, S.sub _ _ g1, S.sub _ _ g2, by rw [← r1.length, ← r2.length]; exact szOk_le hz, fun l n => keepsNewLst S (r1.append r2) q n⟩
    · exact q.elim
  · exact q.elim
mutual
theorem dp_of (hK : Γ.K = X.K) {as : List Addr} {G H : Hp} (le : Le G H) : ∀ (d : D) (v : V) (p : PyData), Rep Γ as G d v → toPy d = some p → Dp X.K H v p
  | .non, _, _, r, e => by cases e; cases r; exact .non
  | .bl b, _, _, r, e => by cases e; cases r; exact .bl b
  | .int i, _, _, r, e => by cases e; cases r; exact .int i
  | .str s, _, _, r, e => by cases e; cases r; exact .str s
  | .tup xs, _, _, r, e => by
    obtain ⟨a, vs, rfl, s, rl⟩ := r
    rw [toPy] at e
    cases q : toPys xs with
    | none => rw [q] at e; cases e
    | some ps => rw [q] at e; cases e; rw [hK] at s; exact .tup (le.st s) (dps_of hK le xs vs ps rl q)
  | .lst xs, _, _, r, e => by
    obtain ⟨a, vs, rfl, s, rl⟩ := r
    rw [toPy] at e
    cases q : toPys xs with
    | none => rw [q] at e; cases e
    | some ps => rw [q] at e; cases e; exact .lst (.inl (.inl (le _ _ s))) (dps_of hK le xs vs ps rl q)
  | .rol xs, _, _, r, e => by
    obtain ⟨a, vs, rfl, s, rl⟩ := r
    rw [toPy] at e
    cases q : toPys xs with
    | none => rw [q] at e; cases e
    | some ps => rw [q] at e; cases e; rw [hK] at s; exact .lst (le.sl s) (dps_of hK le xs vs ps rl q)
  | .ins _ _, _, _, _, e => by cases e
  | .cel _, _, _, _, e => by cases e
theorem dps_of (hK : Γ.K = X.K) {as : List Addr} {G H : Hp} (le : Le G H) : ∀ (ds : List D) (vs : List V) (ps : List PyData), RepL Γ as G ds vs → toPys ds = some ps → DpAll X.K H vs ps
  | [], _, _, r, e => by cases e; cases r; exact .nil
  | d :: ds, _, _, r, e => by
    obtain ⟨v, ws, rfl, r1, r2⟩ := r
    rw [toPys] at e
    cases q : toPy d with
    | none => rw [q] at e; cases e
    | some p =>
      rw [q] at e
      cases q2 : toPys ds with
      | none => rw [q2] at e; cases e
      | some ps => rw [q2] at e; cases e; exact .cons (dp_of hK le d v p r1 q) (dps_of hK le ds ws ps r2 q2)
end
theorem k_eqD (hK : Γ.K = X.K) : Keeps2 Γ W (fun _ => rEqD X.K) eqD := by
  intro Θ ρ σ as G M H a b x y Q S ra rb q
  unfold eqD at q
  split at q
  · rename_i k hk
    unfold pyEq at hk
    split at hk
    · rename_i d e hd he
      split at hk
      · rename_i hs
        cases hk
        rw [Bool.and_eq_true] at hs
        exact ⟨d, e, dp_of hK S.sub a x d ra hd, dp_of hK S.sub b y e rb he, hs.1, hs.2, got S q rfl⟩
      · cases hk
    · cases hk
  · exact q.elim
theorem k_neD (hK : Γ.K = X.K) : Keeps2 Γ W (fun _ => rNeD X.K) neD := by
  intro Θ ρ σ as G M H a b x y Q S ra rb q
  unfold neD at q
  split at q
  · rename_i k hk
    unfold pyEq at hk
    split at hk
    · rename_i d e hd he
      split at hk
      · rename_i hs
        cases hk
        rw [Bool.and_eq_true] at hs
        exact ⟨d, e, dp_of hK S.sub a x d ra hd, dp_of hK S.sub b y e rb he, hs.1, hs.2, got S q rfl⟩
      · cases hk
    · cases hk
  · exact q.elim
theorem rep_non {as : List Addr} {G : Hp} {d : D} {v : V} (r : Rep Γ as G d v) : decide (v = .non) = isNonD d := by
  cases d with
  | non => cases r; rfl
  | bl b => cases r; rfl
  | int i => cases r; rfl
  | str s => cases r; rfl
  | tup xs => obtain ⟨a, vs, rfl, _⟩ := r; rfl
  | lst xs => obtain ⟨a, vs, rfl, _⟩ := r; rfl
  | rol xs => obtain ⟨a, vs, rfl, _⟩ := r; rfl
  | ins c xs => obtain ⟨a, dx, vs, rfl, _⟩ := r; rfl
  | cel n => obtain ⟨a, _, rfl⟩ := r; rfl
theorem k_isN : Keeps2 Γ W (fun _ x y H Q => y = .non ∧ Q (.bl (decide (x = .non))) H) isND := by
  intro Θ ρ σ as G M H a b x y Q S ra rb q
  unfold isND at q
  split at q
  · cases rb
    exact ⟨rfl, by rw [rep_non ra]; exact got S q rfl⟩
  · exact q.elim
theorem k_notN : Keeps2 Γ W (fun _ x y H Q => y = .non ∧ Q (.bl (!decide (x = .non))) H) notND := by
  intro Θ ρ σ as G M H a b x y Q S ra rb q
  unfold notND at q
  split at q
  · cases rb
    exact ⟨rfl, by rw [rep_non ra]; exact got S q rfl⟩
  · exact q.elim
theorem q_neg {a : Expr} {fa : FE} {pos : Pos} (ha : PE X a (tE Γ W fa)) : PE X (.UnaryOp .USub a pos) (tE Γ W (d1 negI fa)) := PE.imp (pe_un un_neg ha) fun σ H Q ⟨Θ, as, G, M, ρ, S, q⟩ => by
  refine ⟨Θ, as, G, M, ρ, S, (PostE.bindE q).imp (Le.refl _) (List.prefix_refl _) ?_⟩
  rintro x H1 ⟨d, M1, as1, G1, S1, e1, p1, r, q1⟩
  unfold negI at q1
  split at q1
  · cases r
    exact ⟨_, rfl, got S1 q1 rfl⟩
  · exact q1.elim

/-! ### built-in functions -/
def absD : List D → List MO → R D
  | [.int i], M => .ok (.int (if i < 0 then -i else i)) M
  | _, _ => .bad
def intD : List D → List MO → R D
  | [.int i], M => .ok (.int i) M
  | [.bl k], M => .ok (.int (if k then 1 else 0)) M
  | _, _ => .bad
def lenD : List D → List MO → R D
  | [.tup xs], M => .ok (.int xs.length) M
  | [.lst xs], M => .ok (.int xs.length) M
  | [.rol xs], M => .ok (.int xs.length) M
  | [.str s], M => if szOk s.length then .ok (.int s.length) M else .bad
  | _, _ => .bad
def listD : List D → List MO → R D
  | [.tup xs], M => .ok (.lst xs) M
  | [.lst xs], M => .ok (.lst xs) M
  | [.rol xs], M => .ok (.lst xs) M
  | _, _ => .bad
def tupleD : List D → List MO → R D
  | [.tup xs], M => .ok (.tup xs) M
  | [.lst xs], M => .ok (.tup xs) M
  | [.rol xs], M => .ok (.tup xs) M
  | _, _ => .bad
def bools : List D → Option (List Bool)
  | [] => some []
  | .bl b :: xs => (bools xs).map (b :: ·)
  | _ => none
def allD : List D → List MO → R D
  | [.lst xs], M => match bools xs with
    | some bs => .ok (.bl (bs.all id)) M
    | none => .bad
  | _, _ => .bad
def anyD : List D → List MO → R D
  | [.lst xs], M => match bools xs with
    | some bs => .ok (.bl (bs.any id)) M
    | none => .bad
  | _, _ => .bad
theorem one_rep {as : List Addr} {G : Hp} {d : D} {vs : List V} (r : RepL Γ as G [d] vs) : ∃ v, vs = [v] ∧ Rep Γ as G d v := by
  obtain ⟨v, ws, rfl, h, rfl⟩ := r
  exact ⟨v, rfl, h⟩
theorem ka_abs : KeepsA Γ W (fun xs H Q => ∃ i, xs = [.int i] ∧ Q (.int (if i < 0 then -i else i)) H) absD := by
  intro Θ ρ σ as G M H ds vs Q S r q
  unfold absD at q
  split at q
  · obtain ⟨v, rfl, h⟩ := one_rep r
    cases h
    exact ⟨_, rfl, got S q rfl⟩
  · exact q.elim
theorem ka_int : KeepsA Γ W (fun xs H Q => (∃ i, xs = [.int i] ∧ Q (.int i) H) ∨ ∃ k, xs = [.bl k] ∧ Q (.int (if k then 1 else 0)) H) intD := by
  intro Θ ρ σ as G M H ds vs Q S r q
  unfold intD at q
  split at q
  · obtain ⟨v, rfl, h⟩ := one_rep r
    cases h
    exact .inl ⟨_, rfl, got S q rfl⟩
  · obtain ⟨v, rfl, h⟩ := one_rep r
    cases h
    exact .inr ⟨_, rfl, got S q rfl⟩
  · exact q.elim
def rLenK (K : PySem.W.Frag) : List V → Hp → VK → Prop := fun xs H Q => (∃ p ys, xs = [.ref p] ∧ (SqL K H p ys ∨ SqT K H p ys) ∧ Q (.int ys.length) H) ∨ ∃ z : Str, xs = [.str z] ∧ z.length ≤ sizeLine ∧ Q (.int z.length) H
theorem call_lenK : CallR X (.builtin "len") (rLenK X.K) := CallR.or call_len_seq call_len_str
theorem ka_len (hK : Γ.K = X.K) : KeepsA Γ W (rLenK X.K) lenD := by
  intro Θ ρ σ as G M H ds vs Q S r q
  unfold lenD at q
  split at q
  · obtain ⟨v, rfl, a, ws, rfl, s, rl⟩ := one_rep r
    rw [hK] at s
    exact .inl ⟨a, ws, rfl, .inr (S.sub.st s), by rw [← rl.length]; exact got S q rfl⟩
  · obtain ⟨v, rfl, a, ws, rfl, s, rl⟩ := one_rep r
    exact .inl ⟨a, ws, rfl, .inl (.inl (.inl (S.sub _ _ s))), by rw [← rl.length]; exact got S q rfl⟩
  · obtain ⟨v, rfl, a, ws, rfl, s, rl⟩ := one_rep r
    rw [hK] at s
    exact .inl ⟨a, ws, rfl, .inl (S.sub.sl s), by rw [← rl.length]; exact got S q rfl⟩
  · obtain ⟨v, rfl, h⟩ := one_rep r
    cases h
    split at q
    · rename_i hz
      exact .inr ⟨_, rfl, szOk_le hz, got S q rfl⟩
    · exact q.elim
  · exact q.elim
theorem ka_list (hK : Γ.K = X.K) : KeepsA Γ W (fun xs H Q => ∃ p ys, xs = [.ref p] ∧ (SqL X.K H p ys ∨ SqT X.K H p ys) ∧ ∀ l, H l = none → Q (.ref l) (upd H l (.lst ys))) listD := by
  intro Θ ρ σ as G M H ds vs Q S r q
  unfold listD at q
  split at q
  · obtain ⟨v, rfl, a, ws, rfl, s, rl⟩ := one_rep r
    rw [hK] at s
    exact ⟨a, ws, rfl, .inr (S.sub.st s), fun l n => keepsNewLst S rl q n⟩
  · obtain ⟨v, rfl, a, ws, rfl, s, rl⟩ := one_rep r
    exact ⟨a, ws, rfl, .inl (.inl (.inl (S.sub _ _ s))), fun l n => keepsNewLst S rl q n⟩
  · obtain ⟨v, rfl, a, ws, rfl, s, rl⟩ := one_rep r
    rw [hK] at s
    exact ⟨a, ws, rfl, .inl (S.sub.sl s), fun l n => keepsNewLst S rl q n⟩
  · exact q.elim
theorem ka_tuple (hK : Γ.K = X.K) : KeepsA Γ W (fun xs H Q => ∃ p ys, xs = [.ref p] ∧ ((SqL X.K H p ys ∧ ∀ l, H l = none → Q (.ref l) (upd H l (.tup ys))) ∨ (SqT X.K H p ys ∧ Q (.ref p) H))) tupleD := by
  intro Θ ρ σ as G M H ds vs Q S r q
  unfold tupleD at q
  split at q
  · obtain ⟨v, rfl, a, ws, rfl, s, rl⟩ := one_rep r
    exact ⟨a, ws, rfl, .inr ⟨by rw [hK] at s; exact S.sub.st s, got S q ⟨a, ws, rfl, s, rl⟩⟩⟩
  · obtain ⟨v, rfl, a, ws, rfl, s, rl⟩ := one_rep r
    exact ⟨a, ws, rfl, .inl ⟨.inl (.inl (S.sub _ _ s)), fun l n => keepsNewTup S rl q n⟩⟩
  · obtain ⟨v, rfl, a, ws, rfl, s, rl⟩ := one_rep r
    rw [hK] at s
    exact ⟨a, ws, rfl, .inl ⟨S.sub.sl s, fun l n => keepsNewTup S rl q n⟩⟩
  · exact q.elim
theorem bools_rep {as : List Addr} {G : Hp} : ∀ {xs : List D} {vs : List V} {bs : List Bool}, RepL Γ as G xs vs → bools xs = some bs → vs = bs.map V.bl
  | [], _, _, r, e => by cases e; cases r; rfl
  | .bl b :: xs, _, _, r, e => by
    obtain ⟨v, ws, rfl, rfl, r2⟩ := r
    rw [bools] at e
    cases q : bools xs with
    | none => rw [q] at e; cases e
    | some cs => rw [q] at e; cases e; rw [bools_rep r2 q]; rfl
  | .non :: xs, _, _, _, e => by cases e
  | .int _ :: xs, _, _, _, e => by cases e
  | .str _ :: xs, _, _, _, e => by cases e
  | .tup _ :: xs, _, _, _, e => by cases e
  | .lst _ :: xs, _, _, _, e => by cases e
  | .rol _ :: xs, _, _, _, e => by cases e
  | .ins _ _ :: xs, _, _, _, e => by cases e
  | .cel _ :: xs, _, _, _, e => by cases e
theorem ka_all : KeepsA Γ W (rAll X.K) allD := by
  intro Θ ρ σ as G M H ds vs Q S r q
  unfold allD at q
  split at q
  · split at q
    · rename_i bs hb
      obtain ⟨v, rfl, a, ws, rfl, s, rl⟩ := one_rep r
      exact ⟨a, bs, rfl, by rw [← bools_rep rl hb]; exact .inl (.inl (S.sub _ _ s)), got S q rfl⟩
    · exact q.elim
  · exact q.elim
theorem ka_any : KeepsA Γ W (rAny X.K) anyD := by
  intro Θ ρ σ as G M H ds vs Q S r q
  unfold anyD at q
  split at q
  · split at q
    · rename_i bs hb
      obtain ⟨v, rfl, a, ws, rfl, s, rl⟩ := one_rep r
      exact ⟨a, bs, rfl, by rw [← bools_rep rl hb]; exact .inl (.inl (S.sub _ _ s)), got S q rfl⟩
    · exact q.elim
  · exact q.elim

/-! ### subscripts -/
def itemD : D → D → List MO → R D
  | .tup xs, .int i, M => ofOpt (atI xs i) M
  | .lst xs, .int i, M => ofOpt (atI xs i) M
  | .rol xs, .int i, M => ofOpt (atI xs i) M
  | .str s, .int i, M => if szOk s.length then (match atI s.cps.toList i with
    | some c => .ok (.str ⟨#[c]⟩) M
    | none => .bad) else .bad
  | _, _, _ => .bad
theorem atI_rep {as : List Addr} {G : Hp} {xs : List D} {vs : List V} {i : Int} {d : D} (r : RepL Γ as G xs vs) (e : atI xs i = some d) : ∃ v, atI vs i = some v ∧ Rep Γ as G d v := by
  unfold atI at e ⊢
  rw [← r.length]
  cases q : ixN xs.length i with
  | none => rw [q] at e; cases e
  | some j => rw [q] at e; exact r.get e
theorem k_item (hK : Γ.K = X.K) : Keeps2 Γ W (fun _ => rIx X.K) itemD := by
  intro Θ ρ σ as G M H a b x y Q S ra rb q
  unfold itemD at q
  split at q
  · obtain ⟨p, vs, rfl, s, rl⟩ := ra
    cases rb
    unfold ofOpt at q
    split at q
    · rename_i d e
      obtain ⟨v, ev, rv⟩ := atI_rep rl e
      rw [hK] at s
      exact .inr (.inl ⟨p, vs, _, v, rfl, rfl, S.sub.st s, ev, got S q rv⟩)
    · exact q.elim
  · obtain ⟨p, vs, rfl, s, rl⟩ := ra
    cases rb
    unfold ofOpt at q
    split at q
    · rename_i d e
      obtain ⟨v, ev, rv⟩ := atI_rep rl e
      exact .inl ⟨p, vs, _, v, rfl, rfl, .inl (.inl (S.sub _ _ s)), ev, got S q rv⟩
    · exact q.elim
  · obtain ⟨p, vs, rfl, s, rl⟩ := ra
    cases rb
    unfold ofOpt at q
    split at q
    · rename_i d e
      obtain ⟨v, ev, rv⟩ := atI_rep rl e
      rw [hK] at s
      exact .inl ⟨p, vs, _, v, rfl, rfl, S.sub.sl s, ev, got S q rv⟩
    · exact q.elim
  · cases ra; cases rb
    split at q
    · rename_i hz
      split at q
      · rename_i c e
        exact .inr (.inr ⟨_, _, c, rfl, rfl, szOk_le hz, e, got S q rfl⟩)
      · exact q.elim
    · exact q.elim
  · exact q.elim
theorem q_ix {a b : Expr} {fa fb : FE} {pos : Pos} (hK : Γ.K = X.K) (ha : PE X a (tE Γ W fa)) (hb : PE X b (tE Γ W fb)) (hs : PlainIx b) : PE X (.Subscript a b pos) (tE Γ W (d2 itemD fa fb)) := PE.imp (pe_ix ix_seq ha hb hs) fun _ _ _ h => run2 (k_item hK) h

/-! ### what is walked -/
theorem sim_list {as : List Addr} {G : Hp} {a : Addr} {vs : List V} {ds : List D} (h : SqL X.K G a vs) (r : RepL Γ as G ds vs) : SimIt Γ (Itl X.K a) as G ds where
  go := fun i H le hi => ⟨vs, _, le.sl h, List.getElem?_eq_getElem (by rw [← r.length]; exact hi)⟩
  stop := fun i H le hi => ⟨vs, le.sl h, by rw [← r.length]; exact hi⟩
  yld := fun i H x H' d le hd hy => .inl ⟨hy.1, by
    obtain ⟨v, e, rv⟩ := r.get hd
    have z := hy.2 vs (le.sl h)
    rw [e] at z
    cases z
    exact rv⟩
theorem sim_tup {as : List Addr} {G : Hp} {a : Addr} {vs : List V} {ds : List D} (h : SqT X.K G a vs) (r : RepL Γ as G ds vs) : SimIt Γ (Itt X.K a) as G ds where
  go := fun i H le hi => ⟨vs, _, le.st h, List.getElem?_eq_getElem (by rw [← r.length]; exact hi)⟩
  stop := fun i H le hi => ⟨vs, le.st h, by rw [← r.length]; exact hi⟩
  yld := fun i H x H' d le hd hy => .inl ⟨hy.1, by
    obtain ⟨v, e, rv⟩ := r.get hd
    have z := hy.2 vs (le.st h)
    rw [e] at z
    cases z
    exact rv⟩
theorem qi_seq {tg e : Expr} {f : FE} (hK : Γ.K = X.K) (h : PE X e (tE Γ W f)) : PI X tg e (tI Γ W (iSeq f)) := PI.imp (PI.or (pi_list h) (pi_tup h)) fun σ H Rr ⟨Θ, as, G, M, ρ, S, q⟩ => by
  unfold iSeq at q
  cases ef : f ρ M with
  | bad => rw [ef] at q; exact q.elim
  | ex c xs M1 =>
    rw [ef] at q
    exact .inl ⟨Θ, as, G, M, ρ, S, by rw [ef]; exact q⟩
  | ok d M1 =>
    rw [ef] at q
    simp only [R.bind_ok] at q
    split at q
    · refine .inl ⟨Θ, as, G, M, ρ, S, ?_⟩
      rw [ef]
      rintro as' G' H' v S' le p ⟨a, vs, rfl, s, rl⟩
      have h1 : SqL X.K G' a vs := .inl (.inl s)
      exact ⟨a, rfl, ⟨vs, S'.sub.sl h1⟩, q as' G' H' _ S' le p (sim_list h1 rl)⟩
    · refine .inl ⟨Θ, as, G, M, ρ, S, ?_⟩
      rw [ef]
      rintro as' G' H' v S' le p ⟨a, vs, rfl, s, rl⟩
      rw [hK] at s
      exact ⟨a, rfl, ⟨vs, S'.sub.sl s⟩, q as' G' H' _ S' le p (sim_list s rl)⟩
    · refine .inr ⟨Θ, as, G, M, ρ, S, ?_⟩
      rw [ef]
      rintro as' G' H' v S' le p ⟨a, vs, rfl, s, rl⟩
      rw [hK] at s
      exact ⟨a, rfl, ⟨vs, S'.sub.st s⟩, q as' G' H' _ S' le p (sim_tup s rl)⟩
    · exact q.elim
theorem sim_range {as : List Addr} {G : Hp} {lo : Int} {n : Nat} : SimIt Γ (Itr lo n) as G ((List.range n).map fun (k : Nat) => D.int (lo + (k : Int))) where
  go := fun i H le hi => (show i < n by simpa using hi)
  stop := fun i H le hi => (show n ≤ i by simpa using hi)
  yld := fun i H x H' d le hd hy => .inl ⟨hy.1, by
    rw [List.getElem?_map] at hd
    cases q : (List.range n)[i]? with
    | none => rw [q] at hd; cases hd
    | some k =>
      rw [q] at hd
      have e : k = i := by
        obtain ⟨h1, h2⟩ := List.getElem?_eq_some_iff.mp q
        rw [List.getElem_range] at h2
        exact h2.symm
      cases hd
      subst e
      exact hy.2⟩
theorem qi_range1 {tg a : Expr} {f : FE} {p pos : Pos} (hg : Gl X "range") (hm : X.mg "range" = none) (ha : PE X a (tE Γ W f)) (hs : starEach [a] X.env = [(false, eval a X.env)] := by rfl) : PI X tg (.Call (.Name "range" p) [a] [] pos) (tI Γ W (iRange1 f)) :=
  PI.imp (pi_range1 hg hm (pa_cons ha pa_nil hs) hs) fun σ H Rr ⟨Θ, as, G, M, ρ, S, q⟩ => by
    refine ⟨Θ, as, G, M, ρ, S, (PostJ.bindE q).imp (Le.refl _) (List.prefix_refl _) ?_⟩
    rintro x H1 ⟨d, M1, as1, G1, S1, e1, p1, r, q1⟩
    split at q1
    · split at q1
      · rename_i j hj
        cases r
        refine ⟨j, rfl, hj.1, hj.2, q1 _ _ _ _ S1 (Le.refl _) (List.prefix_refl _) ?_⟩
        have z := sim_range (Γ := Γ) (as := as1) (G := G1) (lo := 0) (n := j.toNat)
        simpa using z
      · exact q1.elim
    · exact q1.elim
end
end DL
set_option maxRecDepth 100000
namespace DL
open PySem PySem.Spec PyProof.Rows L2

/-! ### dicts of data -/
def valD (kvs : List (Key × D)) (k : Key) : Option D := (kvs.find? fun kv => decide (kv.1 = k)).map (·.2)
def putD (kvs : List (Key × D)) (k : Key) (v : D) : List (Key × D) :=
  if (kvs.any fun kv => decide (kv.1 = k)) = true then kvs.map (fun kv => if kv.1 = k then (kv.1, v) else kv) else kvs ++ [(k, v)]
def keyD : D → Option Key
  | .int i => some (.inl i)
  | .str s => some (.inr s)
  | _ => none
section
variable {Γ : Gam} {as : List Addr} {G : Hp}
theorem keyD_rep {d : D} {v : V} {k : Key} (r : Rep Γ as G d v) (e : keyD d = some k) : v = kV k := by
  cases d <;> first | (cases e; cases r; rfl) | cases e
theorem RepKV.length : ∀ {xs : List (Key × D)} {vs : List (Key × V)}, RepKV Γ as G xs vs → xs.length = vs.length
  | [], _, h => by cases h; rfl
  | x :: xs, _, h => by obtain ⟨v, ws, rfl, _, t⟩ := h; simp [RepKV.length t]
theorem RepKV.val : ∀ {xs : List (Key × D)} {vs : List (Key × V)} {k : Key} {d : D}, RepKV Γ as G xs vs → valD xs k = some d → ∃ v, valV vs k = some v ∧ Rep Γ as G d v
  | [], _, k, d, h, e => by cases e
  | x :: xs, _, k, d, h, e => by
    obtain ⟨v, ws, rfl, r, t⟩ := h
    unfold valD at e
    unfold valV
    rw [List.find?_cons] at e ⊢
    by_cases q : x.1 = k
    · simp only [q, decide_true] at e ⊢
      cases e
      exact ⟨v, rfl, r⟩
    · simp only [q, decide_false] at e ⊢
      exact RepKV.val t e
theorem RepKV.valNone : ∀ {xs : List (Key × D)} {vs : List (Key × V)} {k : Key}, RepKV Γ as G xs vs → valD xs k = none → valV vs k = none
  | [], _, k, h, e => by cases h; rfl
  | x :: xs, _, k, h, e => by
    obtain ⟨v, ws, rfl, r, t⟩ := h
    unfold valD at e
    unfold valV
    rw [List.find?_cons] at e ⊢
    by_cases q : x.1 = k
    · simp only [q, decide_true] at e; cases e
    · simp only [q, decide_false] at e ⊢
      exact RepKV.valNone t e
theorem RepKV.any : ∀ {xs : List (Key × D)} {vs : List (Key × V)} {k : Key}, RepKV Γ as G xs vs → (xs.any fun kv => decide (kv.1 = k)) = vs.any fun kv => decide (kv.1 = k)
  | [], _, k, h => by cases h; rfl
  | x :: xs, _, k, h => by
    obtain ⟨v, ws, rfl, r, t⟩ := h
    rw [List.any_cons, List.any_cons, RepKV.any t]
theorem RepKV.map {k : Key} {d : D} {v : V} (r : Rep Γ as G d v) : ∀ {xs : List (Key × D)} {vs : List (Key × V)}, RepKV Γ as G xs vs → RepKV Γ as G (xs.map fun kv => if kv.1 = k then (kv.1, d) else kv) (vs.map fun kv => if kv.1 = k then (kv.1, v) else kv)
  | [], _, h => by cases h; rfl
  | x :: xs, _, h => by
    obtain ⟨w, ws, rfl, rw', t⟩ := h
    rw [List.map_cons, List.map_cons]
    by_cases q : x.1 = k
    · simp only [q, if_true]; exact ⟨v, _, rfl, r, RepKV.map r t⟩
    · simp only [q, if_false]; exact ⟨w, _, rfl, rw', RepKV.map r t⟩
theorem RepKV.snoc {k : Key} {d : D} {v : V} (r : Rep Γ as G d v) : ∀ {xs : List (Key × D)} {vs : List (Key × V)}, RepKV Γ as G xs vs → RepKV Γ as G (xs ++ [(k, d)]) (vs ++ [(k, v)])
  | [], _, h => by cases h; exact ⟨v, [], rfl, r, rfl⟩
  | x :: xs, _, h => by
    obtain ⟨w, ws, rfl, rw', t⟩ := h
    exact ⟨w, _, rfl, rw', RepKV.snoc r t⟩
theorem RepKV.put {k : Key} {d : D} {v : V} {xs : List (Key × D)} {vs : List (Key × V)} (r : Rep Γ as G d v) (h : RepKV Γ as G xs vs) : RepKV Γ as G (putD xs k d) (putK vs k v) := by
  unfold putD putK
  rw [RepKV.any h]
  by_cases q : (vs.any fun kv => decide (kv.1 = k)) = true
  · rw [if_pos q, if_pos q]; exact h.map r
  · rw [if_neg q, if_neg q]; exact h.snoc r
end

/-! ### stores -/
section
variable {Γ : Gam} {Θ : Ent} {as : List Addr} {G H : Hp} {M : List MO} {ρ : List Sl} {σ : L2.St}
/-- a thing that changes gets a new content -/
theorem Sta.putCel (S : Sta Γ Θ as G M ρ σ H) {n : Nat} {a : Addr} {m m' : MO} {o : HO} (ea : as[n]? = some a) (em : M[n]? = some m) (hm : m ≠ .dead) (r : RepM Γ as G (upd H a o) a m') : Sta Γ Θ as G (M.set n m') ρ σ (upd H a o) := by
  obtain ⟨g, ⟨u, hu⟩, _⟩ := S.cel n a m ea em hm
  have gne : ∀ b w, G b = some w → b ≠ a := fun b w h e => by rw [e, g] at h; cases h
  have hn : n < M.length := (List.getElem?_eq_some_iff.mp em).1
  have own : ∀ i b, Owns ρ σ i b → b ≠ a := fun i b ob e => (S.own i b ob).2.1 (by rw [e]; exact List.mem_of_getElem? ea)
  refine ⟨⟨fun b w h => by rw [upd_ne (gne b w h)]; exact S.sub b w h, S.grow, S.ext, S.esub, fun b w h nm => ?_, fun b w h => ?_, S.gfr, by rw [List.length_set]; exact S.len, S.nd, fun k b mm h1 h2 h3 => ?_, S.cfr, fun b hb => ?_⟩, S.slen, fun i s ov h1 h2 => ?_, S.own, S.odj, S.slf⟩
  · have e : b ≠ a := fun e => by
      subst e
      rcases S.cfr b (List.mem_of_getElem? ea) with q | q
      · exact nm (S.esub b q)
      · rw [q] at h; cases h
    rw [upd_ne e]; exact S.fr b w h nm
  · by_cases e : b = a
    · subst e; exact ⟨o, upd_same⟩
    · rw [upd_ne e]; exact S.pres b w h
  · by_cases hk : n = k
    · subst hk
      rw [List.getElem?_set_self hn] at h2
      cases h2
      rw [ea] at h1
      cases h1
      exact ⟨g, ⟨o, upd_same⟩, r⟩
    · rw [List.getElem?_set_ne hk] at h2
      obtain ⟨c1, ⟨w, c2⟩, c3⟩ := S.cel k b mm h1 h2 h3
      have e : b ≠ a := fun e => by
        subst e
        have l1 := (List.getElem?_eq_some_iff.mp ea)
        have l2 := (List.getElem?_eq_some_iff.mp h1)
        exact hk ((List.getElem_inj S.nd).mp (l1.2.trans l2.2.symm))
      exact ⟨c1, ⟨w, by rw [upd_ne e]; exact c2⟩, c3.mono (Le.refl _) (List.prefix_refl _) (upd_ne e)⟩
  · by_cases e : b = a
    · subst e; exact ⟨o, upd_same⟩
    · rw [upd_ne e]; exact S.ain b hb
  · refine RepS.mono (Le.refl _) (List.prefix_refl _) (fun b hs e => ?_) (S.env i s ov h1 h2)
    subst e
    refine upd_ne (own i b ⟨?_, h2⟩)
    rcases hs with ⟨xs, e⟩ | ⟨c, ns, xs, e⟩
    · exact .inl ⟨xs, e ▸ h1⟩
    · exact .inr ⟨c, ns, xs, e ▸ h1⟩
/-- a slot's own thing gets a new content -/
theorem Sta.putOwn (S : Sta Γ Θ as G M ρ σ H) {i : Nat} {a : Addr} {s' : Sl} {o : HO} (ow : Owns ρ σ i a) (hs' : (∃ xs, s' = .own xs) ∨ ∃ c ns xs, s' = .obj c ns xs) (hsl : ∀ c ns xs, s' = .obj c ns xs → Θ.sf = some a) (r : RepS Γ as G (upd H a o) s' (some (.ref a))) : Sta Γ Θ as G M (ρ.set i s') σ (upd H a o) := by
  obtain ⟨g, aa, hmu⟩ := S.own i a ow
  have gne : ∀ b w, G b = some w → b ≠ a := fun b w h e => by rw [e, g] at h; cases h
  have hi : i < ρ.length := by
    rcases ow.1 with ⟨xs, h⟩ | ⟨c, ns, xs, h⟩ <;> exact (List.getElem?_eq_some_iff.mp h).1
  have ow' : ∀ j b, Owns (ρ.set i s') σ j b → Owns ρ σ j b := fun j b ⟨h, e⟩ => by
    by_cases hj : i = j
    · subst hj
      rw [ow.2] at e
      cases e
      exact ow
    · rw [List.getElem?_set_ne hj] at h
      exact ⟨h, e⟩
  have ne : ∀ j b, Owns ρ σ j b → j ≠ i → b ≠ a := fun j b ob hj e => hj (S.odj j i a (e ▸ ob) ow)
  refine ⟨⟨fun b w h => by rw [upd_ne (gne b w h)]; exact S.sub b w h, S.grow, S.ext, S.esub, fun b w h nm => ?_, fun b w h => ?_, S.gfr, S.len, S.nd, fun k b mm h1 h2 h3 => ?_, S.cfr, fun b hb => ?_⟩, by rw [List.length_set]; exact S.slen, fun j s ov h1 h2 => ?_, fun j b ob => S.own j b (ow' j b ob), fun j k b o1 o2 => S.odj j k b (ow' j b o1) (ow' k b o2), fun j c ns xs b h1 h2 => ?_⟩
  · have e : b ≠ a := fun e => by
      subst e
      rcases hmu with q | q
      · rw [q] at h; cases h
      · exact nm q
    rw [upd_ne e]; exact S.fr b w h nm
  · by_cases e : b = a
    · subst e; exact ⟨o, upd_same⟩
    · rw [upd_ne e]; exact S.pres b w h
  · obtain ⟨c1, ⟨w, c2⟩, c3⟩ := S.cel k b mm h1 h2 h3
    have e : b ≠ a := fun e => aa (by rw [← e]; exact List.mem_of_getElem? h1)
    exact ⟨c1, ⟨w, by rw [upd_ne e]; exact c2⟩, c3.mono (Le.refl _) (List.prefix_refl _) (upd_ne e)⟩
  · have e : b ≠ a := fun e => aa (e ▸ hb)
    rw [upd_ne e]; exact S.ain b hb
  · by_cases hj : i = j
    · subst hj
      rw [List.getElem?_set_self hi] at h1
      cases h1
      rw [ow.2] at h2
      cases h2
      exact r
    · rw [List.getElem?_set_ne hj] at h1
      refine RepS.mono (Le.refl _) (List.prefix_refl _) (fun b hs e => ?_) (S.env j s ov h1 h2)
      subst e
      refine upd_ne (ne j b ⟨?_, h2⟩ (Ne.symm hj))
      rcases hs with ⟨xs, e⟩ | ⟨c, ns, xs, e⟩
      · exact .inl ⟨xs, e ▸ h1⟩
      · exact .inr ⟨c, ns, xs, e ▸ h1⟩
  · by_cases hj : i = j
    · subst hj
      rw [List.getElem?_set_self hi] at h1
      cases h1
      rw [ow.2] at h2
      cases h2
      exact hsl c ns xs rfl
    · rw [List.getElem?_set_ne hj] at h1
      exact S.slf j c ns xs b h1 h2
/-- a new own list goes into a slot -/
theorem Sta.setOwn (S : Sta Γ Θ as G M ρ σ H) {p : Addr} {vs : List V} {xs : List D} (i : Nat) (hp : H p = some (.lst vs)) (r : RepL Γ as G xs vs) (g : G p = none) (pa : p ∉ as) (pe : Θ.H p = none) (po : ∀ j, ¬ Owns ρ σ j p) : Sta Γ Θ as G M (ρ.set i (.own xs)) (σ.set i (some (.ref p))) H := by
  have ow : ∀ j a, Owns (ρ.set i (.own xs)) (σ.set i (some (.ref p))) j a → (j = i ∧ a = p) ∨ (j ≠ i ∧ Owns ρ σ j a) := fun j a ⟨h, e⟩ => by
    by_cases hj : i = j
    · subst hj
      rw [List.getElem?_set_self'] at e
      cases q : σ[i]? <;> rw [q] at e <;> simp at e
      exact .inl ⟨rfl, e.symm⟩
    · rw [List.getElem?_set_ne hj] at e
      rw [List.getElem?_set_ne hj] at h
      exact .inr ⟨Ne.symm hj, h, e⟩
  refine ⟨S.toSt2, by simp [S.slen], fun j s ov h1 h2 => ?_, fun j a o => ?_, fun j k a o1 o2 => ?_, fun j c ns ys a h1 h2 => ?_⟩
  · by_cases hj : i = j
    · subst hj
      rw [List.getElem?_set_self'] at h1 h2
      cases q : ρ[i]? <;> rw [q] at h1 <;> simp at h1
      cases q2 : σ[i]? <;> rw [q2] at h2 <;> simp at h2
      subst h1; subst h2
      exact ⟨p, vs, rfl, hp, r⟩
    · rw [List.getElem?_set_ne hj] at h1 h2
      exact S.env j s ov h1 h2
  · rcases ow j a o with ⟨_, rfl⟩ | ⟨_, o'⟩
    · exact ⟨g, pa, .inl pe⟩
    · exact S.own j a o'
  · rcases ow j a o1 with ⟨h1, h2⟩ | ⟨h1, h2⟩ <;> rcases ow k a o2 with ⟨h3, h4⟩ | ⟨h3, h4⟩
    · rw [h1, h3]
    · exact absurd (h2 ▸ h4) (po k)
    · exact absurd (h4 ▸ h2) (po j)
    · exact S.odj j k a h2 h4
  · by_cases hj : i = j
    · subst hj
      rw [List.getElem?_set_self'] at h1
      cases q : ρ[i]? <;> rw [q] at h1 <;> simp at h1
    · rw [List.getElem?_set_ne hj] at h1 h2
      exact S.slf j c ns ys a h1 h2
/-- a new thing that changes -/
theorem St2.newCel {as' : List Addr} (S : St2 Γ Θ as G M H) {p : Addr} {o : HO} {m : MO} (hn : H p = none) (r : RepM Γ (as ++ [p]) G (upd H p o) p m) : St2 Γ (DL.now H as G) (as ++ [p]) G (M ++ [m]) (upd H p o) := by
  have gp : G p = none := S.sub.free hn
  have pa : p ∉ as := fun z => by
    obtain ⟨u, h⟩ := S.ain p z
    rw [hn] at h; cases h
  refine ⟨fun b u h => Le.new hn b u (S.sub b u h), Le.refl _, List.prefix_append _ _, fun _ h => h, fun b u h _ => Le.new hn b u h, fun b u h => ⟨u, Le.new hn b u h⟩, fun b u h => .inl h, by simp [S.len], ?_, fun k b mm h1 h2 h3 => ?_, fun b h => ?_, fun b h => ?_⟩
  · rw [List.nodup_append]
    refine ⟨S.nd, by simp, fun x hx y hy e => ?_⟩
    rw [List.mem_singleton] at hy
    subst hy; subst e
    exact pa hx
  · by_cases hk : k < as.length
    · rw [List.getElem?_append_left hk] at h1
      rw [List.getElem?_append_left (by rw [← S.len]; exact hk)] at h2
      obtain ⟨c1, ⟨u, c2⟩, c3⟩ := S.cel k b mm h1 h2 h3
      have e : b ≠ p := ne_of_none c2 hn
      exact ⟨c1, ⟨u, by rw [upd_ne e]; exact c2⟩, c3.mono (Le.refl _) (List.prefix_append _ _) (upd_ne e)⟩
    · rw [List.getElem?_append_right (Nat.le_of_not_lt hk)] at h1
      rw [List.getElem?_append_right (by rw [← S.len]; exact Nat.le_of_not_lt hk)] at h2
      have z : k - as.length = 0 := by
        have := (List.getElem?_eq_some_iff.mp h1).1
        simp at this
        omega
      rw [z] at h1
      rw [← S.len, z] at h2
      simp at h1 h2
      subst h1; subst h2
      exact ⟨gp, ⟨o, upd_same⟩, r⟩
  · rcases List.mem_append.mp h with q | q
    · exact .inl q
    · rw [List.mem_singleton.mp q]; exact .inr hn
  · rcases List.mem_append.mp h with q | q
    · obtain ⟨u, e⟩ := S.ain b q
      exact ⟨u, Le.new hn b u e⟩
    · rw [List.mem_singleton.mp q]; exact ⟨o, upd_same⟩
end
section
variable {X : Cx} {Γ : Gam} {W : WX}
/-! ### a new list, nobody else's -/
abbrev FO := FA
def PostO (Γ : Gam) (Θ : Ent) (W : WX) (ρ : List Sl) (σ : L2.St) (as : List Addr) (G : Hp) (Q : VK) : R (List D) → Prop
  | .ok xs M => ∀ as' G' H' p vs, Sta Γ Θ as' G' M ρ σ H' → Le G G' → as <+: as' → RepL Γ as' G' xs vs → H' p = some (.lst vs) → G' p = none → p ∉ as' → Θ.H p = none → (∀ i, ¬ Owns ρ σ i p) → Q (.ref p) H'
  | .ex c xs M => ∀ as' G' H' d, Sta Γ Θ as' G' M ρ σ H' → Le G G' → as <+: as' → XP Γ as' G' c xs d → W (.ref (Γ.eA c)) (some d) σ H'
  | .bad => False
def tO (Γ : Gam) (W : WX) (f : FO) : TE := fun σ H Q => ∃ Θ as G M ρ, Sta Γ Θ as G M ρ σ H ∧ PostO Γ Θ W ρ σ as G Q (f ρ M)
/-- it stands for good -/
def dL (f : FO) : FE := fun ρ M => (f ρ M).bind fun xs M => .ok (.lst xs) M
theorem run_ofO {f : FO} {σ : L2.St} {H : Hp} {Q : VK} (h : tE Γ W (dL f) σ H Q) : tO Γ W f σ H Q := by
  obtain ⟨Θ, as, G, M, ρ, S, q⟩ := h
  refine ⟨Θ, as, G, M, ρ, S, ?_⟩
  unfold dL at q
  cases ef : f ρ M with
  | bad => rw [ef] at q; exact q.elim
  | ex c xs M1 => rw [ef] at q; exact q
  | ok xs M1 =>
    rw [ef] at q
    intro as' G' H' p vs S' le pa r hp g na th no
    have S2 := S'.toSt2.freeze g hp (.inl th) na
    refine q as' (upd G' p (.lst vs)) H' (.ref p) ⟨S2, S'.slen, fun i s ov h1 h2 => ?_, fun i a o => ?_, S'.odj, S'.slf⟩ (le.trans (Le.new g)) pa ⟨p, vs, rfl, upd_same, r.mono (Le.new g) (List.prefix_refl _)⟩
    · exact RepS.mono (Le.new g) (List.prefix_refl _) (fun _ _ _ => rfl) (S'.env i s ov h1 h2)
    · obtain ⟨o1, o2, o3⟩ := S'.own i a o
      exact ⟨by rw [upd_ne (show a ≠ p from fun e => no i (e ▸ o))]; exact o1, o2, o3⟩
theorem q_ofO {e : Expr} {f : FO} (h : PE X e (tO Γ W f)) : PE X e (tE Γ W (dL f)) := PE.imp h fun _ _ _ h => run_ofO h
theorem q_setF {st : Stmt} {i : Nat} {f : FO} (h : PS X st (tAsg (tO Γ W f) (gName i))) : PS X st (tAsg (tE Γ W (dL f)) (gName i)) := PS.imp h fun _ _ _ h => run_ofO h
theorem newO {Θ : Ent} {as : List Addr} {G H : Hp} {M : List MO} {ρ : List Sl} {σ : L2.St} {ds : List D} {vs : List V} {Q : VK} (S : Sta Γ Θ as G M ρ σ H) (r : RepL Γ as G ds vs) (q : PostO Γ Θ W ρ σ as G Q (.ok ds M)) {p : Addr} (n : H p = none) : Q (.ref p) (upd H p (.lst vs)) := by
  refine q as G _ p vs (S.after (S.toSt2.lay0 n)) (Le.refl _) (List.prefix_refl _) r upd_same (S.sub.free n) (fun z => ?_) (S.toSt2.old n) fun i o => ?_
  · obtain ⟨u, h⟩ := S.ain p z
    rw [n] at h; cases h
  · obtain ⟨u, h⟩ := Owns.inH S o
    rw [n] at h; cases h
def oLst (fa : FA) : FO := fun ρ M => (fa ρ M).bind fun ds M => if szOk ds.length then .ok ds M else .bad
theorem PostO.bindA {Θ : Ent} {ρ : List Sl} {σ : L2.St} {as : List Addr} {G : Hp} {Q : VK} {r : R (List D)} {k : List D → List MO → R (List D)} (h : PostO Γ Θ W ρ σ as G Q (r.bind k)) :
    PostA Γ Θ W ρ σ as G (fun vs H' => ∃ ds M' as' G', Sta Γ Θ as' G' M' ρ σ H' ∧ Le G G' ∧ as <+: as' ∧ RepL Γ as' G' ds vs ∧ PostO Γ Θ W ρ σ as' G' Q (k ds M')) r := by
  cases r with
  | ok d M =>
    intro as' G' H' v s e p x
    refine ⟨d, M, as', G', s, e, p, x, ?_⟩
    have h' : PostO Γ Θ W ρ σ as G Q (k d M) := h
    cases q : k d M with
    | ok ds M2 => rw [q] at h'; exact fun a2 G2 H2 p2 vs s2 e2 x2 => h' a2 G2 H2 p2 vs s2 (e.trans e2) (p.trans x2)
    | ex c xs M2 => rw [q] at h'; exact fun a2 G2 H2 J s2 e2 p2 z => h' a2 G2 H2 J s2 (e.trans e2) (p.trans p2) z
    | bad => rw [q] at h'; exact h'
  | ex c xs M => exact h
  | bad => exact h
theorem qo_lst {es : List Expr} {pos : Pos} {fa : FA} (h : PA X es (tA Γ W fa)) : PE X (.List es pos) (tO Γ W (oLst fa)) := PE.imp (pe_lst h) fun σ H Q ⟨Θ, as, G, M, ρ, S, q⟩ => by
  refine ⟨Θ, as, G, M, ρ, S, (PostO.bindA q).imp (Le.refl _) (List.prefix_refl _) ?_⟩
  rintro vs H1 ⟨ds, M1, as1, G1, S1, e1, p1, r, q1⟩
  split at q1
  · rename_i hz
    exact ⟨by rw [← r.length]; exact szOk_le hz, fun p n => newO S1 r q1 n⟩
  · exact q1.elim
def oList (fa : FA) : FO := fun ρ M => (fa ρ M).bind fun ds M => match ds with
  | [.tup xs] => .ok xs M
  | [.lst xs] => .ok xs M
  | [.rol xs] => .ok xs M
  | _ => .bad
theorem qo_list {x : Str} {p pos : Pos} {e : Expr} {es : List Expr} {fa : FA} (hK : Γ.K = X.K) (hg : Gl X x) (hm : X.mg x = none) (hv : bootBuiltins x = some (.type "list")) (ha : PA X (e :: es) (tA Γ W fa)) (hn : x ≠ "__name__" := by decide) (hdb : (x == ("__debug__" : Str)) = false := by decide)
    (he : starEach (e :: es) X.env = (false, eval e X.env) :: starEach es X.env := by rfl) (hpl : (backTo pos (starEach es X.env)).any (·.1) = false := by rfl) : PE X (.Call (.Name x p) (e :: es) [] pos) (tO Γ W (oList fa)) :=
  PE.imp (pe_callTy call_list_of hg hm hv ha hn hdb he hpl) fun σ H Q ⟨Θ, as, G, M, ρ, S, q⟩ => by
    refine ⟨Θ, as, G, M, ρ, S, (PostO.bindA q).imp (Le.refl _) (List.prefix_refl _) ?_⟩
    rintro vs H1 ⟨ds, M1, as1, G1, S1, e1, p1, r, q1⟩
    split at q1
    · obtain ⟨v, rfl, a, ws, rfl, s, rl⟩ := one_rep r
      rw [hK] at s
      exact ⟨a, ws, rfl, .inr (S1.sub.st s), fun l n => newO S1 rl q1 n⟩
    · obtain ⟨v, rfl, a, ws, rfl, s, rl⟩ := one_rep r
      exact ⟨a, ws, rfl, .inl (.inl (.inl (S1.sub _ _ s))), fun l n => newO S1 rl q1 n⟩
    · obtain ⟨v, rfl, a, ws, rfl, s, rl⟩ := one_rep r
      rw [hK] at s
      exact ⟨a, ws, rfl, .inl (S1.sub.sl s), fun l n => newO S1 rl q1 n⟩
    · exact q1.elim
/-- x = a new list, one's own -/
def dSetO (i : Nat) (f : FO) : FS := fun ρ M => (f ρ M).sbind ρ fun xs M => .nx (ρ.set i (.own xs)) M
theorem q_setO {st : Stmt} {i : Nat} {f : FO} (h : PS X st (tAsg (tO Γ W f) (gName i))) : PS X st (tS Γ W (dSetO i f)) := PS.imp h fun D σ H ⟨Θ, as, G, M, ρ, S, q⟩ => by
  refine ⟨Θ, as, G, M, ρ, S, ?_⟩
  unfold dSetO at q
  cases ef : f ρ M with
  | bad => rw [ef] at q; exact q.elim
  | ex c xs M1 => rw [ef] at q; exact fun as' G' H' d s _ _ x => q as' G' σ H' d s x
  | ok xs M1 =>
    rw [ef] at q
    exact fun as' G' H' p vs S' le pa r hp g na th no => q as' G' _ H' (S'.setOwn i hp r g na th no)
/-- what a slot owns stands for good from here on -/
def frz (i : Nat) (ρ : List Sl) : List Sl := match ρ[i]? with
  | some (.own xs) => ρ.set i (.d (.lst xs))
  | _ => ρ
theorem Sta.frz {Θ : Ent} {as : List Addr} {G H : Hp} {M : List MO} {ρ : List Sl} {σ : L2.St} (S : Sta Γ Θ as G M ρ σ H) (i : Nat) : ∃ G', Le G G' ∧ Sta Γ Θ as G' M (DL.frz i ρ) σ H := by
  unfold DL.frz
  split
  · rename_i xs hi
    have hl : i < σ.length := by rw [← S.slen]; exact (List.getElem?_eq_some_iff.mp hi).1
    obtain ⟨a, vs, e, hv, r⟩ := S.env i _ _ hi (List.getElem?_eq_getElem hl)
    have ow : Owns ρ σ i a := ⟨.inl ⟨xs, hi⟩, by rw [List.getElem?_eq_getElem hl, e]⟩
    obtain ⟨g, na, mu⟩ := S.own i a ow
    have S2 := S.toSt2.freeze g hv mu na
    refine ⟨upd G a (.lst vs), Le.new g, S2, by rw [List.length_set]; exact S.slen, fun j s ov h1 h2 => ?_, fun j b o => ?_, fun j k b o1 o2 => ?_, fun j c ns ys b h1 h2 => ?_⟩
    · by_cases hj : i = j
      · subst hj
        rw [List.getElem?_set_self (by rw [S.slen]; exact hl)] at h1
        cases h1
        rw [ow.2] at h2
        cases h2
        exact ⟨_, rfl, a, vs, rfl, upd_same, r.mono (Le.new g) (List.prefix_refl _)⟩
      · rw [List.getElem?_set_ne hj] at h1
        exact RepS.mono (Le.new g) (List.prefix_refl _) (fun _ _ _ => rfl) (S.env j s ov h1 h2)
    · have oo : j ≠ i ∧ Owns ρ σ j b := by
        obtain ⟨h, e⟩ := o
        by_cases hj : i = j
        · subst hj
          exfalso
          rcases h with ⟨ys, h⟩ | ⟨c, ns, ys, h⟩ <;> (rw [List.getElem?_set_self (by rw [S.slen]; exact hl)] at h; cases h)
        · rw [List.getElem?_set_ne hj] at h
          exact ⟨Ne.symm hj, h, e⟩
      obtain ⟨h1, h2, h3⟩ := S.own j b oo.2
      exact ⟨by rw [upd_ne (show b ≠ a from fun e => oo.1 (S.odj j i a (e ▸ oo.2) ow))]; exact h1, h2, h3⟩
    · have key : ∀ j b, Owns (ρ.set i (.d (.lst xs))) σ j b → Owns ρ σ j b := fun j b ⟨h, e⟩ => by
        by_cases hj : i = j
        · subst hj
          exfalso
          rcases h with ⟨ys, h⟩ | ⟨c, ns, ys, h⟩ <;> (rw [List.getElem?_set_self (by rw [S.slen]; exact hl)] at h; cases h)
        · rw [List.getElem?_set_ne hj] at h
          exact ⟨h, e⟩
      exact S.odj j k b (key j b o1) (key k b o2)
    · by_cases hj : i = j
      · subst hj
        rw [List.getElem?_set_self (by rw [S.slen]; exact hl)] at h1
        cases h1
      · rw [List.getElem?_set_ne hj] at h1
        exact S.slf j c ns ys b h1 h2
  · exact ⟨G, Le.refl _, S⟩
def dFrz (i : Nat) (f : FS) : FS := fun ρ M => f (DL.frz i ρ) M
theorem q_frz {st : Stmt} {f : FS} (i : Nat) (h : PS X st (tS Γ W f)) : PS X st (tS Γ W (dFrz i f)) := PS.imp h fun D σ H ⟨Θ, as, G, M, ρ, S, q⟩ => by
  obtain ⟨G', _, S'⟩ := S.frz i
  exact ⟨Θ, as, G', M, _, S', q⟩
/-! ### append -/
def dApp (i : Nat) (f : FE) : FS := fun ρ M => match ρ[i]? with
  | some (.own xs) => (f ρ M).sbind ρ fun d M => if szOk (xs.length + 1) then .nx (ρ.set i (.own (xs ++ [d]))) M else .bad
  | _ => .bad
theorem szOk_lt {n : Nat} (h : szOk (n + 1) = true) : n < sizeLine := szOk_le h
theorem Sta.at_own {Θ : Ent} {as : List Addr} {G H : Hp} {M : List MO} {ρ : List Sl} {σ : L2.St} (S : Sta Γ Θ as G M ρ σ H) {i : Nat} {xs : List D} (h : ρ[i]? = some (.own xs)) : ∃ a vs, Owns ρ σ i a ∧ H a = some (.lst vs) ∧ RepL Γ as G xs vs := by
  have hl : i < σ.length := by rw [← S.slen]; exact (List.getElem?_eq_some_iff.mp h).1
  obtain ⟨a, vs, e, hv, r⟩ := S.env i _ _ h (List.getElem?_eq_getElem hl)
  exact ⟨a, vs, ⟨.inl ⟨xs, h⟩, by rw [List.getElem?_eq_getElem hl, e]⟩, hv, r⟩
theorem q_app {st : Stmt} {i : Nat} {f : FE} (h : PS X st (tDrop (tBM X.K "list" rAppend (tVar i) (tCons (tE Γ W f) tNil)))) : PS X st (tS Γ W (dApp i f)) := PS.imp h fun D σ H ⟨Θ, as, G, M, ρ, S, q⟩ => by
  unfold dApp at q
  split at q
  · rename_i xs hi
    obtain ⟨a, vs, ow, ha, r⟩ := S.at_own hi
    refine ⟨.ref a, ow.2, .inl ⟨rfl, vs, .inl (.inl ha)⟩, Θ, as, G, M, ρ, S, (PostS.bindE q).imp (Le.refl _) (List.prefix_refl _) ?_⟩
    rintro v H1 ⟨d, M1, as1, G1, S1, e1, p1, rd, q1⟩
    obtain ⟨a1, ws, ow1, ha1, r1⟩ := S1.at_own hi
    have e : a1 = a := by
      have z := ow1.2.symm.trans ow.2
      simpa using z
    subst e
    split at q1
    · rename_i hz
      refine ⟨a1, ws, v, rfl, rfl, ha1, by rw [← r1.length]; exact szOk_lt hz, ?_⟩
      exact q1 _ _ _ _ (S1.putOwn ow1 (.inl ⟨_, rfl⟩) (fun _ _ _ z => nomatch z) ⟨a1, _, rfl, upd_same, r1.append (RepL.cons rd RepL.nil)⟩)
    · exact q1.elim
  · exact q.elim
/-! ### self.f = e, self being made -/
def dPutSelf (f : Str) (fe : FE) : FS := fun ρ M => (fe ρ M).sbind ρ fun d M => match ρ[0]? with
  | some (Sl.obj c ns xs) => if f ∈ cn c ∧ ns.length < 900 then .nx (ρ.set 0 (.obj c (putN f d ns xs).1 (putN f d ns xs).2)) M else .bad
  | _ => .bad
theorem Sta.at_obj {Θ : Ent} {as : List Addr} {G H : Hp} {M : List MO} {ρ : List Sl} {σ : L2.St} (S : Sta Γ Θ as G M ρ σ H) {i c : Nat} {ns : List Str} {xs : List D} (h : ρ[i]? = some (.obj c ns xs)) : ∃ a dx vs, Owns ρ σ i a ∧ H a = some (.ins (Γ.cA c) dx (ns.zip vs)) ∧ vs.length = ns.length ∧ RepL Γ as G xs vs := by
  have hl : i < σ.length := by rw [← S.slen]; exact (List.getElem?_eq_some_iff.mp h).1
  obtain ⟨a, dx, vs, e, hv, l, r⟩ := S.env i _ _ h (List.getElem?_eq_getElem hl)
  exact ⟨a, dx, vs, ⟨.inr ⟨c, ns, xs, h⟩, by rw [List.getElem?_eq_getElem hl, e]⟩, hv, l, r⟩
theorem self_put {Θ : Ent} {as : List Addr} {G H : Hp} {M : List MO} {ρ : List Sl} {σ : L2.St} (S : Sta Γ Θ as G M ρ σ H) {c : Nat} {ns : List Str} {xs : List D} (h : ρ[0]? = some (.obj c ns xs)) {f : Str} {d : D} {v : V} (r : Rep Γ as G d v) :
    ∃ a dx fs, σ[0]? = some (some (.ref a)) ∧ H a = some (.ins (Γ.cA c) dx fs) ∧ fs.length ≤ ns.length ∧ Sta Γ Θ as G M (ρ.set 0 (.obj c (putN f d ns xs).1 (putN f d ns xs).2)) σ (upd H a (.ins (Γ.cA c) dx (putF f v fs))) := by
  obtain ⟨a, dx, vs, ow, ha, l, rl⟩ := S.at_obj h
  obtain ⟨h1, h2⟩ := putN_rep (f := f) r (ns := ns) rl l
  refine ⟨a, dx, _, ow.2, ha, by rw [List.length_zip]; exact Nat.min_le_left _ _, S.putOwn ow (.inr ⟨_, _, _, rfl⟩) (fun c' ns' xs' e => S.slf 0 c ns xs a h ow.2) ?_⟩
  rw [putN_zip l, h1]
  exact ⟨a, dx, _, rfl, upd_same, putN_len l, h2⟩
theorem q_putSelf {st : Stmt} {f : Str} {fe : FE} (T : GOk Γ) (hK : Γ.K = X.K) (h : PS X st (sFld X.K (tVar 0) (tE Γ W fe) f)) : PS X st (tS Γ W (dPutSelf f fe)) := PS.imp h fun D σ H ⟨Θ, as, G, M, ρ, S, q⟩ => by
  refine ⟨Θ, as, G, M, ρ, S, (PostS.bindE q).imp (Le.refl _) (List.prefix_refl _) ?_⟩
  rintro v H1 ⟨d, M1, as1, G1, S1, e1, p1, rd, q1⟩
  split at q1
  · rename_i c ns xs h0
    split at q1
    · rename_i hc
      obtain ⟨a, dx, fs, hs, ha, hl, S2⟩ := self_put S1 h0 (f := f) rd
      obtain ⟨c1, c2⟩ := T.cls c f hc.1
      rw [hK] at c1 c2
      exact ⟨.ref a, hs, a, _, dx, fs, rfl, ha, c1, c2, by omega, q1 _ _ _ _ S2⟩
    · exact q1.elim
  · exact q1.elim
end
end DL
set_option maxRecDepth 100000
namespace DL
open PySem PySem.Spec PyProof.Rows L2
section
variable {X : Cx} {Γ : Gam} {W : WX}
/-! ### o.f as a target -/
def gFld (K : PySem.W.Frag) (to : TE) (f : Str) : TG := fun v σ H Q => to σ H fun x H1 => ∃ a C dx fs, x = .ref a ∧ H1 a = some (.ins C dx fs) ∧ Cls K C ∧ NoAttr K C f ∧ fs.length < 1000 ∧ Q σ (upd H1 a (.ins C dx (putF f v fs)))
theorem pg_fld {o : Expr} {f : Str} {pos : Pos} {to : TE} (ho : PE X o to) : PG X (.Attribute o f pos) (gFld X.K to f) := ⟨fun pins s σ H v u Q I r h => by
  rw [PySem.assign_Attribute]
  refine wpAny_bind (wpAny_holding (thn (ho.run pins s σ H _ I h) fun ov s1 ⟨x, H1, I1, rx, a, C, dx, fs, ex, ea, c, n, l, q⟩ => ?_))
  cases ex
  cases rx
  refine wpAny_bind (wpAny_standAt (wpAny_bind (wpAny_holding (setattr_ok I1 ea c n l r fun s2 I2 => ?_))))
  exact wpAny_release ⟨σ, _, I2, q⟩⟩
def gSelf (f : Str) : TGt := fun d ρ M => match ρ[0]? with
  | some (Sl.obj c ns xs) => if f ∈ cn c ∧ ns.length < 900 then some (ρ.set 0 (.obj c (putN f d ns xs).1 (putN f d ns xs).2), M) else none
  | _ => none
theorem qg_self {o : Expr} {f : Str} {pos : Pos} (T : GOk Γ) (hK : Γ.K = X.K) (ho : PE X o (tVar 0)) : PG X (.Attribute o f pos) (tG Γ (gSelf f)) := PG.imp (pg_fld ho) fun v σ H Q ⟨Θ, as, G, M, ρ, d, ρ', M', S, r, e, q⟩ => by
  unfold gSelf at e
  split at e
  · rename_i c ns xs h0
    split at e
    · rename_i hc
      cases e
      obtain ⟨a, dx, fs, hs, ha, hl, S2⟩ := self_put S h0 (f := f) r
      obtain ⟨c1, c2⟩ := T.cls c f hc.1
      rw [hK] at c1 c2
      exact ⟨.ref a, hs, a, _, dx, fs, rfl, ha, c1, c2, by omega, q _ _ _ _ S2 (Le.refl _) (List.prefix_refl _)⟩
    · cases e
  · cases e

/-! ### a dict that changes -/
def dicAt (M : List MO) : D → Option (Nat × List (Key × D))
  | .cel n => match M[n]? with
    | some (.dic kvs) => some (n, kvs)
    | _ => none
  | _ => none
def dGetK (fo fk : FE) : FE := fun ρ M => (fo ρ M).bind fun o M => (fk ρ M).bind fun k M => match dicAt M o, keyD k with
  | some p, some k => ofOpt (valD p.2 k) M
  | _, _ => .bad
theorem dicAt_rep {Θ : Ent} {as : List Addr} {G H : Hp} {M : List MO} {o : D} {v : V} {n : Nat} {kvs : List (Key × D)} (S : St2 Γ Θ as G M H) (r : Rep Γ as G o v) (h : dicAt M o = some (n, kvs)) : ∃ a ws, v = .ref a ∧ as[n]? = some a ∧ M[n]? = some (.dic kvs) ∧ H a = some (.dK ws) ∧ RepKV Γ as G kvs ws := by
  unfold dicAt at h
  split at h
  · split at h
    · rename_i kvs' em
      cases h
      obtain ⟨a, ea, ev⟩ := r
      obtain ⟨_, _, ws, h1, h2⟩ := S.cel _ a _ ea em (by simp)
      exact ⟨a, ws, ev, ea, em, h1, h2⟩
    · cases h
  · cases h
theorem q_getK {o i : Expr} {fo fk : FE} {pos : Pos} (hu : X.A.units + 1 < cLine) (ho : PE X o (tE Γ W fo)) (hi : PE X i (tE Γ W fk)) (hs : NoSl i) : PE X (.Subscript o i pos) (tE Γ W (dGetK fo fk)) := PE.imp (pe_dget hu ho hi hs) fun σ H Q ⟨Θ, as, G, M, ρ, S, q⟩ => by
  refine ⟨Θ, as, G, M, ρ, S, (PostE.bindE q).imp (Le.refl _) (List.prefix_refl _) ?_⟩
  rintro x H1 ⟨d, M1, as1, G1, S1, e1, p1, r, q1⟩
  refine ⟨Θ, as1, G1, M1, ρ, S1, (PostE.bindE q1).imp (Le.refl _) (List.prefix_refl _) ?_⟩
  rintro y H2 ⟨k, M2, as2, G2, S2, e2, p2, rk, q2⟩
  split at q2
  · rename_i p kk hp hk
    obtain ⟨n, kvs⟩ := p
    obtain ⟨a, ws, rfl, ea, em, ha, rk'⟩ := dicAt_rep S2.toSt2 (r.mono e2 p2) hp
    cases keyD_rep rk hk
    unfold ofOpt at q2
    split at q2
    · rename_i z hz
      obtain ⟨v, hv, rv⟩ := rk'.val hz
      exact ⟨a, v, rfl, by rw [← hv]; exact DGet.k ha, got S2 q2 rv⟩
    · exact q2.elim
  · exact q2.elim
def dPutK (fo fk fv : FE) : FS := fun ρ M => (fv ρ M).sbind ρ fun v M => (fo ρ M).sbind ρ fun o M => (fk ρ M).sbind ρ fun k M => match dicAt M o, keyD k with
  | some p, some k => if szOk (p.2.length + 1) then .nx ρ (M.set p.1 (.dic (putD p.2 k v))) else .bad
  | _, _ => .bad
theorem q_putK {st : Stmt} {fo fk fv : FE} (h : PS X st (sDPut (tE Γ W fo) (tE Γ W fk) (tE Γ W fv))) : PS X st (tS Γ W (dPutK fo fk fv)) := PS.imp h fun D σ H ⟨Θ, as, G, M, ρ, S, q⟩ => by
  refine ⟨Θ, as, G, M, ρ, S, (PostS.bindE q).imp (Le.refl _) (List.prefix_refl _) ?_⟩
  rintro v H1 ⟨dv, M1, as1, G1, S1, e1, p1, rv, q1⟩
  refine ⟨Θ, as1, G1, M1, ρ, S1, (PostS.bindE q1).imp (Le.refl _) (List.prefix_refl _) ?_⟩
  rintro x H2 ⟨d, M2, as2, G2, S2, e2, p2, r, q2⟩
  refine ⟨Θ, as2, G2, M2, ρ, S2, (PostS.bindE q2).imp (Le.refl _) (List.prefix_refl _) ?_⟩
  rintro y H3 ⟨k, M3, as3, G3, S3, e3, p3, rk, q3⟩
  split at q3
  · rename_i p kk hp hk
    obtain ⟨n, kvs⟩ := p
    obtain ⟨a, ws, rfl, ea, em, ha, rk'⟩ := dicAt_rep S3.toSt2 (r.mono e3 p3) hp
    cases keyD_rep rk hk
    split at q3
    · rename_i hz
      refine ⟨a, _, rfl, DPut.k ha (by rw [← rk'.length]; exact szOk_lt hz), ?_⟩
      exact q3 _ _ _ _ (S3.putCel ea em (by simp) ⟨_, upd_same, rk'.put (rv.mono (e2.trans e3) (p2.trans p3))⟩)
    · exact q3.elim
  · exact q3.elim
/-- {'a': .., ..} with written keys -/
def zipK (ks : List Str) (ds : List D) : List (Key × D) := (ks.zip ds).map fun p => (.inr p.1, p.2)
def dDisp (ks : List Str) (fa : FA) : FE := fun ρ M => (fa ρ (M ++ [.dic []])).bind fun ds M2 => match M2[M.length]? with
  | some (.dic []) => if ds.length = ks.length ∧ ks.length ≤ 15 ∧ ks.Nodup then .ok (.cel M.length) (M2.set M.length (.dic (zipK ks ds))) else .bad
  | _ => .bad
/-- the pairs of a display whose keys are written texts -/
structure PDisp (X : Cx) (Γ : Gam) (W : WX) (pos : Pos) (keys : List (Option Expr)) (values : List Expr) (ks : List Str) (fa : FA) (trs : List (TE × TE)) : Prop where
  pps : PPs X pos keys values trs
  run : ∀ σ H Q R, tA Γ W fa σ H Q → (∀ vs H', vs.length = ks.length → Q vs H' → R ((ks.zip vs).map fun p => (V.str p.1, p.2)) H') → tPairs trs σ H R
theorem qd_nil {pos : Pos} : PDisp X Γ W pos [] [] [] aNil [] := ⟨pps_nil, fun σ H Q R ⟨Θ, as, G, M, ρ, S, q⟩ k => k [] H rfl (q _ _ _ _ S (Le.refl _) (List.prefix_refl _) RepL.nil)⟩
theorem qd_cons {pos kp : Pos} {j} {k : Str} {v : Expr} {keys : List (Option Expr)} {values : List Expr} {ks : List Str} {f : FE} {fa : FA} {trs : List (TE × TE)} (hv : PE X v (tE Γ W f)) (hr : PDisp X Γ W pos keys values ks fa trs) :
    PDisp X Γ W pos (some (.Constant (.str k) j kp) :: keys) (v :: values) (k :: ks) (aCons f fa) ((tC (.str k), tE Γ W f) :: trs) := ⟨pps_cons pe_str hv hr.pps, fun σ H Q R ⟨Θ, as, G, M, ρ, S, q⟩ kk => by
  show tE Γ W f σ H _
  refine ⟨Θ, as, G, M, ρ, S, (PostA.bindE q).imp (Le.refl _) (List.prefix_refl _) ?_⟩
  rintro x H1 ⟨d, M1, as1, G1, S1, e1, p1, r, q1⟩
  refine hr.run σ H1 (fun vs H' => Q (x :: vs) H') _ ⟨Θ, as1, G1, M1, ρ, S1, (PostA.bindA q1).imp (Le.refl _) (List.prefix_refl _) ?_⟩ fun vs H' hl hq => ?_
  · rintro xs H2 ⟨ds, M2, as2, G2, S2, e2, p2, rs, q2⟩
    exact q2 _ _ _ _ S2 (Le.refl _) (List.prefix_refl _) (RepL.cons (r.mono e2 p2) rs)
  · exact kk (x :: vs) H' (by simp [hl]) hq⟩
theorem merge_nodup : ∀ {ks : List Str} {vs : List V} {acc : List (Key × V)}, ks.Nodup → vs.length = ks.length → (∀ k ∈ ks, valV acc (.inr k : Key) = none) → mergeK acc ((ks.zip vs).map fun p => ((.inr p.1 : Key), p.2)) = acc ++ (ks.zip vs).map fun p => ((.inr p.1 : Key), p.2)
  | [], vs, acc, _, _, _ => by simp [mergeK]
  | k :: ks, [], acc, _, h, _ => by simp at h
  | k :: ks, v :: vs, acc, nd, h, hn => by
    have hk := hn k List.mem_cons_self
    have nd' := List.nodup_cons.mp nd
    show mergeK (putK acc (.inr k) v) _ = _
    rw [putK_new v hk]
    have z := merge_nodup (ks := ks) (vs := vs) (acc := acc ++ [((.inr k : Key), v)]) nd'.2 (by simpa using h) fun k' hk' => ?_
    · show mergeK (acc ++ [((.inr k : Key), v)]) ((ks.zip vs).map fun p => ((.inr p.1 : Key), p.2)) = _
      rw [z]
      simp
    · have h1 := hn k' (List.mem_cons_of_mem _ hk')
      unfold valV at h1 ⊢
      rw [List.find?_append]
      cases q : List.find? (fun kv => decide (kv.1 = (.inr k' : Key))) acc with
      | some w => rw [q] at h1; cases h1
      | none =>
        have ne : k ≠ k' := fun e => nd'.1 (e ▸ hk')
        have ne' : ¬ (Sum.inr k : Key) = .inr k' := fun e => ne (Sum.inr.inj e)
        simp [List.find?_cons, ne']
theorem zipK_rep {as : List Addr} {G : Hp} : ∀ {ks : List Str} {ds : List D} {vs : List V}, RepL Γ as G ds vs → RepKV Γ as G (zipK ks ds) ((ks.zip vs).map fun p => ((.inr p.1 : Key), p.2))
  | [], ds, vs, r => by simp [zipK]; rfl
  | k :: ks, [], vs, r => by cases r; simp [zipK]; rfl
  | k :: ks, d :: ds, vs, r => by
    obtain ⟨v, ws, rfl, r1, r2⟩ := r
    exact ⟨v, _, rfl, r1, zipK_rep r2⟩
theorem q_disp {pos : Pos} {keys : List (Option Expr)} {values : List Expr} {ks : List Str} {fa : FA} {trs : List (TE × TE)} (h : PDisp X Γ W pos keys values ks fa trs) (hall : keys.all (·.isSome) = true) (hl : keys.length = values.length) (h0 : keys ≠ []) (h15 : keys.length ≤ 15) :
    PE X (.Dict keys values pos) (tE Γ W (dDisp ks fa)) := PE.imp (pe_disp h.pps hall hl h0 h15) fun σ H Q ⟨Θ, as, G, M, ρ, S, q⟩ => by
  intro p hp
  have C1 := S.toSt2.newCel (as' := []) (o := .dK []) (m := .dic []) hp ⟨[], upd_same, rfl⟩
  have S1 := S.after C1
  have eL : as.length = M.length := S.len
  refine h.run σ _ (fun vs H' => H' p = some (.dK []) ∧ ∃ kvs : List (Key × V), kvs = (ks.zip vs).map (fun p => ((.inr p.1 : Key), p.2)) ∧ kvs.length ≤ 15 ∧ Q (.ref p) (upd H' p (.dK (mergeK [] kvs)))) _ ?_ fun vs H' hv hq => ?_
  · refine ⟨Θ, _, G, _, ρ, S1, ?_⟩
    unfold dDisp at q
    cases ef : fa ρ (M ++ [.dic []]) with
    | bad => rw [ef] at q; exact q.elim
    | ex c xs M2 => rw [ef] at q; exact fun as' G' H' d s e pa x => q as' G' H' d s e ((List.prefix_append _ _).trans pa) x
    | ok ds M2 =>
      rw [ef] at q
      simp only [R.bind_ok] at q
      intro as2 G2 H2 vs S2 e2 p2 r2
      split at q
      · rename_i em
        split at q
        · rename_i hc
          have ea : as2[M.length]? = some p := pre_get p2 (by rw [← eL]; simp)
          obtain ⟨_, _, ws, hw, rw'⟩ := S2.cel _ _ _ ea em (by simp)
          cases rw'
          refine ⟨hw, _, rfl, ?_, ?_⟩
          · rw [List.length_map, List.length_zip, ← r2.length, hc.1, Nat.min_self]; exact hc.2.1
          · rw [merge_nodup hc.2.2 (by rw [← r2.length]; exact hc.1) (fun _ _ => rfl), List.nil_append]
            exact q _ _ _ _ (S2.putCel ea em (by simp) ⟨_, upd_same, zipK_rep r2⟩) e2 ((List.prefix_append _ _).trans p2) ⟨p, ea, rfl⟩
        · exact q.elim
      · exact q.elim
  · obtain ⟨h1, kvs, h2, h3, h4⟩ := hq
    refine ⟨h1, kvs, ?_, h3, h4⟩
    rw [h2, List.map_map]
    rfl
end
end DL
set_option maxRecDepth 100000
namespace DL
open PySem PySem.Spec PyProof.Rows L2
def W0 : WX := fun _ _ _ _ => False
/-- the slots as a comprehension's block sees them -/
def wipeD (ρ : List Sl) : List Nat → List Sl
  | [] => ρ
  | v :: vs => (wipeD ρ vs).set v .mt
def hideS : Sl → Sl
  | .d x => .d x
  | _ => .mt
def hide (vs : List Nat) (ρ : List Sl) : List Sl := (wipeD ρ vs).map hideS
theorem wipeD_length (ρ : List Sl) : ∀ vs, (wipeD ρ vs).length = ρ.length
  | [] => rfl
  | v :: vs => by unfold wipeD; rw [List.length_set, wipeD_length ρ vs]
theorem wipeD_get {ρ : List Sl} {i : Nat} {x : D} : ∀ {vs : List Nat}, (wipeD ρ vs)[i]? = some (.d x) → ρ[i]? = some (.d x) ∧ i ∉ vs
  | [], h => ⟨h, by simp⟩
  | v :: vs, h => by
    unfold wipeD at h
    by_cases hi : v = i
    · subst hi
      by_cases hv : v < (wipeD ρ vs).length
      · rw [List.getElem?_set_self hv] at h; cases h
      · rw [List.getElem?_eq_none (by simpa using hv)] at h; cases h
    · rw [List.getElem?_set_ne hi] at h
      obtain ⟨h1, h2⟩ := wipeD_get h
      exact ⟨h1, by simp only [List.mem_cons, not_or]; exact ⟨fun e => hi e.symm, h2⟩⟩
theorem hide_get {ρ : List Sl} {vs : List Nat} {i : Nat} {s : Sl} (h : (hide vs ρ)[i]? = some s) : s = .mt ∨ ∃ x, s = .d x ∧ ρ[i]? = some (.d x) ∧ i ∉ vs := by
  unfold hide at h
  rw [List.getElem?_map] at h
  cases q : (wipeD ρ vs)[i]? with
  | none => rw [q] at h; cases h
  | some z =>
    rw [q] at h
    cases z with
    | d x => cases h; obtain ⟨h1, h2⟩ := wipeD_get q; exact .inr ⟨x, rfl, h1, h2⟩
    | mt => cases h; exact .inl rfl
    | own xs => cases h; exact .inl rfl
    | obj c ns xs => cases h; exact .inl rfl
    | exn c xs => cases h; exact .inl rfl
    | lam => cases h; exact .inl rfl
theorem wipe_at {σ : L2.St} {i : Nat} : ∀ {vs : List Nat}, i ∉ vs → (wipe σ vs)[i]? = σ[i]?
  | [], _ => rfl
  | v :: vs, h => by
    have h1 : v ≠ i := fun e => h (by rw [e]; exact List.mem_cons_self)
    unfold wipe
    rw [List.getElem?_set_ne h1]
    exact wipe_at fun m => h (List.mem_cons_of_mem _ m)
theorem wipe_in {σ : L2.St} {i : Nat} : ∀ {vs : List Nat}, i ∈ vs → i < σ.length → (wipe σ vs)[i]? = some none
  | v :: vs, h, hl => by
    unfold wipe
    by_cases e : v = i
    · subst e
      rw [List.getElem?_set_self (by rw [wipe_length]; exact hl)]
    · rw [List.getElem?_set_ne e]
      rcases List.mem_cons.mp h with q | q
      · exact absurd q.symm e
      · exact wipe_in q hl
/-- two rows of slots that differ at vs alone -/
def Agree (vs : List Nat) (σ σ' : L2.St) : Prop := σ'.length = σ.length ∧ ∀ i, i ∉ vs → σ'[i]? = σ[i]?
theorem Agree.wipe {vs : List Nat} {σ σ' : L2.St} (h : Agree vs (wipe σ vs) σ') : L2.wipe σ' vs = L2.wipe σ vs := by
  refine List.ext_getElem? fun i => ?_
  have hl : σ'.length = σ.length := by rw [h.1, wipe_length]
  by_cases hi : i ∈ vs
  · by_cases hz : i < σ.length
    · rw [wipe_in hi (by rw [hl]; exact hz), wipe_in hi hz]
    · rw [List.getElem?_eq_none (by rw [wipe_length, hl]; exact Nat.le_of_not_lt hz), List.getElem?_eq_none (by rw [wipe_length]; exact Nat.le_of_not_lt hz)]
  · rw [wipe_at hi, h.2 i hi]
section
variable {X : Cx} {Γ : Gam} {W : WX}
theorem Sta.hide {Θ : Ent} {as : List Addr} {G H : Hp} {M : List MO} {ρ : List Sl} {σ : L2.St} (S : Sta Γ Θ as G M ρ σ H) (vs : List Nat) : Sta Γ (now H as G) as G M (DL.hide vs ρ) (wipe σ vs) H := by
  have no : ∀ i a, ¬ Owns (DL.hide vs ρ) (wipe σ vs) i a := fun i a ⟨h, _⟩ => by
    rcases h with ⟨xs, h⟩ | ⟨c, ns, xs, h⟩ <;> rcases hide_get h with e | ⟨x, e, _⟩ <;> cases e
  refine ⟨S.toSt2.now, by rw [wipe_length, DL.hide, List.length_map, wipeD_length]; exact S.slen, fun i s ov h1 h2 => ?_, fun i a o => absurd o (no i a), fun i j a o => absurd o (no i a), fun i c ns xs a h1 h2 => absurd ⟨.inr ⟨c, ns, xs, h1⟩, h2⟩ (no i a)⟩
  rcases hide_get h1 with e | ⟨x, e, h3, h4⟩
  · subst e; trivial
  · subst e
    rw [wipe_at h4] at h2
    exact S.env i _ _ h3 h2
theorem Sta.putJunk {Θ : Ent} {as : List Addr} {G H : Hp} {M : List MO} {ρ : List Sl} {σ : L2.St} (S : Sta Γ Θ as G M ρ σ H) {p : Addr} {u o : HO} (hp : H p = some u) (g : G p = none) (na : p ∉ as) (th : Θ.H p = none) (no : ∀ i, ¬ Owns ρ σ i p) : Sta Γ Θ as G M ρ σ (upd H p o) := by
  have gne : ∀ b w, G b = some w → b ≠ p := fun b w h e => by rw [e, g] at h; cases h
  have ane : ∀ b, b ∈ as → b ≠ p := fun b h e => na (e ▸ h)
  have tne : ∀ b w, Θ.H b = some w → b ≠ p := fun b w h e => by rw [e, th] at h; cases h
  refine ⟨⟨fun b w h => by rw [upd_ne (gne b w h)]; exact S.sub b w h, S.grow, S.ext, S.esub, fun b w h nm => by rw [upd_ne (tne b w h)]; exact S.fr b w h nm, fun b w h => ?_, S.gfr, S.len, S.nd, fun k b mm h1 h2 h3 => ?_, S.cfr, fun b h => ?_⟩, S.slen, fun i s ov h1 h2 => ?_, S.own, S.odj, S.slf⟩
  · obtain ⟨w', e⟩ := S.pres b w h
    exact ⟨w', by rw [upd_ne (tne b w h)]; exact e⟩
  · obtain ⟨c1, ⟨w, c2⟩, c3⟩ := S.cel k b mm h1 h2 h3
    have e : b ≠ p := ane b (List.mem_of_getElem? h1)
    exact ⟨c1, ⟨w, by rw [upd_ne e]; exact c2⟩, c3.mono (Le.refl _) (List.prefix_refl _) (upd_ne e)⟩
  · obtain ⟨w, e⟩ := S.ain b h
    exact ⟨w, by rw [upd_ne (ane b h)]; exact e⟩
  · refine RepS.mono (Le.refl _) (List.prefix_refl _) (fun b hs e => ?_) (S.env i s ov h1 h2)
    subst e
    refine upd_ne (show b ≠ p from fun z => no i (z ▸ ⟨?_, h2⟩))
    rcases hs with ⟨xs, e⟩ | ⟨c, ns, xs, e⟩
    · exact .inl ⟨xs, e ▸ h1⟩
    · exact .inr ⟨c, ns, xs, e ▸ h1⟩
/-- a target within a block -/
def tGv (Γ : Gam) (vs : List Nat) (f : TGt) : TG := fun v σ H Q => ∃ Θ as G M ρ d ρ', Sta Γ Θ as G M ρ σ H ∧ Rep Γ as G d v ∧ f d ρ M = some (ρ', M) ∧ ∀ σ', Sta Γ Θ as G M ρ' σ' H → Agree vs σ σ' → Q σ' H
def tGvs (Γ : Gam) (vs : List Nat) (f : TGts) : TGs := fun xs σ H Q => ∃ Θ as G M ρ ds ρ', Sta Γ Θ as G M ρ σ H ∧ RepL Γ as G ds xs ∧ f ds ρ M = some (ρ', M) ∧ ∀ σ', Sta Γ Θ as G M ρ' σ' H → Agree vs σ σ' → Q σ' H
theorem Agree.refl (vs : List Nat) (σ : L2.St) : Agree vs σ σ := ⟨rfl, fun _ _ => rfl⟩
theorem Agree.trans {vs : List Nat} {σ σ' σ2 : L2.St} (h : Agree vs σ σ') (k : Agree vs σ' σ2) : Agree vs σ σ2 := ⟨k.1.trans h.1, fun i hi => (k.2 i hi).trans (h.2 i hi)⟩
theorem Agree.set {vs : List Nat} {σ : L2.St} {i : Nat} {o : Option V} (h : i ∈ vs) : Agree vs σ (List.set σ i o) := ⟨List.length_set .., fun j hj => List.getElem?_set_ne (show i ≠ j from fun e => hj (e ▸ h))⟩
theorem qv_name {i : Nat} {vs : List Nat} {e : Expr} (hi : i ∈ vs) (h : PG X e (gName i)) : PG X e (tGv Γ vs (gN i)) := PG.imp h fun v σ H Q ⟨Θ, as, G, M, ρ, d, ρ', S, r, e, q⟩ => by
  cases e
  exact q _ (S.set i r) (Agree.set hi)
theorem qvs_nil {vs : List Nat} : PGs X [] (tGvs Γ vs gsNil) := PGs.imp pgs_nil fun v σ H Q ⟨Θ, as, G, M, ρ, ds, ρ', S, r, e, q⟩ => by
  unfold gsNil at e
  cases ds with
  | nil => cases e; cases r; exact ⟨rfl, q _ S (Agree.refl _ _)⟩
  | cons _ _ => cases e
/-- only names within (what is stored leaves the cells alone) -/
def Pure1 (f : TGt) : Prop := ∀ d ρ M p, f d ρ M = some p → p.2 = M
theorem pure_gN (i : Nat) : Pure1 (gN i) := fun d ρ M p e => by cases e; rfl
theorem qvs_cons {vs : List Nat} {e : Expr} {es : List Expr} {f : TGt} {g : TGts} (hp : Pure1 f) (h1 : PG X e (tGv Γ vs f)) (h2 : PGs X es (tGvs Γ vs g))
    (hs : (assignEach (e :: es) X.env).map (·.2) = assign e X.env :: (assignEach es X.env).map (·.2) := by rfl) : PGs X (e :: es) (tGvs Γ vs (gsCons f g)) := PGs.imp (pgs_cons h1 h2 hs) fun xs σ H Q ⟨Θ, as, G, M, ρ, ds, ρ', S, r, e, q⟩ => by
  cases ds with
  | nil => cases e
  | cons d ds =>
    obtain ⟨v, ws, rfl, r1, r2⟩ := r
    unfold gsCons at e
    dsimp only at e
    cases e1 : f d ρ M with
    | none => rw [e1] at e; cases e
    | some p =>
      rw [e1] at e
      obtain ⟨p1, p2⟩ := p
      have hM : M = p2 := (hp d ρ M _ e1).symm
      subst hM
      exact ⟨v, ws, rfl, Θ, as, G, M, ρ, d, p1, S, r1, e1, fun σ' S' a' => ⟨Θ, as, G, M, p1, ds, ρ', S', r2, e, fun σ2 S2 a2 => q σ2 S2 (a'.trans a2)⟩⟩
theorem qv_tup {vs : List Nat} {es : List Expr} {k : Nat} {pos : Pos} {g : TGts} {n : Nat} (hK : Γ.K = X.K) (hc : X.calm = true) (h : PGs X es (tGvs Γ vs g))
    (hn : (assignEach es X.env).length = n := by rfl) (hst : (assignEach es X.env).findIdx? (·.1) = none := by rfl) : PG X (.Tuple es k pos) (tGv Γ vs (gTupT n g)) := PG.imp (pg_tup hc h hn hst) fun v σ H Q ⟨Θ, as, G, M, ρ, d, ρ', S, r, e, q⟩ => by
  unfold gTupT at e
  split at e
  · split at e
    · rename_i hl
      obtain ⟨a, ws, ev, st, rl⟩ := r
      rw [hK] at st
      exact ⟨a, ws, ev, S.sub.st st, rl.length.symm.trans hl, Θ, as, G, M, ρ, _, ρ', S, rl, e, q⟩
    · cases e
  · cases e
def R.noex {α : Type} : R α → R α
  | .ex _ _ _ => .bad
  | r => r
@[simp] theorem R.noex_ok {α : Type} (a : α) (M : List MO) : R.noex (.ok a M) = .ok a M := rfl
@[simp] theorem R.noex_bad {α : Type} : R.noex (.bad : R α) = .bad := rfl
@[simp] theorem R.noex_ex {α : Type} (c : Nat) (xs : List D) (M : List MO) : R.noex (.ex c xs M : R α) = .bad := rfl
def dYes : FT := fun _ M => .ok true M
def compL (vs : List Nat) (t : TGt) (ft : FT) (fe : FE) : List D → List Sl → List MO → R (List D)
  | [], _, M => .ok [] M
  | d :: ds, ρ, M => match t d (hide vs ρ) M with
    | none => .bad
    | some p => (ft p.1 M).noex.bind fun b M => if b = true then (fe p.1 M).noex.bind fun x M => (compL vs t ft fe ds ρ M).bind fun xs M => .ok (x :: xs) M else compL vs t ft fe ds ρ M
def dComp (fi : FA) (vs : List Nat) (t : TGt) (ft : FT) (fe : FE) : FO := fun ρ M => (fi ρ M).bind fun ds M => if szOk ds.length then compL vs t ft fe ds ρ M else .bad
theorem R.bind_assoc {α β γ : Type} (r : R α) (k : α → List MO → R β) (l : β → List MO → R γ) : (r.bind k).bind l = r.bind fun a M => (k a M).bind l := by cases r <;> rfl
theorem qts_nil : PTs X [] (tT Γ W dYes) := ⟨fun pins s σ H Q I ⟨Θ, as, G, M, ρ, S, q⟩ => pts_nil.run pins s σ H Q I (q _ _ _ S (Le.refl _) (List.prefix_refl _))⟩
/-- the comprehension's reading -/
theorem run_lc {fi : FA} {vs : List Nat} {t : TGt} {ft : FT} {fe : FE} {g : TG} (htp : Pure1 t) {σ : L2.St} {H : Hp} {Q : VK} (h : tO Γ W (dComp fi vs t ft fe) σ H Q) (hg : g = tGv Γ vs t) : tLc (tI Γ W fi) g (tT Γ W0 ft) (tE Γ W0 fe) vs σ H Q := by
  subst hg
  obtain ⟨Θ, as, G, M, ρ, S, q⟩ := h
  refine ⟨Θ, as, G, M, ρ, S, ?_⟩
  unfold dComp at q
  cases e : fi ρ M with
  | bad => rw [e] at q; exact q.elim
  | ex c xs M1 => rw [e] at q; exact fun as' G' H' d s l p x => q as' G' H' d s l p x
  | ok ds M1 =>
    rw [e] at q
    intro as1 G1 H1 J S1 e1 p1 sim D hD
    have q : PostO Γ Θ W ρ σ as G Q (if szOk ds.length = true then compL vs t ft fe ds ρ M1 else .bad) := q
    split at q
    · rename_i hz
      have St : Sta Γ Θ as1 G1 M1 ρ σ (upd H1 D (.lst [])) := S1.after (S1.toSt2.lay0 hD)
      have na : D ∉ as1 := fun z => by
        obtain ⟨u, h⟩ := S1.ain D z
        rw [hD] at h; cases h
      have no : ∀ i, ¬ Owns ρ σ i D := fun i o => by
        obtain ⟨u, h⟩ := Owns.inH S1 o
        rw [hD] at h; cases h
      refine ⟨fun i m H => m = ds.length - i ∧ i ≤ ds.length ∧ ∃ as2 G2 M2 xs ws, Sta Γ Θ as2 G2 M2 ρ σ H ∧ Le G1 G2 ∧ as1 <+: as2 ∧ H D = some (.lst ws) ∧ RepL Γ as2 G2 xs ws ∧ xs.length ≤ i ∧ G2 D = none ∧ D ∉ as2 ∧ PostO Γ Θ W ρ σ as1 G1 Q ((compL vs t ft fe (ds.drop i) ρ M2).bind fun ys M => .ok (xs ++ ys) M), ⟨_, rfl, Nat.zero_le _, as1, G1, M1, [], [], St, Le.refl _, List.prefix_refl _, upd_same, RepL.nil, Nat.le_refl _, S1.sub.free hD, na, ?_⟩, ?_⟩
      · have e0 : (compL vs t ft fe (ds.drop 0) ρ M1).bind (fun ys M => R.ok ([] ++ ys) M) = compL vs t ft fe ds ρ M1 := by
          rw [List.drop_zero]
          cases compL vs t ft fe ds ρ M1 <;> rfl
        rw [e0]
        cases ec : compL vs t ft fe ds ρ M1 with
        | ok d M2 => rw [ec] at q; exact fun as' G' H' p vs s l pa => q as' G' H' p vs s (e1.trans l) (p1.trans pa)
        | ex c xs M2 => rw [ec] at q; exact fun as' G' H' d s l pa x => q as' G' H' d s (e1.trans l) (p1.trans pa) x
        | bad => rw [ec] at q; exact q
      · rintro i m H2 ⟨rfl, hle, as2, G2, M2, xs, ws, S2, e2, p2, hd, rl, hxl, g2, na2, q2⟩
        have le : Le G1 H2 := e2.trans S2.sub
        by_cases hi : i < ds.length
        · right
          rw [List.drop_eq_getElem_cons hi, compL] at q2
          refine ⟨sim.go i H2 le hi, fun H' => i + 1 ≤ ds.length ∧ ∃ as2 G2 M2 xs ws, Sta Γ Θ as2 G2 M2 ρ σ H' ∧ Le G1 G2 ∧ as1 <+: as2 ∧ H' D = some (.lst ws) ∧ RepL Γ as2 G2 xs ws ∧ xs.length ≤ i + 1 ∧ G2 D = none ∧ D ∉ as2 ∧ PostO Γ Θ W ρ σ as1 G1 Q ((compL vs t ft fe (ds.drop (i + 1)) ρ M2).bind fun ys M => .ok (xs ++ ys) M), fun H' z => ⟨ds.length - (i + 1), by omega, rfl, z⟩, ?_⟩
          intro x H' hy
          have hdi : ds[i]? = some ds[i] := List.getElem?_eq_getElem hi
          have step : ∃ G3, Sta Γ Θ as2 G3 M2 ρ σ H' ∧ Le G2 G3 ∧ Rep Γ as2 G3 ds[i] x ∧ H' D = some (.lst ws) ∧ G3 D = none := by
            rcases sim.yld i H2 x H' _ le hdi hy with ⟨rfl, r⟩ | ⟨p, us, ds', rfl, hn, rfl, hd', r⟩
            · exact ⟨G2, S2, Le.refl _, r.mono e2 p2, hd, g2⟩
            · have gp := S2.sub.free hn
              have ne : D ≠ p := ne_of_none hd hn
              refine ⟨upd G2 p (.tup us), S2.lay hn, Le.new gp, ?_, by rw [upd_ne ne]; exact hd, by rw [upd_ne ne]; exact g2⟩
              rw [hd']
              exact ⟨p, us, rfl, .inl (.inl upd_same), r.mono (e2.trans (Le.new gp)) p2⟩
          obtain ⟨G3, S3, e3, r3, hd3, g3⟩ := step
          cases et : t ds[i] (hide vs ρ) M2 with
          | none => rw [et] at q2; exact q2.elim
          | some p =>
            obtain ⟨ρ4, M4⟩ := p
            have hM : M2 = M4 := (htp _ _ _ _ et).symm
            subst hM
            rw [et] at q2
            dsimp only at q2
            refine ⟨now H' as2 G3, as2, G3, M2, hide vs ρ, ds[i], ρ4, S3.hide vs, r3, et, fun σ4 S4 ag => ⟨ag.wipe, now H' as2 G3, as2, G3, M2, ρ4, S4, ?_⟩⟩
            cases eft : ft ρ4 M2 with
            | bad => rw [eft] at q2; exact q2.elim
            | ex c ys M5 => rw [eft] at q2; exact q2.elim
            | ok b M5 =>
              rw [eft] at q2
              intro as5 G5 H5 S5 e5 p5
              have C5 : Sta Γ Θ as5 G5 M5 ρ σ H5 := S3.after S5.toSt2
              have hd5 : H5 D = some (.lst ws) := S5.fr D _ hd3 na2
              have keep : ∀ {as6 : List Addr} {G6 H6 : Hp} {M6 : List MO}, St2 Γ (now H' as2 G3) as6 G6 M6 H6 → G6 D = none ∧ D ∉ as6 := fun {as6 G6 H6 M6} C => by
                refine ⟨?_, fun z => ?_⟩
                · cases z : G6 D with
                  | none => rfl
                  | some u =>
                    rcases C.gfr D u z with w | w | w
                    · exact absurd (g3.symm.trans w) (by simp)
                    · exact absurd (hd3.symm.trans w) (by simp)
                    · exact absurd w na2
                · rcases C.cfr D z with w | w
                  · exact na2 w
                  · exact absurd (hd3.symm.trans w) (by simp)
              have q3 : PostO Γ Θ W ρ σ as1 G1 Q ((if b = true then (fe ρ4 M5).noex.bind fun x M => (compL vs t ft fe (ds.drop (i + 1)) ρ M).bind fun xs M => .ok (x :: xs) M else compL vs t ft fe (ds.drop (i + 1)) ρ M5).bind fun ys M => .ok (xs ++ ys) M) := q2
              cases b with
              | false =>
                rw [if_neg (by decide)] at q3 ⊢
                exact ⟨hi, as5, G5, M5, xs, ws, C5, (e2.trans e3).trans e5, p2.trans p5, hd5, rl.mono (e3.trans e5) p5, by omega, (keep S5.toSt2).1, (keep S5.toSt2).2, q3⟩
              | true =>
                rw [if_pos rfl] at q3 ⊢
                refine ⟨now H' as2 G3, as5, G5, M5, ρ4, S5, ?_⟩
                cases efe : fe ρ4 M5 with
                | bad => rw [efe] at q3; exact q3.elim
                | ex c ys M6 => rw [efe] at q3; exact q3.elim
                | ok y M6 =>
                  rw [efe] at q3
                  intro as6 G6 H6 v S6 e6 p6 rv
                  have C6 : Sta Γ Θ as6 G6 M6 ρ σ H6 := S3.after S6.toSt2
                  have hd6 : H6 D = some (.lst ws) := S6.fr D _ hd3 na2
                  have rl6 := rl.mono ((e3.trans e5).trans e6) (p5.trans p6)
                  have k6 := keep S6.toSt2
                  refine ⟨ws, hd6, ?_, hi, as6, G6, M6, xs ++ [y], ws ++ [v], ?_, ((e2.trans e3).trans e5).trans e6, (p2.trans p5).trans p6, upd_same, rl6.append (RepL.cons rv RepL.nil), by simp; omega, k6.1, k6.2, ?_⟩
                  · have z := szOk_le hz
                    rw [← rl.length]
                    omega
                  · exact C6.putJunk hd6 k6.1 k6.2 (S1.toSt2.old hD) no
                  · have e9 : ((R.noex (.ok y M6)).bind fun x M => (compL vs t ft fe (ds.drop (i + 1)) ρ M).bind fun xs M => R.ok (x :: xs) M).bind (fun ys M => R.ok (xs ++ ys) M) = (compL vs t ft fe (ds.drop (i + 1)) ρ M6).bind fun ys M => .ok (xs ++ [y] ++ ys) M := by
                      show ((compL vs t ft fe (ds.drop (i + 1)) ρ M6).bind fun xs M => R.ok (y :: xs) M).bind _ = _
                      generalize compL vs t ft fe (ds.drop (i + 1)) ρ M6 = cc
                      cases cc <;> simp [R.bind]
                    rw [← e9]
                    exact q3
        · left
          have hie : i = ds.length := by omega
          refine ⟨sim.stop i H2 le (Nat.le_of_not_lt hi), ?_⟩
          rw [List.drop_eq_nil_of_le (Nat.le_of_not_lt hi), compL] at q2
          have q3 : PostO Γ Θ W ρ σ as1 G1 Q (.ok (xs ++ []) M2) := q2
          rw [List.append_nil] at q3
          exact q3 as2 G2 H2 D ws S2 e2 p2 rl hd g2 na2 (S1.toSt2.old hD) no
    · exact q.elim
theorem qo_comp {elt tg iter : Expr} {ifs : List Expr} {scope : Scope} {own : List (Str × Nat)} {pos : Pos} {fi : FA} {t : TGt} {ft : FT} {fe : FE} (htp : Pure1 t) (hc : X.calm = true) (hN : X.N.Nodup) (hi : PI X tg iter (tI Γ W fi)) (ok : BlkOk X.N X.env.scope scope own)
    (hg : ∀ (s : Shared) (H : Hp) (C : Addr) (cl : List (Str × Addr)) (fp : List Addr), PG (X.blk s H scope (compEnvC scope cl C X.env) fp) tg (tGv Γ (own.map (·.2)) t))
    (ht : ∀ (s : Shared) (H : Hp) (C : Addr) (cl : List (Str × Addr)) (fp : List Addr), PTs (X.blk s H scope (compEnvC scope cl C X.env) fp) ifs (tT Γ W0 ft))
    (he : ∀ (s : Shared) (H : Hp) (C : Addr) (cl : List (Str × Addr)) (fp : List Addr), PE (X.blk s H scope (compEnvC scope cl C X.env) fp) elt (tE Γ W0 fe)) (hs : ∀ x, foldedSetIterable iter X.env x = pure x := by intro _; rfl) :
    PE X (.ListComp elt [⟨tg, iter, ifs, 0⟩] scope pos) (tO Γ W (dComp fi (own.map (·.2)) t ft fe)) := PE.imp (pe_lc hc hN hi ok hg ht he hs) fun _ _ _ h => run_lc htp h rfl
theorem q_setLc {i : Nat} {y : Str} {py : Pos} {elt tg iter : Expr} {ifs : List Expr} {scope : Scope} {own : List (Str × Nat)} {pos spos : Pos} {fi : FA} {t : TGt} {ft : FT} {fe : FE} (htp : Pure1 t) (hc : X.calm = true) (hN : X.N.Nodup) (hy : X.N[i]? = some y) (hyl : X.env.scope.names.lookup y = some .local)
    (hsw : swapsWith (.ListComp elt [⟨tg, iter, ifs, 0⟩] scope pos) (some (.Name y py)) spos.line X.env = pure true) (hi : PI X tg iter (tI Γ W fi)) (ok : BlkOk X.N X.env.scope scope own)
    (hg : ∀ (s : Shared) (H : Hp) (C : Addr) (cl : List (Str × Addr)) (fp : List Addr), PG (X.blk s H scope (compEnvC scope cl C X.env) fp) tg (tGv Γ (own.map (·.2)) t))
    (ht : ∀ (s : Shared) (H : Hp) (C : Addr) (cl : List (Str × Addr)) (fp : List Addr), PTs (X.blk s H scope (compEnvC scope cl C X.env) fp) ifs (tT Γ W0 ft))
    (he : ∀ (s : Shared) (H : Hp) (C : Addr) (cl : List (Str × Addr)) (fp : List Addr), PE (X.blk s H scope (compEnvC scope cl C X.env) fp) elt (tE Γ W0 fe)) (hs : ∀ x, foldedSetIterable iter X.env x = pure x := by intro _; rfl) :
    PS X (.Assign [.Name y py] (.ListComp elt [⟨tg, iter, ifs, 0⟩] scope pos) spos) (tAsg (tO Γ W (dComp fi (own.map (·.2)) t ft fe)) (gName i)) := PS.imp (ps_setLc hc hN hy hyl hsw hi ok hg ht he hs) fun D σ H h => run_lc (Q := fun x H1 => gName i x σ H1 D.nx) htp h rfl
end
end DL
set_option maxRecDepth 100000
namespace DL
open PySem PySem.Spec PyProof.Rows L2
inductive Ty where
  | non | bool | int | str | tup | lst | dic | cls (c : Nat)
inductive Cl where
  | own (c : Nat) | bool | int | str | tuple | list
def tagOf (M : List MO) : D → Option Ty
  | .non => some .non
  | .bl _ => some .bool
  | .int _ => some .int
  | .str _ => some .str
  | .tup _ => some .tup
  | .lst _ => some .lst
  | .rol _ => some .lst
  | .ins c _ => some (.cls c)
  | .cel n => match M[n]? with
    | some (.lst _) => some .lst
    | some (.dic _) => some .dic
    | some (.obj c _ _) => some (.cls c)
    | _ => none
def isA : Ty → Cl → Bool
  | .cls c, .own c' => c == c'
  | .bool, .bool => true
  | .bool, .int => true
  | .int, .int => true
  | .str, .str => true
  | .tup, .tuple => true
  | .lst, .list => true
  | _, _ => false
def tyVal (Γ : Gam) : Ty → Value
  | .non => .type "NoneType"
  | .bool => .type "bool"
  | .int => .type "int"
  | .str => .type "str"
  | .tup => .type "tuple"
  | .lst => .type "list"
  | .dic => .type "dict"
  | .cls c => .ref (Γ.cA c)
def clVal (Γ : Gam) : Cl → Value
  | .own c => .ref (Γ.cA c)
  | .bool => .type "bool"
  | .int => .type "int"
  | .str => .type "str"
  | .tuple => .type "tuple"
  | .list => .type "list"
def clV (Γ : Gam) : Cl → V
  | .own c => .ref (Γ.cA c)
  | .bool => .ty "bool"
  | .int => .ty "int"
  | .str => .ty "str"
  | .tuple => .ty "tuple"
  | .list => .ty "list"
theorem clsV (Γ : Gam) (c : Cl) : ClsV (clV Γ c) (clVal Γ c) := by cases c <;> first | exact .ty _ | exact .own _
def okTy (cs : List Nat) : Ty → Bool
  | .cls c => cs.contains c
  | _ => true
def okCl (cs : List Nat) : Cl → Bool
  | .own c => cs.contains c
  | _ => true
/-- the own classes: apart from one another and from the built-in ones -/
structure IsOk (Γ : Gam) (K : PySem.W.Frag) (cs : List Nat) : Prop where
  cl : ∀ c, cs.contains c = true → Cls K (Γ.cA c)
  ic : ∀ c, cs.contains c = true → PySem.W.findIn K (.ref (Γ.cA c)) "__class__" = some (some (.builtin "object.__class__"))
  ob : ∀ c, cs.contains c = true → PySem.W.mroIn K (Γ.cA c) (.type "object") = some true
  g1 : PySem.W.specialIn K (.builtin "object.__class__") "__get__" = some (some (.builtin "getset_descriptor.__get__"))
  g2 : PySem.W.takesIn K (.builtin "object.__class__") = some true
  one : ∀ τ cl, okTy cs τ = true → okCl cs cl = true → PySem.W.kitOne K (tyVal Γ τ) (clVal Γ cl) = some (isA τ cl)
theorem kit_any {Γ : Gam} {K : PySem.W.Frag} {cs : List Nat} (I : IsOk Γ K cs) {τ : Ty} (h : okTy cs τ = true) : ∀ {cls : List Cl}, cls.all (okCl cs) = true → PySem.W.kitAny K (tyVal Γ τ) (cls.map (clVal Γ)) = some (cls.any (isA τ))
  | [], _ => rfl
  | c :: cls, hc => by
    rw [List.all_cons, Bool.and_eq_true] at hc
    refine kitAny_cons (I.one τ c h hc.1) (fun e => ?_) fun e => ?_
    · rw [List.any_cons, e, Bool.false_or]; exact kit_any I h hc.2
    · rw [List.any_cons, e, Bool.true_or]
def dIs (cs : List Nat) (cls : List Cl) (f : FE) : FE := fun ρ M => (f ρ M).bind fun d M => match tagOf M d with
  | some τ => if okTy cs τ && cls.all (okCl cs) then .ok (.bl (cls.any (isA τ))) M else .bad
  | none => .bad
section
variable {X : Cx} {Γ : Gam} {W : WX}
theorem tag_rep {cs : List Nat} (I : IsOk Γ X.K cs) {Θ : Ent} {as : List Addr} {G H : Hp} {M : List MO} {d : D} {v : V} {τ : Ty} (hK : Γ.K = X.K) (S : St2 Γ Θ as G M H) (r : Rep Γ as G d v) (h : tagOf M d = some τ) (ok : okTy cs τ = true) : TyX X.K H v (tyVal Γ τ) := by
  cases d with
  | non => cases h; cases r; exact .base .non
  | bl b => cases h; cases r; exact .base (.bl b)
  | int i => cases h; cases r; exact .base (.int i)
  | str s => cases h; cases r; exact .base (.str s)
  | tup xs =>
    cases h
    obtain ⟨a, vs, rfl, s, _⟩ := r
    rw [hK] at s
    rcases s with (s | ⟨o, s⟩) | ⟨o, its, n, k, hc, _⟩
    · exact .base (.tup (S.sub _ _ s))
    · exact .fTuple (S.sub _ _ s)
    · exact .kTuple k hc
  | lst xs =>
    cases h
    obtain ⟨a, vs, rfl, s, _⟩ := r
    exact .base (.lst (S.sub _ _ s))
  | rol xs =>
    cases h
    obtain ⟨a, vs, rfl, s, _⟩ := r
    rw [hK] at s
    rcases s with (s | ⟨o, s⟩) | ⟨o, its, n, k, hc, _⟩
    · exact .base (.lst (S.sub _ _ s))
    · exact .base (.frz (S.sub _ _ s))
    · exact .kList k hc
  | ins c xs =>
    cases h
    obtain ⟨a, dx, vs, rfl, s, _⟩ := r
    exact .base (.ins (S.sub _ _ s) (I.cl c ok) (I.ic c ok) I.g1 I.g2 (I.ob c ok))
  | cel n =>
    obtain ⟨a, ea, rfl⟩ := r
    rw [tagOf] at h
    cases em : M[n]? with
    | none => rw [em] at h; cases h
    | some m =>
      rw [em] at h
      cases m with
      | lst xs =>
        cases h
        obtain ⟨_, _, ws, h1, _⟩ := S.cel n a _ ea em (by simp)
        exact .base (.lst h1)
      | dic kvs =>
        cases h
        obtain ⟨_, _, ws, h1, _⟩ := S.cel n a _ ea em (by simp)
        exact .base (.dK h1)
      | obj c ns xs =>
        cases h
        obtain ⟨_, _, dx, ws, h1, _⟩ := S.cel n a _ ea em (by simp)
        exact .base (.ins h1 (I.cl c ok) (I.ic c ok) I.g1 I.g2 (I.ob c ok))
      | tab q => cases h
      | dead => cases h
theorem pe_tyI (x : Str) (n : String) {pos : Pos} (hg : Gl X x) (hm : X.mg x = none) (hv : bootBuiltins x = some (.type n)) (hn : x ≠ "__name__" := by decide) (hd : (x == ("__debug__" : Str)) = false := by decide) : PE X (.Name x pos) (tC (.ty n)) := pe_bltn hg hm hv rfl hn hd
/-- isinstance(x, C) -/
theorem q_is1 {cs : List Nat} {cl : Cl} {p pos : Pos} {e c : Expr} {f : FE} (I : IsOk Γ X.K cs) (hK : Γ.K = X.K) (hg : Gl X "isinstance") (hm : X.mg "isinstance" = none) (he : PE X e (tE Γ W f)) (hc : PE X c (tC (clV Γ cl)))
    (h1 : starEach (e :: [c]) X.env = (false, eval e X.env) :: starEach [c] X.env := by rfl) (h2 : starEach (c :: []) X.env = (false, eval c X.env) :: starEach [] X.env := by rfl) (h3 : (backTo pos (starEach [c] X.env)).any (·.1) = false := by rfl) :
    PE X (.Call (.Name "isinstance" p) [e, c] [] pos) (tE Γ W (dIs cs [cl] f)) := PE.imp (pe_callB call_isi hg hm (by decide +kernel) (pa_cons he (pa_cons hc pa_nil h2) h1) (by decide) (by decide) h1 h3) fun σ H Q ⟨Θ, as, G, M, ρ, S, q⟩ => by
  refine ⟨Θ, as, G, M, ρ, S, (PostE.bindE q).imp (Le.refl _) (List.prefix_refl _) ?_⟩
  rintro v H1 ⟨d, M1, as1, G1, S1, e1, p1, r, q1⟩
  split at q1
  · rename_i τ hτ
    split at q1
    · rename_i hok
      rw [Bool.and_eq_true, List.all_cons, Bool.and_eq_true] at hok
      refine ⟨v, clV Γ cl, tyVal Γ τ, clVal Γ cl, isA τ cl, rfl, clsV Γ cl, tag_rep I hK S1.toSt2 r hτ hok.1, I.one τ cl hok.1 hok.2.1, ?_⟩
      have z : ([cl].any (isA τ)) = isA τ cl := by simp
      rw [z] at q1
      exact got S1 q1 rfl
    · exact q1.elim
  · exact q1.elim
/-- the classes of a written tuple -/
def tCs (vs : List V) : TA := fun _ H Q => Q vs H
theorem pcs_nil : PA X [] (tCs []) := PA.imp pa_nil fun _ _ _ h => h
theorem pcs_cons {e : Expr} {es : List Expr} {v : V} {vs : List V} (he : PE X e (tC v)) (hr : PA X es (tCs vs)) (hs : starEach (e :: es) X.env = (false, eval e X.env) :: starEach es X.env := by rfl) : PA X (e :: es) (tCs (v :: vs)) := PA.imp (pa_cons he hr hs) fun _ _ _ h => h
theorem q_isT {cs : List Nat} {cls : List Cl} {p pos tp : Pos} {k : Nat} {e : Expr} {ces : List Expr} {f : FE} (I : IsOk Γ X.K cs) (hK : Γ.K = X.K) (hg : Gl X "isinstance") (hm : X.mg "isinstance" = none) (he : PE X e (tE Γ W f)) (hc : PA X ces (tCs (cls.map (clV Γ)))) (hz : cls.length ≤ 100 := by decide)
    (h1 : starEach (e :: [.Tuple ces k tp]) X.env = (false, eval e X.env) :: starEach [.Tuple ces k tp] X.env := by rfl) (h2 : starEach (.Tuple ces k tp :: []) X.env = (false, eval (.Tuple ces k tp) X.env) :: starEach [] X.env := by rfl) (h3 : (backTo pos (starEach [.Tuple ces k tp] X.env)).any (·.1) = false := by rfl) :
    PE X (.Call (.Name "isinstance" p) [e, .Tuple ces k tp] [] pos) (tE Γ W (dIs cs cls f)) := PE.imp (pe_callB call_isiT hg hm (by decide +kernel) (pa_cons he (pa_cons (pe_tup hc) pa_nil h2) h1) (by decide) (by decide) h1 h3) fun σ H Q ⟨Θ, as, G, M, ρ, S, q⟩ => by
  refine ⟨Θ, as, G, M, ρ, S, (PostE.bindE q).imp (Le.refl _) (List.prefix_refl _) ?_⟩
  rintro v H1 ⟨d, M1, as1, G1, S1, e1, p1, r, q1⟩
  split at q1
  · rename_i τ hτ
    split at q1
    · rename_i hok
      rw [Bool.and_eq_true] at hok
      refine ⟨Nat.le_trans (by simpa using hz) (by decide), fun t ht => ?_⟩
      have S2 := S1.lay (o := .tup (cls.map (clV Γ))) ht
      have r2 : Rep Γ as1 (upd G1 t (.tup (cls.map (clV Γ)))) d v := r.mono (Le.new (S1.sub.free ht)) (List.prefix_refl as1)
      have pc : Paired ClsV (cls.map (clV Γ)) (cls.map (clVal Γ)) := by
        have gen : ∀ l : List Cl, Paired ClsV (l.map (clV Γ)) (l.map (clVal Γ)) := fun l => by
          induction l with
          | nil => exact .nil
          | cons c l ih => exact .cons (clsV Γ c) ih
        exact gen cls
        /-
        | nil => exact .nil
        | cons c cls ih => exact .cons (clsV Γ c) ih -/
      refine ⟨v, t, _, tyVal Γ τ, _, _, rfl, upd_same, pc, tag_rep I hK S2.toSt2 r2 hτ hok.1, kit_any I hok.1 hok.2, ?_⟩
      exact q1 _ _ _ _ S2 (Le.new (S1.sub.free ht)) (List.prefix_refl _) rfl
    · exact q1.elim
  · exact q1.elim
end
end DL
set_option maxRecDepth 100000
namespace DL
open PySem PySem.Spec PyProof.Rows L2
def addT : D → D → List MO → R D
  | .tup a, .tup b, M => if szOk (a.length + b.length) then .ok (.tup (a ++ b)) M else .bad
  | _, _, _ => .bad
def addD : D → D → List MO → R D := gOr2 addI (gOr2 addS (gOr2 addL addT))
def repT : D → D → List MO → R D
  | .tup a, .int k, M => if a ≠ [] ∧ 2 ≤ k ∧ k ≤ 1000 ∧ a.length ≤ 1000 then .ok (.tup (List.replicate k.toNat a).flatten) M else .bad
  | _, _, _ => .bad
def repL : D → D → List MO → R D
  | .lst a, .int k, M => if -(2 ^ 63) ≤ k ∧ k < 2 ^ 63 ∧ szOk (a.length * k.toNat) = true then .ok (.lst (List.replicate k.toNat a).flatten) M else .bad
  | _, _, _ => .bad
def mulD : D → D → List MO → R D := gOr2 mulI (gOr2 repT repL)
theorem pure_gsNil : ∀ ds ρ M p, gsNil ds ρ M = some p → p.2 = M := fun ds ρ M p e => by
  unfold gsNil at e
  cases ds with
  | nil => cases e; rfl
  | cons _ _ => cases e
theorem pure_gsCons {f : TGt} {g : TGts} (hf : Pure1 f) (hg : ∀ ds ρ M p, g ds ρ M = some p → p.2 = M) : ∀ ds ρ M p, gsCons f g ds ρ M = some p → p.2 = M := fun ds ρ M p e => by
  cases ds with
  | nil => cases e
  | cons d ds =>
    unfold gsCons at e
    dsimp only at e
    cases e1 : f d ρ M with
    | none => rw [e1] at e; cases e
    | some q =>
      rw [e1] at e
      have h1 := hf _ _ _ _ e1
      have h2 := hg _ _ _ _ e
      exact h2.trans h1
theorem pure_gTup {n : Nat} {g : TGts} (hg : ∀ ds ρ M p, g ds ρ M = some p → p.2 = M) : Pure1 (gTupT n g) := fun d ρ M p e => by
  unfold gTupT at e
  split at e
  · split at e
    · exact hg _ _ _ _ e
    · cases e
  · cases e
section
variable {X : Cx} {Γ : Gam} {W : WX}
theorem k_addT (hK : Γ.K = X.K) : Keeps2 Γ W (fun _ => rCatA X.K) addT := by
  intro Θ ρ σ as G M H a b x y Q S ra rb q
  unfold addT at q
  split at q
  · split at q
    · rename_i hz
      obtain ⟨p, vs, rfl, g1, r1⟩ := ra
      obtain ⟨p', vs', rfl, g2, r2⟩ := rb
      have g1' := g1
      have g2' := g2
      rw [hK] at g1 g2
      refine ⟨p, p', vs, vs', rfl, rfl, S.sub.st g1, S.sub.st g2, by rw [← r1.length, ← r2.length]; exact szOk_le hz, fun e => ?_, fun _ e => ?_, fun _ _ l n => keepsNewTup S (r1.append r2) q n⟩
      · subst e
        have z := r1.length
        have z' : _ = [] := List.eq_nil_of_length_eq_zero z
        subst z'
        exact got S q ⟨p', vs', rfl, g2', r2⟩
      · subst e
        have z' : _ = [] := List.eq_nil_of_length_eq_zero r2.length
        subst z'
        rw [List.append_nil] at q
        exact got S q ⟨p, vs, rfl, g1', r1⟩
    · exact q.elim
  · exact q.elim
abbrev rAddAll (K : PySem.W.Frag) : R2 := fun x y H Q => rI0 (fun i j => .int (i + j)) x y H Q ∨ (∃ i j, x = .str i ∧ y = .str j ∧ i.length + j.length ≤ sizeLine ∧ Q (.str (i ++ j)) H) ∨ rCat x y H Q ∨ rCatA K x y H Q
theorem op_addAll : OpR X (binaryOp .Add) (rAddAll X.K) := DL.OpR.or op_add (DL.OpR.or op_add_str (DL.OpR.or op_cat op_catA))
theorem k_addAll (hK : Γ.K = X.K) : Keeps2 Γ W (fun _ => rAddAll X.K) addD := k_or (r := fun _ => rI0 fun i j => .int (i + j)) k_addI (k_or (r := fun _ x y H Q => ∃ i j, x = .str i ∧ y = .str j ∧ i.length + j.length ≤ sizeLine ∧ Q (.str (i ++ j)) H) k_addS (k_or (r := fun _ => rCat) (r' := fun _ => rCatA X.K) k_addL (k_addT hK)))
theorem rep_flat {as : List Addr} {G : Hp} {xs : List D} {vs : List V} (r : RepL Γ as G xs vs) : ∀ n : Nat, RepL Γ as G (List.replicate n xs).flatten (List.replicate n vs).flatten
  | 0 => RepL.nil
  | n + 1 => by
    rw [List.replicate_succ, List.replicate_succ, List.flatten_cons, List.flatten_cons]
    exact r.append (rep_flat r n)
theorem k_repT (hK : Γ.K = X.K) : Keeps2 Γ W (fun _ => rRepT X.K) repT := by
  intro Θ ρ σ as G M H a b x y Q S ra rb q
  unfold repT at q
  split at q
  · split at q
    · rename_i hz
      obtain ⟨p, vs, rfl, g1, r1⟩ := ra
      cases rb
      rw [hK] at g1
      refine ⟨p, _, vs, rfl, rfl, S.sub.st g1, fun e => hz.1 ?_, hz.2.1, hz.2.2.1, by rw [← r1.length]; exact hz.2.2.2, fun l n => keepsNewTup S (rep_flat r1 _) q n⟩
      subst e
      exact List.eq_nil_of_length_eq_zero r1.length
    · exact q.elim
  · exact q.elim
theorem k_repL : Keeps2 Γ W (fun _ => rRep) repL := by
  intro Θ ρ σ as G M H a b x y Q S ra rb q
  unfold repL at q
  split at q
  · split at q
    · rename_i hz
      obtain ⟨p, vs, rfl, g1, r1⟩ := ra
      cases rb
      refine ⟨p, _, vs, rfl, rfl, S.sub _ _ g1, hz.1, hz.2.1, by rw [← r1.length]; exact szOk_le hz.2.2, fun l n => ?_⟩
      exact keepsNewLst S (rep_flat r1 _) q n
    · exact q.elim
  · exact q.elim
abbrev rMulAll (K : PySem.W.Frag) : R2 := fun x y H Q => rI CMulX (fun i j => .int (i * j)) x y H Q ∨ rRepT K x y H Q ∨ rRep x y H Q
theorem op_mulAll : OpR X (binaryOp .Mult) (rMulAll X.K) := DL.OpR.or op_mulX (DL.OpR.or op_repT op_rep)
theorem k_mulAll (hK : Γ.K = X.K) : Keeps2 Γ W (fun _ => rMulAll X.K) mulD := k_or (r := fun _ => rI CMulX fun i j => .int (i * j)) k_mulI (k_or (r := fun _ => rRepT X.K) (r' := fun _ => rRep) (k_repT hK) k_repL)
end
end DL
set_option maxRecDepth 100000
/-! An instance's own operators. -/
namespace DL
open PySem PySem.Spec PyProof.Rows L2

theorem cmpbackD {P : Value → Shared → Prop} {z : V} {v : Value} {s' : Shared} (r : RelV z v) (h : P v s') : PySem.W.CmpBack P v s' := by
  cases z with
  | non => cases (show v = Value.none from r); exact h
  | bl b => cases (show v = Value.bool b from r); exact h
  | int i =>
    obtain ⟨t, e⟩ := (show ∃ t, v = Value.int i t from r)
    cases e
    exact h
  | str x =>
    obtain ⟨t, e⟩ := (show ∃ t, v = Value.str x t from r)
    cases e
    exact h
  | byt b =>
    obtain ⟨t, e⟩ := (show ∃ t, v = Value.bytes b t from r)
    cases e
    exact h
  | flt b =>
    obtain ⟨t, e⟩ := (show ∃ t, v = Value.float b t from r)
    cases e
    exact h
  | ref a => cases (show v = Value.ref a from r); exact h
  | ty n => cases (show v = Value.type n from r); exact h
def OpS (X : Cx) (f : Value → Value → Sem Value) (r : L2.St → R2) : Prop :=
  ∀ (pins : List (Addr × Obj)) (s : Shared) (σ : L2.St) (H : Hp) (x y : V) (v u : Value) (Q : VK), Inv X pins σ H s → RelV x v → RelV y u → r σ x y H Q →
    wpAny (model X.prog X.w) X.A (f v u) (EP X pins σ Q) X.xe s
def UnS (X : Cx) (f : Value → Sem Value) (r : L2.St → V → Hp → VK → Prop) : Prop :=
  ∀ (pins : List (Addr × Obj)) (s : Shared) (σ : L2.St) (H : Hp) (x : V) (v : Value) (Q : VK), Inv X pins σ H s → RelV x v → r σ x H Q →
    wpAny (model X.prog X.w) X.A (f v) (EP X pins σ Q) X.xe s
structure OwnOp (K : PySem.W.Frag) (C f : Addr) (op : Operator) : Prop where
  first : PySem.W.selfFirst K C = true
  at_ : PySem.W.findIn K (.ref C) (PySem.dunder op.info.2) = some (some (.ref f))
  fn : PySem.W.isFn K (.ref f) = true
  refl : PySem.W.findIn K (.ref C) (dunderR op.info.2) = some none
  i1 : ∃ fo, PySem.W.findIn K (.type "int") (PySem.dunder op.info.2) = some fo
  i2 : ∃ ro, PySem.W.findIn K (.type "int") (dunderR op.info.2) = some ro
  sub : PySem.W.subIn K (.type "int") (.ref C) = some false
structure OwnCmp (Γ : Gam) (K : PySem.W.Frag) (cs : List Nat) (C f : Addr) (op : CmpOp) : Prop where
  at_ : PySem.W.findIn K (.ref C) (PySem.cmpInfo op).2.1 = some (some (.ref f))
  fn : PySem.W.isFn K (.ref f) = true
  nf : ∀ τ, okTy cs τ = true → PySem.W.notFirst K C (tyVal Γ τ) = true
structure OwnNeg (K : PySem.W.Frag) (C f : Addr) : Prop where
  at_ : PySem.W.findIn K (.ref C) "__neg__" = some (some (.ref f))
  fn : PySem.W.isFn K (.ref f) = true

section
variable {X : Cx} {Γ : Gam} {W : WX} {f C : Addr} {fd : FuncData} {ps : List Str} {sp : Sp} {E : L2.St → XK} {k : Nat} {CX : CXT}
theorem OpS.or {g : Value → Value → Sem Value} {r : R2} {r' : L2.St → R2} (h : OpR X g r) (h' : OpS X g r') : OpS X g (fun σ x y H Q => r x y H Q ∨ r' σ x y H Q) := fun pins s σ H x y v u Q I rx ry q => by
  rcases q with q | q
  · exact h pins s σ H x y v u Q I rx ry q
  · exact h' pins s σ H x y v u Q I rx ry q
theorem OpS.orS {g : Value → Value → Sem Value} {r r' : L2.St → R2} (h : OpS X g r) (h' : OpS X g r') : OpS X g (fun σ x y H Q => r σ x y H Q ∨ r' σ x y H Q) := fun pins s σ H x y v u Q I rx ry q => by
  rcases q with q | q
  · exact h pins s σ H x y v u Q I rx ry q
  · exact h' pins s σ H x y v u Q I rx ry q
theorem OpS.of {g : Value → Value → Sem Value} {r : R2} (h : OpR X g r) : OpS X g (fun _ => r) := fun pins s σ H x y v u Q I rx ry q => h pins s σ H x y v u Q I rx ry q
theorem UnS.of {g : Value → Sem Value} {r : V → Hp → VK → Prop} (h : UnR X g r) : UnS X g (fun _ => r) := fun pins s σ H x v Q I rx q => h pins s σ H x v Q I rx q
theorem UnS.or {g : Value → Sem Value} {r r' : L2.St → V → Hp → VK → Prop} (h : UnS X g r) (h' : UnS X g r') : UnS X g (fun σ x H Q => r σ x H Q ∨ r' σ x H Q) := fun pins s σ H x v Q I rx q => by
  rcases q with q | q
  · exact h pins s σ H x v Q I rx q
  · exact h' pins s σ H x v Q I rx q
/-- x op y by x's own def: y an int or of x's class -/
def rOwnB (C : Addr) (sp : Sp) (E : L2.St → XK) : L2.St → R2 := fun σ x y H Q => ∃ a dx fs, x = .ref a ∧ H a = some (.ins C dx fs) ∧ ((∃ i, y = .int i) ∨ ∃ b dy gs, y = .ref b ∧ H b = some (.ins C dy gs)) ∧ sp [x, y] H Q (E σ)
theorem op_ownB {op : Operator} (o : OwnOp X.K C f op) (F : FnOk X.prog X.w X.K X.mg X.base CX k f fd ps sp) (hr : Room k X.A) (hb : Binds X.K fd ps []) (hx : ∀ σ, PassesAt CX X σ (E σ)) : OpS X (binaryOp op) (rOwnB C sp E) := by
  intro pins s σ H x y v u Q I rx ry h
  obtain ⟨a, dx, fs, rfl, ea, hy, q⟩ := h
  cases (show v = Value.ref a from rx)
  obtain ⟨mA, O, _⟩ := ins_get I.hok ea
  obtain ⟨od, J, _⟩ := O.look
  obtain ⟨m, hF⟩ := I.fr
  have run := run_fnSD (us := [.ref a, u]) (vs := [.ref a, y]) F hr hb .nil (hx σ) I (.cons rfl (.cons ry .nil)) q
  have back : wpAny (model X.prog X.w) X.A (call (.ref f) [.ref a, u]) (PySem.W.CmpBack (EP X pins σ Q)) X.xe s := wpAny_mono run (fun w s' z => by
    obtain ⟨z', H', I', rz, qz⟩ := z
    exact cmpbackD rz ⟨z', H', I', rz, qz⟩) fun _ _ x => x
  rcases hy with ⟨i, rfl⟩ | ⟨b, dy, gs, rfl, eb⟩
  · obtain ⟨t, rfl⟩ := (show ∃ t, u = Value.int i t from ry)
    obtain ⟨fo, i1⟩ := o.i1
    obtain ⟨ro, i2⟩ := o.i2
    exact PySem.W.ksp_binT (T := "int") hF I.ok.mod.kin J rfl o.first o.at_ o.fn o.refl (.inl rfl) i1 i2 o.sub back
  · cases (show u = Value.ref b from ry)
    obtain ⟨mB, O', _⟩ := ins_get I.hok eb
    obtain ⟨od', J', _⟩ := O'.look
    exact PySem.W.binop_K hF I.ok.mod.kin J J'.type o.first o.at_ o.fn back
def rOwnN (C : Addr) (sp : Sp) (E : L2.St → XK) : L2.St → V → Hp → VK → Prop := fun σ x H Q => ∃ a dx fs, x = .ref a ∧ H a = some (.ins C dx fs) ∧ sp [x] H Q (E σ)
theorem un_ownN (o : OwnNeg X.K C f) (F : FnOk X.prog X.w X.K X.mg X.base CX k f fd ps sp) (hr : Room k X.A) (hb : Binds X.K fd ps []) (hx : ∀ σ, PassesAt CX X σ (E σ)) : UnS X (unaryOp .USub) (rOwnN C sp E) := by
  intro pins s σ H x v Q I rx h
  obtain ⟨a, dx, fs, rfl, ea, q⟩ := h
  cases (show v = Value.ref a from rx)
  obtain ⟨mA, O, _⟩ := ins_get I.hok ea
  obtain ⟨od, J, _⟩ := O.look
  obtain ⟨m, hF⟩ := I.fr
  exact PySem.W.ksp_neg hF I.ok.mod.kin J o.at_ o.fn (run_fnSD (us := [.ref a]) (vs := [.ref a]) F hr hb .nil (hx σ) I (.cons rfl .nil) q)
def rOwnC (K : PySem.W.Frag) (C : Addr) (sp : Sp) (E : L2.St → XK) : L2.St → R2 := fun σ x y H Q => ∃ a dx fs t, x = .ref a ∧ H a = some (.ins C dx fs) ∧ TyX K H y t ∧ PySem.W.notFirst K C t = true ∧ sp [x, y] H Q (E σ)
theorem op_ownC {op : CmpOp} (hop : ∀ a b, compareOp op a b = richCompare op a b) (at_ : PySem.W.findIn X.K (.ref C) (PySem.cmpInfo op).2.1 = some (some (.ref f))) (fn : PySem.W.isFn X.K (.ref f) = true)
    (F : FnOk X.prog X.w X.K X.mg X.base CX k f fd ps sp) (hr : Room k X.A) (hb : Binds X.K fd ps []) (hx : ∀ σ, PassesAt CX X σ (E σ)) : OpS X (compareOp op) (rOwnC X.K C sp E) := by
  intro pins s σ H x y v u Q I rx ry h
  obtain ⟨a, dx, fs, t, rfl, ea, ty, nf, q⟩ := h
  cases (show v = Value.ref a from rx)
  obtain ⟨mA, O, _⟩ := ins_get I.hok ea
  obtain ⟨od, J, _⟩ := O.look
  obtain ⟨m, hF⟩ := I.fr
  obtain ⟨P, kx, hp, _⟩ := kit_of I ry ty
  rw [hop]
  refine PySem.W.cmp_K (op := op) (tb := t) hr.units0 hF I.ok.mod.kin J (kx.ty _ _ I.kIn hp) nf at_ fn ?_
  exact wpAny_mono (run_fnSD (us := [.ref a, u]) (vs := [.ref a, y]) F hr hb .nil (hx σ) I (.cons rfl (.cons ry .nil)) q) (fun w s' z => by
    obtain ⟨z', H', I', rz, qz⟩ := z
    exact cmpbackD rz ⟨z', H', I', rz, qz⟩) fun _ _ x => x
theorem q_opS {op : Operator} {a b : Expr} {pos : Pos} {r : L2.St → R2} {g : D → D → List MO → R D} {fa fb : FE} (ho : OpS X (binaryOp op) r) (k : Keeps2 Γ W r g) (ha : PE X a (tE Γ W fa)) (hb : PE X b (tE Γ W fb)) :
    PE X (.BinOp a op b pos) (tE Γ W (d2 g fa fb)) := ⟨fun pins s σ H Q I h => wpAny_BinOp (binT ha hb I (run2 k h) fun v u s2 x y H2 I2 rx ry q => ho pins s2 σ H2 x y v u Q I2 rx ry q)⟩
theorem q_unS {op : UnaryOp} {a : Expr} {pos : Pos} {r : L2.St → V → Hp → VK → Prop} {g : D → List MO → R D} {fa : FE} (ho : UnS X (unaryOp op) r) (k : ∀ Θ ρ σ as G M H a x Q, Sta Γ Θ as G M ρ σ H → Rep Γ as G a x → PostE Γ Θ W ρ σ as G Q (g a M) → r σ x H Q) (ha : PE X a (tE Γ W fa)) :
    PE X (.UnaryOp op a pos) (tE Γ W (d1 g fa)) := ⟨fun pins s σ H Q I h => by
  obtain ⟨Θ, as, G, M, ρ, S, q⟩ := h
  have q0 := (PostE.bindE q).imp (Le.refl _) (List.prefix_refl _) (Q' := fun x H1 => r σ x H1 Q) (fun x H1 ⟨d, M1, as1, G1, S1, e1, p1, ra, q1⟩ => k Θ ρ σ as1 G1 M1 H1 d x Q S1 ra q1)
  exact UnaryOp_ (thn (ha.run pins s σ H _ I ⟨Θ, as, G, M, ρ, S, q0⟩) fun v s1 ⟨x, H1, I1, r1, q1⟩ => ho pins s1 σ H1 x v Q I1 r1 q1)⟩
theorem q_cmpS {op : CmpOp} {a b : Expr} {pos : Pos} {r : L2.St → R2} {g : D → D → List MO → R D} {fa fb : FE} (ho : OpS X (compareOp op) r) (k : Keeps2 Γ W r g) (ha : PE X a (tE Γ W fa)) (hb : PE X b (tE Γ W fb)) (hm : behindInMarks op b = false) :
    PE X (.Compare a [op] [b] pos) (tE Γ W (d2 g fa fb)) := ⟨fun pins s σ H Q I h => wpAny_Compare1 (binT ha hb I (run2 k h) fun v u s2 x y H2 I2 rx ry q => ho pins s2 σ H2 x y v u Q I2 rx ry q) hm⟩

/-! ### the pure side -/
def okArg (c : Nat) : D → Bool
  | .int _ => true
  | .ins c' _ => c' == c
  | _ => false
def ownOp (c : Nat) (F : FN) (g : D → D → List MO → R D) : D → D → List MO → R D := fun x y M => match x with
  | .ins c' xs => if c' = c then (if okArg c y then lenIs 2 F [.ins c' xs, y] M else .bad) else g (.ins c' xs) y M
  | x => g x y M
def ownUn (c : Nat) (F : FN) (g : D → List MO → R D) : D → List MO → R D := fun x M => match x with
  | .ins c' xs => if c' = c then lenIs 1 F [.ins c' xs] M else g (.ins c' xs) M
  | x => g x M
def ownCmp (cs : List Nat) (c : Nat) (F : FN) (g : D → D → List MO → R D) : D → D → List MO → R D := fun x y M => match x with
  | .ins c' xs => if c' = c then (match tagOf M y with
    | some τ => if okTy cs τ then lenIs 2 F [.ins c' xs, y] M else .bad
    | none => .bad) else g (.ins c' xs) y M
  | x => g x y M
theorem k_ownOp {c : Nat} {F : FN} {g : D → D → List MO → R D} {r : L2.St → R2} (k : Keeps2 Γ W r g) : Keeps2 Γ W (fun σ x y H Q => r σ x y H Q ∨ rOwnB (Γ.cA c) (spF Γ 2 F) (WE W) σ x y H Q) (ownOp c F g) := by
  intro Θ ρ σ as G M H a b x y Q S ra rb q
  unfold ownOp at q
  split at q
  · split at q
    · rename_i e
      subst e
      split at q
      · rename_i ho
        refine .inr ?_
        obtain ⟨p, dx, vs, rfl, g1, l, rl⟩ := id ra
        refine ⟨p, dx, _, rfl, S.sub _ _ g1, ?_, ?_⟩
        · cases b with
          | int i => exact .inl ⟨i, rb⟩
          | ins c' ys =>
            obtain ⟨p', dy, ws, rfl, g2, _⟩ := rb
            have e := eq_of_beq (show (c' == _) = true from ho)
            subst e
            exact .inr ⟨p', dy, _, rfl, S.sub _ _ g2⟩
          | _ => cases ho
        · unfold lenIs at q
          split at q
          · rename_i hz
            exact sp_of S (RepL.cons ra (RepL.cons rb RepL.nil)) hz q
          · exact q.elim
      · exact q.elim
    · exact .inl (k _ _ _ _ _ _ _ _ _ _ _ _ S ra rb q)
  · exact .inl (k _ _ _ _ _ _ _ _ _ _ _ _ S ra rb q)
theorem k_ownUn {c : Nat} {F : FN} {g : D → List MO → R D} {r : L2.St → V → Hp → VK → Prop} (k : ∀ Θ ρ σ as G M H a x Q, Sta Γ Θ as G M ρ σ H → Rep Γ as G a x → PostE Γ Θ W ρ σ as G Q (g a M) → r σ x H Q) :
    ∀ Θ ρ σ as G M H a x Q, Sta Γ Θ as G M ρ σ H → Rep Γ as G a x → PostE Γ Θ W ρ σ as G Q (ownUn c F g a M) → (fun σ x H Q => r σ x H Q ∨ rOwnN (Γ.cA c) (spF Γ 1 F) (WE W) σ x H Q) σ x H Q := by
  intro Θ ρ σ as G M H a x Q S ra q
  unfold ownUn at q
  split at q
  · split at q
    · rename_i e
      subst e
      refine .inr ?_
      obtain ⟨p, dx, vs, rfl, g1, l, rl⟩ := id ra
      refine ⟨p, dx, _, rfl, S.sub _ _ g1, ?_⟩
      unfold lenIs at q
      split at q
      · rename_i hz
        exact sp_of S (RepL.cons ra RepL.nil) hz q
      · exact q.elim
    · exact .inl (k _ _ _ _ _ _ _ _ _ _ S ra q)
  · exact .inl (k _ _ _ _ _ _ _ _ _ _ S ra q)
theorem k_ownCmp {cs : List Nat} {c : Nat} {F : FN} {g : D → D → List MO → R D} {r : L2.St → R2} {op : CmpOp} {f : Addr} (I : IsOk Γ X.K cs) (hK : Γ.K = X.K) (o : OwnCmp Γ X.K cs (Γ.cA c) f op) (k : Keeps2 Γ W r g) :
    Keeps2 Γ W (fun σ x y H Q => r σ x y H Q ∨ rOwnC X.K (Γ.cA c) (spF Γ 2 F) (WE W) σ x y H Q) (ownCmp cs c F g) := by
  intro Θ ρ σ as G M H a b x y Q S ra rb q
  unfold ownCmp at q
  split at q
  · split at q
    · rename_i e
      subst e
      split at q
      · rename_i τ hτ
        split at q
        · rename_i ho
          refine .inr ?_
          obtain ⟨p, dx, vs, rfl, g1, l, rl⟩ := id ra
          refine ⟨p, dx, _, tyVal Γ τ, rfl, S.sub _ _ g1, tag_rep I hK S.toSt2 rb hτ ho, o.nf τ ho, ?_⟩
          unfold lenIs at q
          split at q
          · rename_i hz
            exact sp_of S (RepL.cons ra (RepL.cons rb RepL.nil)) hz q
          · exact q.elim
        · exact q.elim
      · exact q.elim
    · exact .inl (k _ _ _ _ _ _ _ _ _ _ _ _ S ra rb q)
  · exact .inl (k _ _ _ _ _ _ _ _ _ _ _ _ S ra rb q)
end
end DL
set_option maxRecDepth 100000
/-! An own error: its __init__ says super().__init__(..). -/
namespace DL
open PySem PySem.Spec PyProof.Rows L2

theorem look_mem1 {α β : Type} [BEq α] [LawfulBEq α] {x : α} {u : β} : ∀ {l : List (α × β)}, (l.map (·.1)).Nodup → (x, u) ∈ l → l.lookup x = some u
  | [], _, h => by cases h
  | (y, w) :: l, nd, h => by
    rw [List.lookup_cons]
    rw [List.map_cons, List.nodup_cons] at nd
    rcases List.mem_cons.mp h with e | h
    · cases e; simp
    · have ne : x ≠ y := fun e => nd.1 (by rw [← e]; exact List.mem_map.mpr ⟨_, h, rfl⟩)
      have : (x == y) = false := by simpa using ne
      rw [this]
      exact look_mem1 nd.2 h
theorem look_par {ps : List Str} {us : List Value} {i : Nat} {x : Str} {u : Value} (nd : ps.Nodup) (l : us.length = ps.length) (h1 : ps[i]? = some x) (h2 : us[i]? = some u) : (ps.zip us).reverse.lookup x = some u := by
  refine look_mem1 ?_ ?_
  · rw [List.map_reverse, List.map_fst_zip (by omega)]
    exact (List.reverse_perm _).nodup_iff.mpr nd
  · rw [List.mem_reverse]
    refine List.mem_of_getElem? (i := i) ?_
    rw [List.getElem?_zip_eq_some]
    exact ⟨h1, h2⟩

/-- the body of a def that closes over its class -/
def cxS (CX : CXT) (P : Program) (w : World) (K : PySem.W.Frag) (mg : Str → Option Value) (base : Heap) (N : List Str) (qual : Str) (scope : Scope) (f : Addr) (cd : Value) (cc : Addr) (A : Around) (outer : List Env) (s : Shared) (H : Hp) (E : XK) : Cx where
  prog := P
  w := w
  K := K
  mg := mg
  base := base
  A := A.deeper (PySem.W.ksEnv qual scope s.heap.objs.size f cd cc)
  N := N
  s_0 := s
  H_0 := H
  env := PySem.W.ksEnv qual scope s.heap.objs.size f cd cc
  outer := outer
  stack := PySem.W.ksEnv qual scope s.heap.objs.size f cd cc :: outer
  ex := []
  calm := true
  fn := fun _ => false
  pn := []
  xe := fun e s' => wpAny (model P w) (A.deeper (PySem.W.ksEnv qual scope s.heap.objs.size f cd cc)) (leaving (PySem.W.ksEnv qual scope s.heap.objs.size f cd cc) e) (fun _ s'' => CX outer H s E e s'') (fun e' s'' => CX outer H s E e' s'') s'
structure ScopeS (ps : List Str) (sc : Scope) : Prop where
  kind : sc.kind = .function
  co : sc.isCoroutine = false
  gen : sc.isGenerator = false
  nd : ps.Nodup
  par : ∀ x ∈ ps, sc.names.lookup x = some .local
  nocell : ∀ y ∈ sc.names, y.2 ≠ .cell
  free : ∀ y ∈ sc.names, y.2 = .free → y.1 = ("__class__" : Str)
  sup : sc.names.lookup ("super" : Str) = some .globalImplicit
  cls : sc.names.lookup ("__class__" : Str) = some .free
/-- what the written part says of the error class at C, its __init__ at f -/
structure ErrK (P : Program) (K : PySem.W.Frag) (mg : Str → Option Value) (C f : Addr) (name qual : Str) (params : Arguments) (body : List Stmt) (scope : Scope) (fd : FuncData) : Prop where
  fn : ∃ (oc : Value) (od : Option Addr) (osl : Array (Option Value)) (dV kV doc pm ct : Value) (an : Option Addr) (cda cc : Addr) (ccl cl : Value) (cdd cld : Option Addr) (ccs csl : Array (Option Value)) (vs : Array Value) (file : Str) (tf : Tok) (cdC : ClassData),
    fd = PySem.W.ksFn name qual params body scope dV kV doc pm an (.ref cda) ct cc ∧ K.lookup f = some ⟨oc, od, .func fd, osl⟩ ∧ PySem.W.codeIn K (.ref cda) qual = true ∧
    K.lookup cda = some ⟨ccl, cdd, .fields vs, ccs⟩ ∧ vs[2]? = some (.str file tf) ∧ ((P.main.file : Str) == file) = true ∧
    K.lookup cc = some ⟨cl, cld, .cell (some (.ref C)), csl⟩ ∧ PySem.W.clsIn K C = some cdC
  self : PySem.W.mroIn K C (.ref C) = some true
  noSuper : mg "super" = none
  sup : PySem.W.ks_superIn K C C "__init__" = some (some (.builtin "ValueError.__init__"))
  ve : PySem.W.subIn K (.ref C) (.type "ValueError") = some true
  opq : PySem.W.nsIn K cStatics "thirdparty.any" = some none
  top : (P.main.scope.names.lookup ("super" : Str)).isSome = false
  T : OexC K C
section
variable {CX : CXT} {P : Program} {w : World} {K : PySem.W.Frag} {mg : Str → Option Value} {base : Heap} {C f : Addr} {name qual : Str} {params : Arguments} {body : List Stmt} {scope : Scope} {fd : FuncData} {ps : List Str}
theorem inv_startS {cd : Value} {cc : Addr} {A : Around} {outer : List Env} {s : Shared} {H : Hp} {E : XK} {us : List Value} {vs : List V} {h₁ : Heap} {tk : Nat} {cl : Value} {cld : Option Addr} {csl : Array (Option Value)} {u : Option Value}
    (S : ScopeS ps scope) (hd : A.handled = none) (e0 : Env0 P w K mg base A outer s H) (hl : vs.length = ps.length) (r : Vals vs us) (hcc : K.lookup cc = some ⟨cl, cld, .cell u, csl⟩)
    (hns : h₁.Ns s.heap.objs.size (fun x => (ps.zip us).reverse.lookup x)) (hk : ∀ b o, s.heap.get? b = some o → h₁.get? b = some o) :
    Inv (cxS CX P w K mg base ps qual scope f cd cc A outer s H E) [] (start ps vs) H { s with heap := h₁, toks := tk } := by
  have noA : ∀ b : Addr, b ∉ (cxS CX P w K mg base ps qual scope f cd cc A outer s H E).ex := fun b z => absurd (show b ∈ ([] : List Addr) from z) (by simp)
  have one : ∀ {x : Str} {c : Addr}, ([(("__class__" : Str), cc)] : List (Str × Addr)).lookup x = some c → x = "__class__" ∧ c = cc := fun {x c} h => by
    rw [List.lookup_cons] at h
    split at h
    · rename_i e; cases h; exact ⟨beq_iff_eq.mp e, rfl⟩
    · cases h
  have hb : base.get? cc = some ⟨cl, cld, .cell u, csl⟩ := e0.mod.kin _ _ hcc
  refine ⟨⟨e0.mod, S.kind, rfl, rfl, Nat.le_refl _, fun y z c h1 h2 => ?_, fun y hy => ?_, fun y c h _ => (by cases h), fun _ => hd, Around.frames_deeper e0.frames, .inr ⟨rfl, rfl⟩, fun b z => absurd z (noA b), e0.bs, e0.bsz, fun b _ _ => noA b, fun b z => absurd z (noA b), e0.funs, e0.frf⟩,
    rfl, e0.bare, Un.kept hk, ⟨_, hns, fun i y v h1 h2 h3 => ?_⟩, fun y c h => ?_, e0.hok.fresh (Nat.le_refl _), fun y c h => ?_, fun p hp => absurd (show p ∈ ([] : List (Addr × Obj)) from hp) (by simp), e0.hok.kept hk, ?_⟩
  · rw [(one h1).1, (one h2).1]
  · have hy : scope.names.lookup y = some .cell ∨ scope.names.lookup y = some .free := hy
    rcases hy with hy | hy
    · exact absurd rfl (S.nocell _ (PySem.mem_of_lookup hy))
    · have e := S.free _ (PySem.mem_of_lookup hy) rfl
      have e : y = ("__class__" : Str) := e
      subst e
      exact ⟨cc, by show List.lookup _ [_] = _; rw [List.lookup_cons]; simp⟩
  · have e : L2.start ps vs = vs.map some := by unfold L2.start; rw [hl, Nat.sub_self]; simp
    rw [e, List.getElem?_map] at h2
    cases q : vs[i]? with
    | none => rw [q] at h2; cases h2
    | some v' =>
      rw [q] at h2; cases h2
      obtain ⟨u, hu, rv⟩ := r.get q
      refine ⟨u, rv, .inl ⟨S.par y (List.mem_of_getElem? h1), ?_⟩⟩
      exact look_par S.nd (by rw [← r.length, hl]) h1 hu
  · rw [(one h).2]
    exact ⟨u, _, hk _ _ (e0.bs _ _ hb).1, rfl⟩
  · rw [(one h).2]
    exact (e0.bs _ _ hb).2
  · unfold L2.start
    show _ = ps.length
    rw [List.length_append, List.length_map, List.length_replicate]
    omega
theorem init_bw {prog : Program} {A : Around} {E : Value → Shared → Prop} {s : Shared} {u e t0 : Addr} {nm q : Str} {N : Addr} {bs bm : List Value} {hdct : Bool} {sn : List Str} {sub : List Value} {ab : Bool} {col : Option Bool} {dd : Option Addr} {k0 k1 k2 k3 k5 : Option Value} {rest : List Value} {Q : Value → Shared → Prop}
    (hC : s.heap.get? C = some (excClassObj nm q C N bs bm hdct sn sub ab col dd k0 k1 k2 k3 k5 "ValueError.__new__")) (he : s.heap.get? e = some (PySem.HandSPX.excO C t0)) (hu : s.heap.get? u = some (PySem.W.kxs_mw "ValueError.__init__" e)) (hz : rest.length ≤ sizeLine)
    (hq : ∀ h' t1, (∀ b o, b ≠ e → s.heap.get? b = some o → h'.get? b = some o) → h'.get? e = some (PySem.HandSPX.excO C t1) → Q .none { s with heap := h' }) :
    wpAny (model prog w) A (call (.ref u) rest) Q E s := by
  obtain ⟨hh, g, d, tk, os⟩ := s
  refine wpAny_call (codeAny_of_tree ?_)
  show wpAny _ A.in1 (callAny (.ref u) ⟨rest, []⟩) _ _ _
  simp only [callAny]
  refine wpAny_bind (wpAny_load hu ?_)
  simp only [PySem.W.kxs_mw, show (Value.type "method-wrapper" == Value.type "method" || Value.type "method-wrapper" == Value.type "builtin_function_or_method" || Value.type "method-wrapper" == Value.type "method-wrapper") = true by decide, if_true]
  refine PySem.W.KFB.if_so (by decide) ?_
  refine wpAny_bind (PySem.W.check_bound_init PySem.F.excBase_ValueError.toExcCallFacts hC he rfl ?_)
  refine wpAny_bind (wpAny_pure (wpAny_pure ?_))
  refine ⟨plainId_quiet PySem.F.excBase_ValueError.init.plain _, codeAny_builtin PySem.F.excBase_ValueError.initEntry ?_⟩
  exact PySem.W.exc_init_tree (cls := .ref C) (t0 := t0) (dv := none) (c2 := .none) (c3 := .none) (b4 := .bool false) he hz fun h' k e' _ => hq h' _ k e'
/-- super().__init__(e, ..) -/
theorem super_stmt {qual : Str} {cda cc : Addr} {A : Around} {outer : List Env} {s s1 : Shared} {H H1 : Hp} {E : XK} {σ : L2.St} {e₀ : Expr} {es : List Expr} {p0 p1 p2 pos pos' : Pos} {a : Addr} {ta : TA} {bd : List Stmt}
    {oc : Value} {od : Option Addr} {osl : Array (Option Value)} {dV kV doc pm ct : Value} {an : Option Addr} {ccl cl : Value} {cdd cld : Option Addr} {ccs csl : Array (Option Value)} {vs : Array Value} {file : Str} {tf : Tok} {cdC : ClassData}
    (EK : ErrK P K mg C f name qual params body scope fd) (S : ScopeS ps scope) (lk : K.lookup f = some ⟨oc, od, .func (PySem.W.ksFn name qual params body scope dV kV doc pm an (.ref cda) ct cc), osl⟩)
    (lc : K.lookup cda = some ⟨ccl, cdd, .fields vs, ccs⟩) (hvs : vs[2]? = some (.str file tf)) (hfile : ((P.main.file : Str) == file) = true)
    (hcc : K.lookup cc = some ⟨cl, cld, .cell (some (.ref C)), csl⟩) (hcl : PySem.W.clsIn K C = some cdC)
    {ar : Arg} (hp : (params.posonlyargs ++ params.args).head? = some ar) (h0 : ps[0]? = some ar.arg)
    (I : Inv (cxS CX P w K mg base ps qual scope f (.ref cda) cc A outer s H E) [] σ H1 s1) (h1 : σ[0]? = some (some (.ref a))) (ea : H1 a = some (exo a C none))
    (ha : PA (cxS CX P w K mg base ps qual scope f (.ref cda) cc A outer s H E) (e₀ :: es) ta) (hta : ta σ H1 fun vs H' => vs.length ≤ 1000 ∧ H' = H1)
    (hst : starEach (e₀ :: es) (PySem.W.ksEnv qual scope s.heap.objs.size f (.ref cda) cc) = (false, eval e₀ (PySem.W.ksEnv qual scope s.heap.objs.size f (.ref cda) cc)) :: starEach es (PySem.W.ksEnv qual scope s.heap.objs.size f (.ref cda) cc))
    (hpl : (backTo pos (starEach es (PySem.W.ksEnv qual scope s.heap.objs.size f (.ref cda) cc))).any (·.1) = false) {pl : Sem Bool}
    (hev : eval (.Call (.Attribute (.Call (.Name "super" p0) [] [] p1) "__init__" p2) (e₀ :: es) [] pos) (PySem.W.ksEnv qual scope s.heap.objs.size f (.ref cda) cc) = (do
      let ov ← attributeBase (.Call (.Name "super" p0) [] [] p1) "__init__" (PySem.W.ksEnv qual scope s.heap.objs.size f (.ref cda) cc) (eval (.Call (.Name "super" p0) [] [] p1) (PySem.W.ksEnv qual scope s.heap.objs.size f (.ref cda) cc))
      standAt p2.atName
      let (f', first) ← holding [ov] (getMethod ov "__init__" pl)
      callWith pos f' first (backTo pos (starEach (e₀ :: es) (PySem.W.ksEnv qual scope s.heap.objs.size f (.ref cda) cc))) [])) :
    _root_.PySem.wpAt (model P w) (A.deeper (PySem.W.ksEnv qual scope s.heap.objs.size f (.ref cda) cc)) (.func bd (PySem.W.ksEnv qual scope s.heap.objs.size f (.ref cda) cc))
      (exec (.Expr (.Call (.Attribute (.Call (.Name "super" p0) [] [] p1) "__init__" p2) (e₀ :: es) [] pos) pos') (PySem.W.ksEnv qual scope s.heap.objs.size f (.ref cda) cc))
      (fun fl s' => fl = .next ∧ Inv (cxS CX P w K mg base ps qual scope f (.ref cda) cc A outer s H E) [] σ H1 s')
      (cxS CX P w K mg base ps qual scope f (.ref cda) cc A outer s H E).xe s1 := by
  obtain ⟨nm, q, N, bs, bm, sn, sub, ab, col, dd, k0, k1, k2, k3, k5, hC, hbm⟩ := EK.T.cls
  have K1 : K.In s1.heap := I.kIn
  obtain ⟨t1, ho⟩ := exo_at I.hok ea
  obtain ⟨oD, hD1, hD2⟩ : ∃ oD, s1.heap.get? C = some oD ∧ oD.data = .cls cdC := by
    unfold PySem.W.clsIn at hcl
    split at hcl
    · rename_i c d cd' sl ho
      cases hcl
      exact ⟨_, K1 _ _ ho, rfl⟩
    · cases hcl
  have hsp := EK.sup
  unfold PySem.W.ks_superIn at hsp
  rw [hcl] at hsp
  obtain ⟨mb, hb1, hb2⟩ := I.mod.blt
  obtain ⟨m, hn, hlk⟩ := I.loc
  have hloc : scope.names.lookup ar.arg = some .local := S.par _ (List.mem_of_getElem? h0)
  obtain ⟨u0, ru, look⟩ := hlk 0 ar.arg _ h0 h1 (.inl hloc)
  obtain rfl : u0 = Value.ref a := ru
  have hm : m ar.arg = some (.ref a) := by
    rcases look with ⟨_, e⟩ | ⟨hk, _⟩
    · exact e
    · have hk : scope.names.lookup ar.arg = some .cell ∨ scope.names.lookup ar.arg = some .free := hk
      rw [hloc] at hk
      rcases hk with z | z <;> cases z
  refine ks_wpAt_Expr_any ?_ (hi := I.quiet)
  refine ks_wpAt_MethodCall (pl := pl) ?_ hev
  refine ks_wpAt_super_base (env := PySem.W.ksEnv qual scope s.heap.objs.size f (.ref cda) cc) S.sup S.cls (by decide) rfl (K1 _ _ lk) rfl hp rfl (K1 _ _ lc) rfl hvs hfile EK.top ?_
  refine PySem.W.ks_loadName_global S.kind S.sup (Calls.loadGlobal_builtin (env := PySem.W.ksEnv qual scope s.heap.objs.size f (.ref cda) cc) (I.mod.glob.keeps I.bk) EK.noSuper (hb1.keeps I.bk) ((hb2 _ (by decide)).trans (by first | rfl | kernel_rfl)) ⟨rfl, ?_⟩)
  refine wpAny_loadName_free S.kind S.cls rfl ⟨_, K1 _ _ hcc, rfl⟩ ?_
  refine wpAny_loadName_local S.kind hloc hn hm ?_
  refine ks_wpAny_isType_cls hD1 hD2 ⟨rfl, ?_⟩
  obtain ⟨hh, g, d, t, os⟩ := s1
  refine ks_wpAny_call_super hD1 hD2 ho rfl (fun c e => by cases e) (PySem.W.looks_mroIn K1 EK.self) (fun h' e k => ?_)
  have I2 := I.kept (t' := t) k
  have K2 : K.In h' := I2.kIn
  have ho2 := k _ _ ho
  have hI : PySem.W.Looks (model P w) h' (isInstance (.ref a) (.type "ValueError")) true := (PySem.W.InstAt.type (od := none) ⟨ho2, rfl, rfl, trivial⟩).andThen (PySem.W.looks_subIn K2 EK.ve)
  have hne : a ≠ C := fun z => by
    rw [z] at ho
    rw [ho] at hD1
    cases hD1
    cases hD2
  refine PySem.W.kxs_getMethod PySem.W.kxs_ValueError e (PySem.W.looks_opaque K2 EK.opq) (l₀ := cdC.mro) (fun A Q E s k q => wpAny_bind ((PySem.W.looks_clsIn K2 hcl) A _ E s k (wpAny_pure q))) rfl K2 hsp hI hne (by decide) ?_
  have hu : (h'.push (PySem.W.kxs_mw "ValueError.__init__" a)).get? h'.objs.size = some (PySem.W.kxs_mw "ValueError.__init__" a) := Heap.get?_push_at rfl rfl
  have I3 := I2.kept (h' := h'.push (PySem.W.kxs_mw "ValueError.__init__" a)) (t' := t + 1) (fun b o z => Heap.get?_push_of_some _ z)
  have nL : h'.objs.size ≠ (cxS CX P w K mg base ps qual scope f (.ref cda) cc A outer s H E).env.locals := fun z => by
    have := I2.lt
    rw [← z] at this
    exact Nat.lt_irrefl _ this
  have I4 : Inv (cxS CX P w K mg base ps qual scope f (.ref cda) cc A outer s H E) [(h'.objs.size, PySem.W.kxs_mw "ValueError.__init__" a)] σ H1 ⟨h'.push (PySem.W.kxs_mw "ValueError.__init__" a), g, d, t + 1, os⟩ := I3.pins_of fun p hp => by
    rw [List.mem_singleton] at hp
    subst hp
    exact ⟨hu, I2.hok.fresh (Nat.le_refl _), nL, I2.nofs (Nat.le_refl _), fun v z => by cases z⟩
  refine PySem.W.kxs_callWith (i := "ValueError.__init__") (u := h'.objs.size) (x := a) (by rw [hst]; exact hpl) ?_
  have z := ha.run pos _ _ σ H1 _ I4 hta
  rw [show starEach (e₀ :: es) (cxS CX P w K mg base ps qual scope f (.ref cda) cc A outer s H E).env = _ from hst] at z
  rw [hst]
  refine PySem.Calls.evalArgs_plain ?_
  refine thn z fun us s4 ⟨ws, H4, I5, r, hz, eH⟩ => ?_
  subst eH
  obtain ⟨hu4, _⟩ := I5.pin (h'.objs.size, PySem.W.kxs_mw "ValueError.__init__" a) (List.mem_append_right _ List.mem_cons_self)
  obtain ⟨t4, ho4⟩ := exo_at I5.hok ea
  refine ⟨hu4, init_bw (I5.kIn _ _ hC) ho4 hu4 (by show us.length ≤ sizeLine; rw [← r.length, sizeLine_eq]; omega) fun h'' t5 k5 hx => ⟨rfl, ?_⟩⟩
  have J := (I5.pins_of (pins' := []) (fun p hp => absurd hp (by simp))).write (t' := s4.toks) (x := a) (e := a) (o := exo a C none) (by rw [ea]; exact True.intro) (.inl rfl) k5 ⟨_, hx⟩ (exo_ok hx)
  have eu : upd H4 a (exo a C none) = H4 := by
    funext b
    by_cases hb : b = a
    · rw [hb, upd_same, ea]
    · rw [upd_ne hb]
  rw [eu] at J
  exact J
/-- the def, its body being super().__init__(e, ..) and a rest -/
theorem err_ok {k : Nat} {e₀ : Expr} {es : List Expr} {p0 p1 p2 pos pos' : Pos} {rest : List Stmt} {ta : TA} {tr : TS} {pl : Sem Bool} {ar : Arg}
    (EK : ErrK P K mg C f name qual params (.Expr (.Call (.Attribute (.Call (.Name "super" p0) [] [] p1) "__init__" p2) (e₀ :: es) [] pos) pos' :: rest) scope fd) (S : ScopeS ps scope)
    (hp : (params.posonlyargs ++ params.args).head? = some ar) (h0 : ps[0]? = some ar.arg)
    (ha : ∀ cd cc A outer s H E, PA (cxS CX P w K mg base ps qual scope f cd cc A outer s H E) (e₀ :: es) ta) (hta : ∀ vs H1, vs.length = ps.length → ta (start ps vs) H1 fun vs H' => vs.length ≤ 1000 ∧ H' = H1)
    (hr : ∀ cd cc A outer s H E, PSs (cxS CX P w K mg base ps qual scope f cd cc A outer s H E) rest tr)
    (hst : ∀ L cd cc, starEach (e₀ :: es) (PySem.W.ksEnv qual scope L f cd cc) = (false, eval e₀ (PySem.W.ksEnv qual scope L f cd cc)) :: starEach es (PySem.W.ksEnv qual scope L f cd cc))
    (hpl : ∀ L cd cc, (backTo pos (starEach es (PySem.W.ksEnv qual scope L f cd cc))).any (·.1) = false)
    (hev : ∀ L cd cc, eval (.Call (.Attribute (.Call (.Name "super" p0) [] [] p1) "__init__" p2) (e₀ :: es) [] pos) (PySem.W.ksEnv qual scope L f cd cc) = (do
      let ov ← attributeBase (.Call (.Name "super" p0) [] [] p1) "__init__" (PySem.W.ksEnv qual scope L f cd cc) (eval (.Call (.Name "super" p0) [] [] p1) (PySem.W.ksEnv qual scope L f cd cc))
      standAt p2.atName
      let (f', first) ← holding [ov] (getMethod ov "__init__" pl)
      callWith pos f' first (backTo pos (starEach (e₀ :: es) (PySem.W.ksEnv qual scope L f cd cc))) [])) :
    FnOk P w K mg base CX (k + 1) f fd ps (fun vs H Q _ => vs.length = ps.length ∧ ∃ a, vs[0]? = some (.ref a) ∧ H a = some (exo a C none) ∧ tr { nx := fun _ H' => Q .non H', rt := Q } (start ps vs) H) := by
  obtain ⟨oc, od, osl, dV, kV, doc, pm, ct, an, cda, cc, ccl, cl, cdd, cld, ccs, csl, vs0, file, tf, cdC, rfl, lk, hcd, lc, hvs, hfile, hcc, hcl⟩ := EK.fn
  refine ⟨fun vs H Q E h => h.1, fun A outer s H args us vs Q E hrm e0 hb r hsp => ?_⟩
  obtain ⟨hl, a, h1, ea, hq⟩ := hsp
  have KX : K.In s.heap := e0.mod.kin.keeps fun b o e => (e0.bs b o e).1
  have lim : s.heap.NoLimit := e0.mod.nolimit.keeps fun b o e => (e0.bs b o e).1
  refine ks_codeAny_call_defAt hrm.depth (KX _ _ lk) rfl lim (PySem.W.codeRec_of KX hcd) rfl hb S.nocell (fun y hy => S.par _ (List.of_mem_zip (show (y.1, y.2) ∈ ps.zip us from hy)).1) (fun h₁ hns hk => ?_) S.co S.gen S.kind
  have I : Inv (cxS CX P w K mg base ps qual scope f (.ref cda) cc A outer s H E) [] (start ps vs) H { s with heap := h₁, toks := s.toks + (ps.zip us).length } := inv_startS S hrm.hd e0 hl r hcc hns hk
  have h1' : (start ps vs)[0]? = some (some (.ref a)) := by
    unfold L2.start
    rw [List.getElem?_append_left (by rw [List.length_map]; exact (List.getElem?_eq_some_iff.mp h1).1), List.getElem?_map, h1]
    rfl
  have fin : ∀ {σ' : L2.St} {H' : Hp} {v : V} {u : Value} {s' : Shared}, Inv (cxS CX P w K mg base ps qual scope f (.ref cda) cc A outer s H E) [] σ' H' s' → RelV v u → Q v H' → CE outer P w H s Q u s' :=
    fun {σ' H' v u s'} J rv q => ⟨v, H', J.os, J.bare, J.base, J.hok, rv, q⟩
  refine ks_wpAt_execs_cons (ks_wpAt_mono (super_stmt EK S lk lc hvs hfile hcc hcl hp h0 I h1' ea (ha _ _ _ _ _ _ _) (hta _ _ hl) (hst _ _ _) (hpl _ _ _) (hev _ _ _)) (fun fl s2 ⟨efl, J⟩ => ?_) fun e s' hs => hs)
  subst efl
  refine _root_.PySem.wpAt_of_wpAny (wpAny_mono ((hr _ _ _ _ _ _ _).run [] _ (start ps vs) H _ J hq) (fun fl s' hs => ?_) fun e s' hs => hs)
  cases fl with
  | ret u =>
    obtain ⟨v, σ', H', J, rv, q⟩ := hs
    exact fin J rv q
  | next =>
    obtain ⟨σ', H', J, q⟩ := hs
    exact fin (v := V.non) (u := Value.none) J rfl q
  | brk =>
    obtain ⟨_, _, _, q⟩ := hs
    exact False.elim q
  | cont =>
    obtain ⟨_, _, _, q⟩ := hs
    exact False.elim q
end

/-! ### self.f as a target, self an error that is being made -/
def gOst (K : PySem.W.Frag) (to : TE) (f : Str) : TG := fun v σ H Q => to σ H fun x H1 => ∃ a C : Addr, x = .ref a ∧ OexC K C ∧ PySem.W.findIn K (.ref C) f = some none ∧
  ((H1 a = some (exo a C none) ∧ ∀ dx, H1 dx = none → dx ≠ a → Q σ (upd (upd H1 dx (exd dx [(f, v)])) a (exo a C (some dx)))) ∨
    ∃ (dx : Addr) (fs : List (Str × V)), H1 a = some (exo a C (some dx)) ∧ H1 dx = some (exd dx fs) ∧ fs.length ≤ 900 ∧ Q σ (upd H1 dx (exd dx ((f, v) :: fs))))
theorem pg_ost {X : Cx} {o : Expr} {f : Str} {pos : Pos} {to : TE} (ho : PE X o to) : PG X (.Attribute o f pos) (gOst X.K to f) := ⟨fun pins s σ H v u Q I r h => by
  rw [PySem.assign_Attribute]
  refine wpAny_bind (wpAny_holding (thn (ho.run pins s σ H _ I h) fun ov s1 ⟨x, H1, I1, rx, a, C, ex, T, hno, q⟩ => ?_))
  cases ex
  cases rx
  refine wpAny_bind (wpAny_standAt (wpAny_bind (wpAny_holding ?_)))
  rcases q with ⟨ea, q⟩ | ⟨dx, fs, ea, ed, hl, q⟩
  · exact ost_new T I1 ea hno r fun dx s' n ne J => wpAny_release ⟨σ, _, J, q dx n ne⟩
  · exact ost_old T I1 ea ed hl hno r fun s' J => wpAny_release ⟨σ, _, J, q⟩⟩
/-- what an error's __init__ keeps: fs the names of its fields -/
def spX (C : Addr) (fs : List Str) : Sp := fun vs H Q _ => ∃ a ws, vs = .ref a :: ws ∧ ws.length = fs.length ∧ H a = some (exo a C none) ∧
  ∀ (H' : Hp) (d : Addr), (∀ b o, b ≠ a → H b = some o → H' b = some o) → H' a = some (exo a C (some d)) → H' d = some (exd d (fs.reverse.zip ws.reverse)) → H d = none → d ≠ a → Q .non H'
abbrev tV1 : TA := tCons (tVar 1) tNil
abbrev tV2 : TA := tCons (tVar 1) (tCons (tVar 2) tNil)
abbrev tV3 : TA := tCons (tVar 1) (tCons (tVar 2) (tCons (tVar 3) tNil))
def tR1 (K : PySem.W.Frag) (f : Str) : TS := tOst K f (tVar 0) (tVar 1)
def tR2 (K : PySem.W.Frag) (f g : Str) : TS := tAsg (tTup tV2) (gTup K 2 (gCons (gOst K (tVar 0) f) (gCons (gOst K (tVar 0) g) gNil)))
def tR3 (K : PySem.W.Frag) (f g h : Str) : TS := tAsg (tTup tV3) (gTup K 3 (gCons (gOst K (tVar 0) f) (gCons (gOst K (tVar 0) g) (gCons (gOst K (tVar 0) h) gNil))))
theorem start_all {ps : List Str} {vs : List V} (l : vs.length = ps.length) : start ps vs = vs.map some := by unfold L2.start; rw [l, Nat.sub_self]; simp
theorem hta1 {ps : List Str} (l : ps.length = 2) : ∀ vs H1, vs.length = ps.length → tV1 (start ps vs) H1 fun vs H' => vs.length ≤ 1000 ∧ H' = H1 := fun vs H1 h => by
  rw [start_all h]
  match vs, h.trans l with
  | [a, b], _ => exact ⟨b, rfl, by simp, rfl⟩
theorem hta2 {ps : List Str} (l : ps.length = 3) : ∀ vs H1, vs.length = ps.length → tV2 (start ps vs) H1 fun vs H' => vs.length ≤ 1000 ∧ H' = H1 := fun vs H1 h => by
  rw [start_all h]
  match vs, h.trans l with
  | [a, b, c], _ => exact ⟨b, rfl, c, rfl, by simp, rfl⟩
theorem hta3 {ps : List Str} (l : ps.length = 4) : ∀ vs H1, vs.length = ps.length → tV3 (start ps vs) H1 fun vs H' => vs.length ≤ 1000 ∧ H' = H1 := fun vs H1 h => by
  rw [start_all h]
  match vs, h.trans l with
  | [a, b, c, d], _ => exact ⟨b, rfl, c, rfl, d, rfl, by simp, rfl⟩
section
variable {K : PySem.W.Frag} {C : Addr} {f g h : Str} {ps : List Str} {vs : List V} {H : Hp} {Q : VK} {E : XK}
theorem spx1 (T : OexC K C) (n1 : PySem.W.findIn K (.ref C) f = some none) (l : ps.length = 2) (s : spX C [f] vs H Q E) :
    vs.length = ps.length ∧ ∃ a, vs[0]? = some (.ref a) ∧ H a = some (exo a C none) ∧ tR1 K f { nx := fun _ H' => Q .non H', rt := Q } (start ps vs) H := by
  obtain ⟨a, ws, rfl, lw, ea, q⟩ := s
  match ws, lw with
  | [w], _ =>
    refine ⟨l.symm, a, rfl, ea, ?_⟩
    rw [start_all (vs := [V.ref a, w]) l.symm]
    refine ⟨w, rfl, .ref a, rfl, a, C, rfl, T, n1, .inl ⟨ea, fun d hd ne => q _ d (fun b o hb e => ?_) upd_same ?_ hd ne⟩⟩
    · rw [upd_ne hb, upd_ne (ne_of_none e hd)]; exact e
    · rw [upd_ne ne, upd_same]; rfl
theorem spx2 (T : OexC K C) (n1 : PySem.W.findIn K (.ref C) f = some none) (n2 : PySem.W.findIn K (.ref C) g = some none) (l : ps.length = 3) (s : spX C [f, g] vs H Q E) :
    vs.length = ps.length ∧ ∃ a, vs[0]? = some (.ref a) ∧ H a = some (exo a C none) ∧ tR2 K f g { nx := fun _ H' => Q .non H', rt := Q } (start ps vs) H := by
  obtain ⟨a, ws, rfl, lw, ea, q⟩ := s
  match ws, lw with
  | [w, x], _ =>
    refine ⟨l.symm, a, rfl, ea, ?_⟩
    rw [start_all (vs := [V.ref a, w, x]) l.symm]
    refine ⟨w, rfl, x, rfl, (show 2 ≤ sizeLine by decide), fun t ht => ?_⟩
    have ta : a ≠ t := ne_of_none ea ht
    refine ⟨t, [w, x], rfl, .inl (.inl upd_same), rfl, w, [x], rfl, .ref a, rfl, a, C, rfl, T, n1, .inl ⟨by rw [upd_ne ta]; exact ea, fun d hd ne => ?_⟩⟩
    have dt : d ≠ t := fun z => by rw [z, upd_same] at hd; cases hd
    have hd' : H d = none := by rw [upd_ne dt] at hd; exact hd
    refine ⟨x, [], rfl, .ref a, rfl, a, C, rfl, T, n2, .inr ⟨d, [(f, w)], upd_same, by rw [upd_ne ne, upd_same], by simp, rfl, q _ d (fun b o hb e => ?_) ?_ upd_same hd' ne⟩⟩
    · rw [upd_ne (ne_of_none e hd'), upd_ne hb, upd_ne (ne_of_none e hd'), upd_ne (ne_of_none e ht)]; exact e
    · rw [upd_ne (Ne.symm ne), upd_same]
theorem spx3 (T : OexC K C) (n1 : PySem.W.findIn K (.ref C) f = some none) (n2 : PySem.W.findIn K (.ref C) g = some none) (n3 : PySem.W.findIn K (.ref C) h = some none) (l : ps.length = 4) (s : spX C [f, g, h] vs H Q E) :
    vs.length = ps.length ∧ ∃ a, vs[0]? = some (.ref a) ∧ H a = some (exo a C none) ∧ tR3 K f g h { nx := fun _ H' => Q .non H', rt := Q } (start ps vs) H := by
  obtain ⟨a, ws, rfl, lw, ea, q⟩ := s
  match ws, lw with
  | [w, x, y], _ =>
    refine ⟨l.symm, a, rfl, ea, ?_⟩
    rw [start_all (vs := [V.ref a, w, x, y]) l.symm]
    refine ⟨w, rfl, x, rfl, y, rfl, (show 3 ≤ sizeLine by decide), fun t ht => ?_⟩
    have ta : a ≠ t := ne_of_none ea ht
    refine ⟨t, [w, x, y], rfl, .inl (.inl upd_same), rfl, w, [x, y], rfl, .ref a, rfl, a, C, rfl, T, n1, .inl ⟨by rw [upd_ne ta]; exact ea, fun d hd ne => ?_⟩⟩
    have dt : d ≠ t := fun z => by rw [z, upd_same] at hd; cases hd
    have hd' : H d = none := by rw [upd_ne dt] at hd; exact hd
    refine ⟨x, [y], rfl, .ref a, rfl, a, C, rfl, T, n2, .inr ⟨d, [(f, w)], upd_same, by rw [upd_ne ne, upd_same], by simp, ?_⟩⟩
    refine ⟨y, [], rfl, .ref a, rfl, a, C, rfl, T, n3, .inr ⟨d, [(g, x), (f, w)], by rw [upd_ne (Ne.symm ne), upd_same], upd_same, by simp, rfl, q _ d (fun b o hb e => ?_) ?_ upd_same hd' ne⟩⟩
    · rw [upd_ne (ne_of_none e hd'), upd_ne (ne_of_none e hd'), upd_ne hb, upd_ne (ne_of_none e hd'), upd_ne (ne_of_none e ht)]; exact e
    · rw [upd_ne (Ne.symm ne), upd_ne (Ne.symm ne), upd_same]
end

/-! ### raise C(e, ..) -/
/-- what the written part says of the error c: its class, its __init__ -/
structure EOk (Γ : Gam) (P : Program) (w : World) (K : PySem.W.Frag) (mg : Str → Option Value) (base : Heap) (c : Nat) (f : Addr) (fd : FuncData) (ps : List Str) : Prop where
  T : OexC K (Γ.eA c)
  at_ : PySem.W.findIn K (.ref (Γ.eA c)) "__init__" = some (some (.ref f))
  ty : PySem.W.typeIn K (.ref f) = some (.type "function")
  bd : Binds K fd ps []
  fn : FnOk P w K mg base (L2.CX P w) 1 f fd ps (spX (Γ.eA c) (en c).reverse)
def dRaise (c : Nat) (fa : FA) : FS := fun ρ M => (fa ρ M).sbind ρ fun ds M => if ds.length = (en c).length ∧ ds.length ≤ 1000 then .ex c ds.reverse ρ M else .bad
section
variable {X : Cx} {Γ : Gam} {W : WX}
theorem St2.layLe {Θ : Ent} {as : List Addr} {G H H' : Hp} {M : List MO} (S : St2 Γ Θ as G M H) (l : Le H H') {p : Addr} {o : HO} (n : H p = none) (e : H' p = some o) : St2 Γ (DL.now H as G) as (upd G p o) M H' := by
  have fr := S.sub.free n
  refine ⟨fun a u h => ?_, Le.new fr, List.prefix_refl _, fun _ h => h, fun a u h _ => l a u h, fun a u h => ⟨u, l a u h⟩, fun a u h => ?_, S.len, S.nd, fun k a m h1 h2 h3 => ?_, fun _ h => .inl h, fun a h => ?_⟩
  · by_cases ap : a = p
    · subst ap; rw [upd_same] at h; cases h; exact e
    · rw [upd_ne ap] at h; exact l a u (S.sub a u h)
  · by_cases ap : a = p
    · subst ap; exact .inr (.inl n)
    · rw [upd_ne ap] at h; exact .inl h
  · obtain ⟨c1, ⟨u, c2⟩, c3⟩ := S.cel k a m h1 h2 h3
    have ap : a ≠ p := ne_of_none c2 n
    exact ⟨by rw [upd_ne ap]; exact c1, ⟨u, l a u c2⟩, c3.mono (Le.new fr) (List.prefix_refl _) ((l a u c2).trans c2.symm)⟩
  · obtain ⟨o', e'⟩ := S.ain a h
    exact ⟨o', l a o' e'⟩
theorem q_raise {c : Nat} {f : Addr} {fd : FuncData} {ps : List Str} {x : Str} {p pos pos2 : Pos} {e : Expr} {es : List Expr} {fa : FA} (EK : EOk Γ X.prog X.w X.K X.mg X.base c f fd ps) (hc : X.calm = true) (tk : Takes X W) (hr : Room 2 X.A) (hg : Gl X x) (hm : X.mg x = some (.ref (Γ.eA c))) (ha : PA X (e :: es) (tA Γ W fa))
    (hdb : (x == ("__debug__" : Str)) = false := by decide) (he : starEach (e :: es) X.env = (false, eval e X.env) :: starEach es X.env := by rfl) (hpl : (backTo pos (starEach es X.env)).any (·.1) = false := by rfl) :
    PS X (.Raise (some (.Call (.Name x p) (e :: es) [] pos)) none pos2) (tS Γ W (dRaise c fa)) := PS.imp (ps_raise hc tk (pmk_oex (CX := L2.CX X.prog X.w) (ds := []) (dvs := []) EK.T EK.at_ EK.ty EK.fn hr EK.bd .nil (passes_call tk fun _ _ _ _ z => z.elim) hg hm ha hdb he hpl)) fun D σ H ⟨Θ, as, G, M, ρ, S, q⟩ => by
  refine ⟨Θ, as, G, M, ρ, S, (PostS.bindA q).imp (Le.refl _) (List.prefix_refl _) ?_⟩
  rintro vs H1 ⟨ds, M1, as1, G1, S1, e1, p1, r, q1⟩
  split at q1
  · rename_i hl
    refine ⟨by rw [← r.length]; exact hl.2, fun a na => ?_⟩
    refine ⟨a, vs, by rw [List.append_nil], by rw [← r.length, hl.1, List.length_reverse], upd_same, fun H2 d kp ea ed hd ne => ⟨rfl, d, _, ea, ed, ?_, ?_⟩⟩
    · rw [upd_ne ne] at hd; exact hd
    have hd1 : H1 d = none := by rw [upd_ne ne] at hd; exact hd
    rw [List.reverse_reverse] at ed ⊢
    have l3 : Le H1 (upd (del H2 a) d (.xd ((en c).zip vs.reverse))) := fun b o z => by
      rw [upd_ne (ne_of_none z hd1), del_ne (ne_of_none z na)]
      exact kp b o (ne_of_none z na) (by rw [upd_ne (ne_of_none z na)]; exact z)
    have S3 := S1.after (S1.toSt2.layLe l3 hd1 upd_same)
    exact q1 _ _ _ _ _ S3 ⟨vs.reverse, upd_same, by rw [List.length_reverse, ← r.length, hl.1], (r.mono (Le.new (S1.sub.free hd1)) (List.prefix_refl _)).reverse⟩
  · exact q1.elim
end
end DL
set_option maxRecDepth 100000
/-! try: .. except C as e: .. -/
namespace DL
open PySem PySem.Spec PyProof.Rows L2

/-! ### the same data, a caught error told -/
section
variable {Γ Γ' : Gam} {as : List Addr} {G : Hp}
mutual
theorem Rep.same (hK : Γ'.K = Γ.K) (hc : Γ'.cA = Γ.cA) : ∀ {d : D} {v : V}, Rep Γ as G d v → Rep Γ' as G d v
  | .non, _, h => h
  | .bl _, _, h => h
  | .int _, _, h => h
  | .str _, _, h => h
  | .tup xs, v, h => by
    obtain ⟨a, vs, e, s, r⟩ := h
    exact ⟨a, vs, e, by rw [hK]; exact s, RepL.same hK hc r⟩
  | .lst xs, v, h => by
    obtain ⟨a, vs, e, s, r⟩ := h
    exact ⟨a, vs, e, s, RepL.same hK hc r⟩
  | .rol xs, v, h => by
    obtain ⟨a, vs, e, s, r⟩ := h
    exact ⟨a, vs, e, by rw [hK]; exact s, RepL.same hK hc r⟩
  | .ins c xs, v, h => by
    obtain ⟨a, dx, vs, e, s, l, r⟩ := h
    exact ⟨a, dx, vs, e, by rw [hc]; exact s, l, RepL.same hK hc r⟩
  | .cel n, v, h => h
theorem RepL.same (hK : Γ'.K = Γ.K) (hc : Γ'.cA = Γ.cA) : ∀ {xs : List D} {vs : List V}, RepL Γ as G xs vs → RepL Γ' as G xs vs
  | [], _, h => h
  | x :: xs, vs, h => by
    obtain ⟨v, ws, e, r, t⟩ := h
    exact ⟨v, ws, e, Rep.same hK hc r, RepL.same hK hc t⟩
end
theorem RepKV.same (hK : Γ'.K = Γ.K) (hc : Γ'.cA = Γ.cA) : ∀ {xs : List (Key × D)} {vs : List (Key × V)}, RepKV Γ as G xs vs → RepKV Γ' as G xs vs
  | [], _, h => h
  | x :: xs, vs, h => by
    obtain ⟨v, ws, e, r, t⟩ := h
    exact ⟨v, ws, e, Rep.same hK hc r, RepKV.same hK hc t⟩
theorem RepM.same (hK : Γ'.K = Γ.K) (hc : Γ'.cA = Γ.cA) (ht : Γ'.tb = Γ.tb) {H : Hp} {a : Addr} {m : MO} (h : RepM Γ as G H a m) : RepM Γ' as G H a m := by
  cases m with
  | lst xs => obtain ⟨vs, e, r⟩ := h; exact ⟨vs, e, r.same hK hc⟩
  | dic kvs => obtain ⟨ws, e, r⟩ := h; exact ⟨ws, e, RepKV.same hK hc r⟩
  | obj c ns xs => obtain ⟨dx, vs, e, l, r⟩ := h; exact ⟨dx, vs, by rw [hc]; exact e, l, r.same hK hc⟩
  | tab q => exact ⟨by rw [ht]; exact h.1, h.2⟩
  | dead => exact trivial
theorem XP.same (hK : Γ'.K = Γ.K) (hc : Γ'.cA = Γ.cA) {c : Nat} {xs : List D} {d : Addr} (h : XP Γ as G c xs d) : XP Γ' as G c xs d := by
  obtain ⟨vs, e, l, r⟩ := h
  exact ⟨vs, e, l, r.same hK hc⟩
theorem St2.same {Θ : Ent} {M : List MO} {H : Hp} (hK : Γ'.K = Γ.K) (hc : Γ'.cA = Γ.cA) (ht : Γ'.tb = Γ.tb) (S : St2 Γ Θ as G M H) : St2 Γ' Θ as G M H :=
  ⟨S.sub, S.grow, S.ext, S.esub, S.fr, S.pres, S.gfr, S.len, S.nd, fun n a m h1 h2 h3 => let ⟨c1, c2, c3⟩ := S.cel n a m h1 h2 h3; ⟨c1, c2, c3.same hK hc ht⟩, S.cfr, S.ain⟩
def notExn : Sl → Bool
  | .exn _ _ => false
  | _ => true
theorem RepS.same {H : Hp} {s : Sl} {ov : Option V} (hK : Γ'.K = Γ.K) (hc : Γ'.cA = Γ.cA) (hf : Γ'.fa = Γ.fa) (hs : notExn s = true) (h : RepS Γ as G H s ov) : RepS Γ' as G H s ov := by
  cases s with
  | mt => trivial
  | d x => obtain ⟨v, e, r⟩ := h; exact ⟨v, e, r.same hK hc⟩
  | own xs => obtain ⟨a, vs, e, q, r⟩ := h; exact ⟨a, vs, e, q, r.same hK hc⟩
  | obj c ns xs => obtain ⟨a, dx, vs, e, q, l, r⟩ := h; exact ⟨a, dx, vs, e, by rw [hc]; exact q, l, r.same hK hc⟩
  | exn c xs => cases hs
  | lam => obtain ⟨f, as1, G1, e, q, p⟩ := h; exact ⟨f, as1, G1, e, hf.trans q, p⟩
theorem Sta.same {Θ : Ent} {M : List MO} {ρ : List Sl} {σ : L2.St} {H : Hp} (hK : Γ'.K = Γ.K) (hc : Γ'.cA = Γ.cA) (hf : Γ'.fa = Γ.fa) (ht : Γ'.tb = Γ.tb) (hs : ρ.all notExn = true) (S : Sta Γ Θ as G M ρ σ H) : Sta Γ' Θ as G M ρ σ H :=
  ⟨S.toSt2.same hK hc ht, S.slen, fun i s ov h1 h2 => (S.env i s ov h1 h2).same hK hc hf (List.all_eq_true.mp hs s (List.mem_of_getElem? h1)), S.own, S.odj, S.slf⟩
/-- a slot takes what owns nothing -/
theorem Sta.setN {Θ : Ent} {M : List MO} {ρ : List Sl} {σ : L2.St} {H : Hp} (S : Sta Γ Θ as G M ρ σ H) {z : Sl} {ov : Option V} (i : Nat) (hz : (∀ xs, z ≠ .own xs) ∧ ∀ c ns xs, z ≠ .obj c ns xs) (r : RepS Γ as G H z ov) : Sta Γ Θ as G M (ρ.set i z) (σ.set i ov) H := by
  have ow : ∀ j a, Owns (ρ.set i z) (σ.set i ov) j a → Owns ρ σ j a := fun j a ⟨h, e⟩ => by
    by_cases hj : i = j
    · subst hj
      rcases h with ⟨xs, h⟩ | ⟨c, ns, xs, h⟩
      · rw [List.getElem?_set_self'] at h
        cases q : ρ[i]? <;> rw [q] at h <;> simp at h
        exact absurd h (hz.1 xs)
      · rw [List.getElem?_set_self'] at h
        cases q : ρ[i]? <;> rw [q] at h <;> simp at h
        exact absurd h (hz.2 c ns xs)
    · rw [List.getElem?_set_ne hj] at e
      rw [List.getElem?_set_ne hj] at h
      exact ⟨h, e⟩
  refine ⟨S.toSt2, by simp [S.slen], fun j s o h1 h2 => ?_, fun j a o => S.own j a (ow j a o), fun j k a o1 o2 => S.odj j k a (ow j a o1) (ow k a o2), fun j c ns xs a h1 h2 => ?_⟩
  rotate_left
  · by_cases hj : i = j
    · subst hj
      rw [List.getElem?_set_self'] at h1
      cases q : ρ[i]? <;> rw [q] at h1 <;> simp at h1
      exact absurd h1 (hz.2 c ns xs)
    · rw [List.getElem?_set_ne hj] at h1 h2
      exact S.slf j c ns xs a h1 h2
  by_cases hj : i = j
  · subst hj
    rw [List.getElem?_set_self'] at h1 h2
    cases q : ρ[i]? with
    | none => rw [q] at h1; simp at h1
    | some y =>
      cases q2 : σ[i]? with
      | none => rw [q2] at h2; simp at h2
      | some y2 =>
        rw [q] at h1; rw [q2] at h2
        simp at h1 h2
        subst h1; subst h2
        exact r
  · rw [List.getElem?_set_ne hj] at h1 h2
    exact S.env j s o h1 h2
end

/-! ### try -/
/-- the classes of errors: a clause catches its own class alone -/
def XmOk (Γ : Gam) (K : PySem.W.Frag) (es : List Nat) : Prop := ∀ c c0, es.contains c = true → es.contains c0 = true → PySem.W.exmOne K (.ref (Γ.eA c)) (.ref (Γ.eA c0)) = some (decide (c = c0))
/-- behind the suite: the name is gone -/
def unX (i : Nat) : RS → RS
  | .nx ρ M => if (ρ.set i .mt).all notExn then .nx (ρ.set i .mt) M else .bad
  | .bk ρ M => if (ρ.set i .mt).all notExn then .bk (ρ.set i .mt) M else .bad
  | .ct ρ M => if (ρ.set i .mt).all notExn then .ct (ρ.set i .mt) M else .bad
  | .rt d M => .rt d M
  | _ => .bad
def dTryAs (es : List Nat) (c0 i : Nat) (fb fh : FS) : FS := fun ρ M => match fb ρ M with
  | .ex c xs ρ' M' => if es.contains c && es.contains c0 && ρ'.all notExn then (if c = c0 then unX i (fh (ρ'.set i (.exn c xs)) M') else .ex c xs ρ' M') else .bad
  | r => r
abbrev Gam.wx (Γ : Gam) (a : Addr) (c : Nat) (d : Addr) : Gam := { Γ with xa := some (a, c, d) }
theorem GOk.wx {Γ : Gam} (T : GOk Γ) (a : Addr) (c : Nat) (d : Addr) : GOk (Γ.wx a c d) := ⟨T.cls⟩
theorem IsOk.wx {Γ : Gam} {K : PySem.W.Frag} {cs : List Nat} (T : IsOk Γ K cs) (a : Addr) (c : Nat) (d : Addr) : IsOk (Γ.wx a c d) K cs :=
  ⟨T.cl, T.ic, T.ob, T.g1, T.g2, fun τ cl h1 h2 => by
    have e1 : tyVal (Γ.wx a c d) τ = tyVal Γ τ := by cases τ <;> rfl
    have e2 : clVal (Γ.wx a c d) cl = clVal Γ cl := by cases cl <;> rfl
    rw [e1, e2]; exact T.one τ cl h1 h2⟩
def W00 : WX := fun _ _ _ _ => False
section
variable {X : Cx} {Γ : Gam} {W : WX}
/-- the suite's reading -/
def tSui (Γ : Gam) (c0 : Nat) (fh : FS) : Addr → Value → Option Addr → TS := fun a cls d D σ H => ∃ d', d = some d' ∧ cls = .ref (Γ.eA c0) ∧ tS (Γ.wx a c0 d') W00 fh D σ H
theorem q_sui {Y : Cx} {c0 : Nat} {fh : FS} {a : Addr} {cls : Value} {d : Option Addr} {ss : List Stmt} (h : ∀ d', d = some d' → cls = .ref (Γ.eA c0) → PSs Y ss (tS (Γ.wx a c0 d') W00 fh)) : PSs Y ss (tSui Γ c0 fh a cls d) :=
  ⟨fun pins s σ H D I ⟨d', e1, e2, q⟩ => (h d' e1 e2).run pins s σ H D I q⟩
theorem q_tryAs {es : List Nat} {c0 i : Nat} {x n : Str} {body suite : List Stmt} {b₀ : Stmt} {np pos pos' : Pos} {fb fh : FS} (xm : XmOk Γ X.K es) (hs : X.stack = X.env :: X.outer) (hf : X.env.frame = some X.env.locals) (hN : X.N.Nodup) (hi : X.N[i]? = some n) (hln : X.env.kindOf n = some .local)
    (hc : Names X x (.ref (Γ.eA c0))) (tk : Takes X W)
    (hb : ∀ (W' : WX) (pn : List (Addr × Obj)) (xe : Value → Shared → Prop), Takes (X.tr pn xe) W' → PassesOwn (model X.prog X.w) X.A X.env xe → PSs (X.tr pn xe) body (tS Γ W' fb))
    (hsu : ∀ (a : Addr) (oe : Obj) (cls : Value) (d : Option Addr) (pn : List (Addr × Obj)), Zc cls d oe → (∃ vs, oe.data = .fields vs) → PSs (X.suite a ((a, oe) :: pn)) (b₀ :: suite) (tSui Γ c0 fh a cls d)) :
    PS X (.Try body [.ExceptHandler (some (.Name x np)) (some n) (b₀ :: suite) pos'] [] [] pos) (tS Γ W (dTryAs es c0 i fb fh)) := PS.imp (ps_try_as hs hf hN hi hln hc tk hb hsu) fun D σ H ⟨Θ, as, G, M, ρ, S, q⟩ => by
  refine ⟨Θ, as, G, M, ρ, S, ?_⟩
  unfold dTryAs at q
  cases e : fb ρ M with
  | nx ρ' M' => rw [e] at q; exact q
  | rt d' M' => rw [e] at q; exact q
  | bk ρ' M' => rw [e] at q; exact q
  | ct ρ' M' => rw [e] at q; exact q
  | bad => rw [e] at q; exact q.elim
  | ex c xs ρ' M' =>
    rw [e] at q
    dsimp only at q
    split at q
    · rename_i hes
      rw [Bool.and_eq_true, Bool.and_eq_true] at hes
      intro as' G' σ' H' d S' xp
      refine ⟨decide (c = c0), xm c c0 hes.1.1 hes.1.2, fun hyes a na => ?_, fun hno => ?_⟩
      · have hcc : c = c0 := of_decide_eq_true hyes
        subst hcc
        rw [if_pos rfl] at q
        have S2 : Sta (Γ.wx a c d) Θ as' G' M' ρ' σ' H' := Sta.same (Γ := Γ) (Γ' := Γ.wx a c d) rfl rfl rfl rfl hes.2 S'
        have x2 : XP (Γ.wx a c d) as' G' c xs d := XP.same (Γ := Γ) (Γ' := Γ.wx a c d) rfl rfl xp
        have n1 : (∀ ys, Sl.exn c xs ≠ .own ys) ∧ ∀ k ns ys, Sl.exn c xs ≠ .obj k ns ys := ⟨fun _ z => (nomatch z), fun _ _ _ z => (nomatch z)⟩
        have n2 : (∀ ys, Sl.mt ≠ .own ys) ∧ ∀ k ns ys, Sl.mt ≠ .obj k ns ys := ⟨fun _ z => (nomatch z), fun _ _ _ z => (nomatch z)⟩
        have back : ∀ {as2 : List Addr} {G2 : Hp} {M2 : List MO} {ρ2 : List Sl} {σ2 : L2.St} {H2 : Hp}, Sta (Γ.wx a c d) Θ as2 G2 M2 ρ2 σ2 H2 → (ρ2.set i .mt).all notExn = true → Sta Γ Θ as2 G2 M2 (ρ2.set i .mt) (σ2.set i none) H2 :=
          fun S3 ha => Sta.same (Γ := Γ.wx a c d) (Γ' := Γ) rfl rfl rfl rfl ha (S3.setN i (z := .mt) (ov := none) n2 trivial)
        refine ⟨d, rfl, rfl, Θ, as', G', M', ρ'.set i (.exn c xs), ?_, ?_⟩
        · exact S2.setN i n1 ⟨a, d, rfl, rfl, x2⟩
        · unfold unX at q
          cases e2 : fh (ρ'.set i (.exn c xs)) M' with
          | nx ρ2 M2 =>
            rw [e2] at q
            dsimp only at q
            split at q
            · rename_i ha
              exact fun as2 G2 σ2 H2 S3 => q _ _ _ _ (back S3 ha)
            · exact q.elim
          | bk ρ2 M2 =>
            rw [e2] at q
            dsimp only at q
            split at q
            · rename_i ha
              exact fun as2 G2 σ2 H2 S3 => q _ _ _ _ (back S3 ha)
            · exact q.elim
          | ct ρ2 M2 =>
            rw [e2] at q
            dsimp only at q
            split at q
            · rename_i ha
              exact fun as2 G2 σ2 H2 S3 => q _ _ _ _ (back S3 ha)
            · exact q.elim
          | rt d2 M2 =>
            rw [e2] at q
            exact fun as2 G2 H2 v S3 r2 => q _ _ _ _ (St2.same (Γ := Γ.wx a c d) (Γ' := Γ) rfl rfl rfl S3) (Rep.same (Γ := Γ.wx a c d) (Γ' := Γ) rfl rfl r2)
          | ex c2 xs2 ρ2 M2 => rw [e2] at q; exact q.elim
          | bad => rw [e2] at q; exact q.elim
      · have hcc : c ≠ c0 := of_decide_eq_false hno
        rw [if_neg hcc] at q
        exact q _ _ _ _ _ S' xp
    · exact q.elim
/-- e.f in the suite -/
def dXf (i : Nat) (f : Str) : FE := fun ρ M => match ρ[i]? with
  | some (.exn c xs) => ofOpt (((en c).zip xs).lookup f) M
  | _ => .bad
theorem q_xf {a d' : Addr} {c0 : Nat} {oe : Obj} {cls : Value} {d : Option Addr} {pn : List (Addr × Obj)} {e : Expr} {i : Nat} {pos : Pos} {f : Str} (T : XfC X.K (Γ.eA c0)) (hno : PySem.W.findIn X.K (.ref (Γ.eA c0)) f = some none) (hz : Zc cls d oe) (hf : ∃ vs, oe.data = .fields vs)
    (hd : d = some d') (hcl : cls = .ref (Γ.eA c0)) (he : PE (X.suite a ((a, oe) :: pn)) e (tVar i)) (hb : attributeBase e f X.env (eval e X.env) = eval e X.env := by rfl) :
    PE (X.suite a ((a, oe) :: pn)) (.Attribute e f pos) (tE (Γ.wx a c0 d') W00 (dXf i f)) := PE.imp (pe_xf T hno hz hf he hb) fun σ H Q ⟨Θ, as, G, M, ρ, S, q⟩ => by
  unfold dXf at q
  split at q
  · rename_i c xs hi
    unfold ofOpt at q
    split at q
    · rename_i y hy
      have hl : i < σ.length := by
        rw [← S.slen]
        exact (List.getElem?_eq_some_iff.mp hi).1
      obtain ⟨a2, d2, e1, e2, vs, e3, l3, r3⟩ := S.env i _ _ hi (List.getElem?_eq_getElem hl)
      cases e2
      obtain ⟨w, hw, rw'⟩ := zip_look r3 hy
      refine ⟨.ref a, by rw [List.getElem?_eq_getElem hl, e1], rfl, hcl, d', _, w, hd, S.sub _ _ e3, hw, q _ _ _ _ S (Le.refl _) (List.prefix_refl _) rw'⟩
    · exact q.elim
  · exact q.elim
end
end DL
set_option maxRecDepth 100000
/-! A lambda without parameters, handed to a def that calls it. -/
namespace DL
open PySem PySem.Spec PyProof.Rows L2

theorem nodup_get {α : Type} : ∀ {l : List α} {i j : Nat} {x : α}, l.Nodup → l[i]? = some x → l[j]? = some x → i = j
  | [], i, j, x, _, h, _ => by simp at h
  | y :: l, 0, 0, x, _, _, _ => rfl
  | y :: l, 0, j + 1, x, n, h1, h2 => by
    cases h1
    exact absurd (List.mem_of_getElem? (by simpa using h2)) (List.nodup_cons.mp n).1
  | y :: l, i + 1, 0, x, n, h1, h2 => by
    cases h2
    exact absurd (List.mem_of_getElem? (by simpa using h1)) (List.nodup_cons.mp n).1
  | y :: l, i + 1, j + 1, x, n, h1, h2 => by
    have e : i = j := nodup_get (x := x) (List.nodup_cons.mp n).2 (by simpa using h1) (by simpa using h2)
    rw [e]
/-- the lambda is made: what the heap's picture becomes, told to the object -/
theorem lam_mk {X : Cx} {pins : List (Addr × Obj)} {σ : L2.St} {H : Hp} {s : Shared} {q : Str} {c P : Addr} {ps : Array Value} {ar : Arguments} {be : Expr} {sc : Scope} {lp : Pos} {E Q : Value → Shared → Prop}
    (I : Inv X pins σ H s) (TB : LamX.TabB X.base X.mg c P) (hc : X.env.code = .ref c) (hq : q = X.env.qual ++ "<lambda>") (hP : H P = some (.tbl ps)) (ht : TriplesOk ps.toList)
    (ha : ∀ (pos : Pos) (cv : Value), codeAmong pos ps.toList = some cv → ∃ z, cv = .ref z ∧ H z = some (LamX.CodeO z q)) (hd : defaultsOf ar X.env = ([], [])) (hfr : ∀ y ∈ sc.names, y.2 = .free → ∃ z, X.env.cells.lookup y.1 = some z)
    (k : ∀ (f z : Addr) (pm ctv : Value) (H1 : Hp) (s1 : Shared), Inv X pins σ H1 s1 → s1.heap.get? f = some (PySem.W.kla_obj "<lambda>" q ar be sc (cloFrom X.env.cells sc.names []) pm z ctv) → H1 f = none → f ∉ frs X.stack →
      ((H1 = H ∧ ∃ pos, codeAmong pos ps.toList = some (.ref z)) ∨ (H z = none ∧ z ≠ P ∧ ∃ qs : Array Value, H1 = upd (upd H P (.tbl qs)) z (LamX.CodeO z q) ∧ TriplesOk qs.toList ∧ ∀ (pos : Pos) (cv : Value), codeAmong pos qs.toList = some cv → codeAmong pos ps.toList = some cv ∨ cv = .ref z)) → Q (.ref f) s1) :
    wpAny (model X.prog X.w) X.A (eval (.Lambda ar be sc lp) X.env) Q E s := by
  subst hq
  have gP : s.heap.get? P = some { cls := .none, data := .fields ps } := I.hok P _ hP
  have gB : s.heap.BuiltinsAt X.mg P := TB.bm.keeps I.bk
  have far : ∀ f, s.heap.objs.size ≤ f → f ∉ frs X.stack := fun f lf hin => (List.mem_cons.mp (I.stkSub _ hin)).elim
    (fun e => Nat.not_le.mpr I.lt (e ▸ lf)) (fun e => I.nofs lf e)
  refine PySem.W.kla_eval hd ?_
  cases hit : codeAmong lp ps.toList with
  | some cv =>
    obtain ⟨z, ez, hz⟩ := ha lp cv hit
    subst ez
    refine PySem.W.kla_makeFunctionHit (c := c) (P := P) (mg := X.mg) (ps := ps) (closure_ok hfr) I.ok.glob (I.mod.glob.keeps I.bk) hc (TB.code.keeps I.bk) gP ht hit gB ?_
    intro ctv h1 t1 kp big
    exact k _ z _ ctv H _ (I.kept fun b o e => Heap.get?_push_of_some _ (kp b o e)) (Heap.get?_push_size _ rfl) (I.hok.fresh big) (far _ big) (.inl ⟨rfl, lp, hit⟩)
  | none =>
    refine PySem.W.kla_makeFunction (c := c) (P := P) (mg := X.mg) (ps := ps) (closure_ok hfr) I.ok.glob (I.mod.glob.keeps I.bk) hc (TB.code.keeps I.bk) gP ht hit TB.gP gB ?_
    intro z ctv h1 t1 kp ge lt rec_ tab_
    obtain ⟨z2, oz, fs, tz, ez, g1, g2, g3⟩ := rec_
    cases ez
    have nz : H z = none := I.hok.fresh ge
    have zP : z ≠ P := fun e => by rw [e, hP] at nz; cases nz
    have big : s.heap.objs.size ≤ h1.objs.size := Nat.le_trans ge (Nat.le_of_lt lt)
    have J := LamX.inv_table (t' := t1) (q := X.env.qual ++ "<lambda>") (more := #[rawInt lp.line, rawInt lp.col, .ref z]) (h' := h1.push (PySem.W.kla_obj "<lambda>" (X.env.qual ++ "<lambda>") ar be sc (cloFrom X.env.cells sc.names []) ((X.mg "__name__").getD .none) z ctv)) I hP
      (fun b o nb e => Heap.get?_push_of_some _ (kp b o nb e)) (Heap.get?_push_of_some _ tab_) ge ⟨oz, fs, tz, Heap.get?_push_of_some _ g1, g2, g3⟩
    have tl : (ps ++ #[rawInt lp.line, rawInt lp.col, .ref z]).toList = ps.toList ++ [rawInt lp.line, rawInt lp.col, .ref z] := by simp
    have f1 : h1.objs.size ≠ z := Nat.ne_of_gt lt
    have f2 : h1.objs.size ≠ P := fun e => Nat.lt_irrefl _ (Nat.lt_of_lt_of_le (Heap.lt_size gP) (e ▸ big))
    refine k h1.objs.size z _ ctv _ _ J (Heap.get?_push_size _ rfl) (by rw [upd_ne f1, upd_ne f2]; exact I.hok.fresh big) (far _ big) (.inr ⟨nz, zP, _, rfl, ?_, fun pos cv e => ?_⟩)
    · rw [tl]; exact PySem.TriplesOk_snoc _ _ _ _ ht
    · rw [tl] at e; exact LamX.among_app _ ht e

/-! ### data -/
abbrev FL := List MO → R D
def Sl.mask : Sl → Sl
  | .own _ => .mt
  | .obj _ _ _ => .mt
  | s => s
/-- the argument's call -/
def dAct (i : Nat) (al : FL) : FE := fun ρ M => match ρ[i]? with
  | some .lam => al M
  | _ => .bad
def runL (n : Nat) (b : FL → FS) (al : FL) : FL := fun M => match b al (.lam :: List.replicate (n - 1) .mt) M with
  | .nx _ M => .ok .non M
  | .rt d M => .ok d M
  | .ex c xs _ M => .ex c xs M
  | _ => .bad
/-- x(lambda: e); n: the number of the maker's table -/
def dLam (n : Nat) (q : Str) (F : FL → FL) (fe : FE) : FE := fun ρ M => match M[n]? with
  | some (.tab q') => if q' = q then F (fe (ρ.map Sl.mask)) M else .bad
  | _ => .bad
abbrev Gam.wf (Γ : Gam) (f : Addr) (as : List Addr) (G : Hp) : Gam := { Γ with fa := some (f, as, G) }
theorem GOk.wf {Γ : Gam} (T : GOk Γ) (f : Addr) (as : List Addr) (G : Hp) : GOk (Γ.wf f as G) := ⟨T.cls⟩
theorem IsOk.wf {Γ : Gam} {K : PySem.W.Frag} {cs : List Nat} (T : IsOk Γ K cs) (f : Addr) (as : List Addr) (G : Hp) : IsOk (Γ.wf f as G) K cs :=
  ⟨T.cl, T.ic, T.ob, T.g1, T.g2, fun τ cl h1 h2 => by
    have e1 : tyVal (Γ.wf f as G) τ = tyVal Γ τ := by cases τ <;> rfl
    have e2 : clVal (Γ.wf f as G) cl = clVal Γ cl := by cases cl <;> rfl
    rw [e1, e2]; exact T.one τ cl h1 h2⟩

section
variable {Γ : Gam} {Θ : Ent} {as as1 : List Addr} {G G1 H H1 : Hp} {M : List MO} {ρ : List Sl} {σ : L2.St}
theorem RepS.mask {s : Sl} {ov : Option V} (hG : Le G G1) (ha : as <+: as1) (r : RepS Γ as G H s ov) : RepS Γ as1 G1 H1 s.mask ov := by
  cases s with
  | mt => trivial
  | own xs => trivial
  | obj c ns xs => trivial
  | d x => exact RepS.mono (H := H) hG ha (fun a h => by rcases h with ⟨_, h⟩ | ⟨_, _, _, h⟩ <;> cases h) r
  | exn c xs => exact RepS.mono (H := H) hG ha (fun a h => by rcases h with ⟨_, h⟩ | ⟨_, _, _, h⟩ <;> cases h) r
  | lam => exact RepS.mono (H := H) hG ha (fun a h => by rcases h with ⟨_, h⟩ | ⟨_, _, _, h⟩ <;> cases h) r
theorem mask_notown {ρ : List Sl} {i : Nat} {z : Sl} (h : (ρ.map Sl.mask)[i]? = some z) : (∀ xs, z ≠ .own xs) ∧ ∀ c ns xs, z ≠ .obj c ns xs := by
  rw [List.getElem?_map] at h
  cases e : ρ[i]? with
  | none => rw [e] at h; cases h
  | some s =>
    rw [e] at h
    have h : s.mask = z := Option.some.inj h
    subst h
    cases s <;> exact ⟨fun _ z => (nomatch z), fun _ _ _ z => (nomatch z)⟩
/-- the maker's names, as they stand later -/
theorem Sta.later {M1 : List MO} (S : Sta Γ Θ as G M ρ σ H) (C : St2 Γ (DL.now H1 as1 G1) as1 G1 M1 H1) (hG : Le G G1) (ha : as <+: as1) : Sta Γ (DL.now H1 as1 G1) as1 G1 M1 (ρ.map Sl.mask) σ H1 := by
  have no : ∀ i a, ¬ Owns (ρ.map Sl.mask) σ i a := fun i a ⟨h, _⟩ => by
    rcases h with ⟨xs, h⟩ | ⟨c, ns, xs, h⟩
    · exact (mask_notown h).1 xs rfl
    · exact (mask_notown h).2 c ns xs rfl
  refine ⟨C, by rw [List.length_map]; exact S.slen, fun i z ov h1 h2 => ?_, fun i a o => absurd o (no i a), fun i j a o => absurd o (no i a), fun i c ns xs a h1 h2 => absurd ⟨.inr ⟨c, ns, xs, h1⟩, h2⟩ (no i a)⟩
  rw [List.getElem?_map] at h1
  cases e : ρ[i]? with
  | none => rw [e] at h1; cases h1
  | some w =>
    rw [e] at h1
    have h1 : w.mask = z := Option.some.inj h1
    subst h1
    exact (S.env i w ov e h2).mask hG ha
/-- the callee's names at its start -/
theorem sta_lam {N : List Str} {f : Addr} (hn : 1 ≤ N.length) (S : St2 Γ (DL.now H as G) as G M H) : Sta (Γ.wf f as G) (DL.now H as G) as G M (.lam :: List.replicate (N.length - 1) .mt) (L2.start N [.ref f]) H := by
  have no : ∀ i a, ¬ Owns (Sl.lam :: List.replicate (N.length - 1) .mt) (L2.start N [.ref f]) i a := fun i a ⟨h, _⟩ => by
    have key : ∀ s, (Sl.lam :: List.replicate (N.length - 1) .mt)[i]? = some s → s = .lam ∨ s = .mt := fun s hs => by
      cases i with
      | zero => exact .inl (Option.some.inj hs).symm
      | succ i =>
        rw [List.getElem?_cons_succ, List.getElem?_replicate] at hs
        split at hs
        · exact .inr (Option.some.inj hs).symm
        · cases hs
    rcases h with ⟨xs, h⟩ | ⟨c, ns, xs, h⟩ <;> (rcases key _ h with e | e <;> cases e)
  refine ⟨St2.same (Γ := Γ) (Γ' := Γ.wf f as G) rfl rfl rfl S, ?_, fun i s ov h1 h2 => ?_, fun i a o => absurd o (no i a), fun i j a o => absurd o (no i a), fun i c ns xs a h1 h2 => absurd ⟨.inr ⟨c, ns, xs, h1⟩, h2⟩ (no i a)⟩
  · simp [L2.start]
  · cases i with
    | zero =>
      cases h1
      have e : (L2.start N [V.ref f])[0]? = some (some (.ref f)) := rfl
      rw [e] at h2
      cases h2
      exact ⟨f, as, G, rfl, rfl, List.prefix_refl _, Le.refl _⟩
    | succ i =>
      rw [List.getElem?_cons_succ, List.getElem?_replicate] at h1
      split at h1
      · cases h1; trivial
      · cases h1
end

section
variable {X : Cx} {Γ : Gam} {W : WX}
/-- the action: the argument is called, in the def that got it -/
theorem act_ok {pins : List (Addr × Obj)} {Θ0 : Ent} {as1 : List Addr} {G1 : Hp} {M1 : List MO} {ρ : List Sl} {σ : L2.St} {H1 : Hp} {s1 : Shared} {x a q : Str} {Ng : List Str} {sg : Scope} {g f z : Addr} {cdg pm ctv : Value} {E0 : XK}
    {ar : Arguments} {be : Expr} {sc : Scope} {k : Nat} {fe : FE}
    (I : Inv X pins σ H1 s1) (S : Sta Γ Θ0 as1 G1 M1 ρ σ H1) (hz : G1 z = some (LamX.CodeO z q)) (hq : q = X.env.qual ++ "<lambda>") (L : LamX.LamS X.env.scope sc)
    (hf : s1.heap.get? f = some (PySem.W.kla_obj "<lambda>" q ar be sc (cloFrom X.env.cells sc.names []) pm z ctv)) (nf : H1 f = none) (ff : f ∉ frs X.stack)
    (hbd : ∀ (q : Str) (cl : List (Str × Addr)) (pm cv ctv : Value), bindArgs (PySem.W.kla_fn "<lambda>" q ar be sc cl pm cv ctv) ⟨[], []⟩ = pure [])
    (hr : Room (k + 1) (X.A.deeper (envOfC x sg s1.heap.objs.size g cdg)))
    (hb : ∀ (A : Around) (outer : List Env) (s : Shared) (H : Hp) (E : XK), Room k (A.deeper (LamX.lamEnv X sc s.heap.objs.size f z)) → Takes (LamX.lamCx X A outer s H E sc f z) (fun cls d _ H => E cls d H) → PE (LamX.lamCx X A outer s H E sc f z) be (tE Γ (fun cls d _ H => E cls d H) fe))
    (hNg : Ng[0]? = some a) (hva : Vis sg a) (hda : (a == ("__debug__" : Str)) = false) (hdb : (a == ("__classdict__" : Str)) = false)
    {V0 : WX} {pn : List (Addr × Obj)} {xe : Value → Shared → Prop} {p1 p2 : Pos} (tk : Takes ((cxOf (L2.CX X.prog X.w) X.prog X.w X.K X.mg X.base Ng x sg g cdg X.A X.stack s1 H1 E0).tr pn xe) V0) :
    PE ((cxOf (L2.CX X.prog X.w) X.prog X.w X.K X.mg X.base Ng x sg g cdg X.A X.stack s1 H1 E0).tr pn xe) (.Call (.Name a p1) [] [] p2) (tE (Γ.wf f as1 G1) V0 (dAct 0 (fe (ρ.map Sl.mask)))) := by
  subst hq
  refine ⟨fun pins2 s2 σ2 H2 Q I2 h => ?_⟩
  obtain ⟨Θ, as2, G2, M2, ρ2, S2, pe⟩ := h
  unfold dAct at pe
  split at pe
  case h_2 => exact pe.elim
  rename_i h0
  have hl : 0 < σ2.length := by rw [← S2.slen]; exact (List.getElem?_eq_some_iff.mp h0).1
  obtain ⟨f', as1', G1', e1, e2, pa, le⟩ := S2.env 0 _ _ h0 (List.getElem?_eq_getElem hl)
  cases e2
  have at0 : σ2[0]? = some (some (V.ref f)) := by rw [List.getElem?_eq_getElem hl, e1]
  refine wpAny_Call_Name_kw (thn ((pe_var (pos := p1) (i := 0) hNg hva hda hdb).run pins2 s2 σ2 H2 (fun v Hv => v = .ref f ∧ Hv = H2) I2 ⟨_, at0, rfl, rfl⟩) ?_)
  rintro u s3 ⟨v, H3, I3, r3, ev, eH⟩
  subst ev eH
  obtain rfl : u = Value.ref f := r3
  have gf := I3.base.keep f _ hf nf ff (fun m => nomatch (show f ∈ ([] : List Addr) from m))
  refine PySem.W.callWith_F0 ⟨_, _, _, _, gf⟩ ?_
  have uu : Un (frs X.stack) [] H1 H3 s1.heap s3.heap := I3.base
  obtain ⟨⟨oz, fs, tz, z1, z2, z3⟩, _, _⟩ := I3.hok z _ (S2.sub _ _ (le _ _ hz))
  have SL : Sta Γ (DL.now H3 as2 G2) as2 G2 M2 (ρ.map Sl.mask) σ H3 := S.later (St2.same (Γ := Γ.wf f as1 G1) (Γ' := Γ) rfl rfl rfl S2.toSt2.now) le pa
  have tt : tE Γ (fun cls d _ H => WE V0 σ2 cls d H) fe σ H3 Q → tE Γ (fun cls d _ H => WE V0 σ2 cls d H) fe σ H3 Q := id
  have body : tE Γ (fun cls d _ H => WE V0 σ2 cls d H) (fun ρ' M' => fe ρ' M') σ H3 Q := by
    refine ⟨_, as2, G2, M2, _, SL, ?_⟩
    show PostE Γ _ _ _ σ as2 G2 Q (fe (ρ.map Sl.mask) M2)
    cases e : fe (ρ.map Sl.mask) M2 with
    | ok d M' =>
      rw [e] at pe
      exact fun as' G' H' v S' le' pa' r => pe as' G' H' v (S2.after (St2.same (Γ := Γ) (Γ' := Γ.wf f as1 G1) rfl rfl rfl S'.toSt2)) le' pa' (Rep.same (Γ := Γ) (Γ' := Γ.wf f as1 G1) rfl rfl r)
    | ex c xs M' =>
      rw [e] at pe
      exact fun as' G' H' d S' le' pa' r => pe as' G' H' d (S2.after (St2.same (Γ := Γ) (Γ' := Γ.wf f as1 G1) rfl rfl rfl S'.toSt2)) le' pa' (XP.same (Γ := Γ) (Γ' := Γ.wf f as1 G1) rfl rfl r)
    | bad => rw [e] at pe; exact pe.elim
  have go : codeAny (model X.prog X.w) (X.A.deeper (envOfC x sg s1.heap.objs.size g cdg)) (.call (.ref f) ⟨[], []⟩) (CR (L2.CX X.prog X.w) (envOfC x sg s1.heap.objs.size g cdg :: X.stack) X.prog X.w H3 s3 Q (WE V0 σ2)) s3 := by
    refine PySem.W.kla_callFunE hr.depth gf rfl L.co L.gen rfl ⟨z, oz, fs, tz, rfl, z1, z2, z3⟩ ?_
    rw [hbd]
    refine wpAny_pure (wpAny_newFunctionEnv (fun y m => (L.own y m).2) (fun y m => absurd m (by simp)) (fun h4 n4 b4 => ⟨I3.nolimit.fresh _ b4, ?_⟩) L.kind)
    show codeAny _ _ (.expr be (LamX.lamEnv X sc s3.heap.objs.size f z)) _ _
    have J := LamX.lam_start2 (A := X.A.deeper (envOfC x sg s1.heap.objs.size g cdg)) (outer := envOfC x sg s1.heap.objs.size g cdg :: X.stack) (E := WE V0 σ2) (f := f) (c' := z) (tk := s3.toks + ([] : List (Str × Value)).length) I L I3.env0 hr.hd uu n4 (fun b o e => b4.extBut b o (Nat.ne_of_lt (Heap.lt_size e)) (Heap.get?_push_of_some _ e))
    refine PySem.W.kla_codeExpr (wpAny_mono ((hb _ _ s3 H3 (WE V0 σ2) (hr.deeper _) (takes_of rfl rfl rfl rfl)).run [] _ _ H3 Q J body) ?_ fun _ _ m => m)
    rintro v s5 ⟨w5, H5, J5, r5, q5⟩
    exact ⟨w5, H5, J5.os, J5.bare, J5.base, J5.hok, r5, q5⟩
  refine wpAny_call (codeAny_mono go ?_)
  intro r s5 h5
  match r, h5 with
  | .error e, h5 => exact passAt tk σ2 pins2 H3 s3 e s5 I3 h5
  | .ok (.ret u), h5 => exact I3.after h5
  | .ok .next, h5 => exact False.elim h5
  | .ok .brk, h5 => exact False.elim h5
  | .ok .cont, h5 => exact False.elim h5

/-- x(lambda: e) -/
theorem q_lam {x a q : Str} {c g : Addr} {n k : Nat} {stg : Stmt} {fdg : FuncData} {Ng : List Str} {bx : FL → FS} {ar : Arguments} {be : Expr} {sc : Scope} {fe : FE} {p lp pos : Pos}
    (hg : Gl X x) (hm : X.mg x = some (.ref g)) (Fo : Fn1 X.K x x stg g fdg) (hb : Binds X.K fdg [a] []) (Sg : FnScope Ng [a] (defScope stg)) (hNg : Ng[0]? = some a) (hva : Vis (defScope stg) a) (hda : (a == ("__debug__" : Str)) = false) (hdb : (a == ("__classdict__" : Str)) = false)
    (hG : ∀ (al : FL) (f : Addr) (as1 : List Addr) (G1 : Hp) (cdv : Value) (A : Around) (outer : List Env) (s : Shared) (H : Hp) (E : XK), Room (k + 1) (A.deeper (envOfC x (defScope stg) s.heap.objs.size g cdv)) →
      Takes (cxOf (L2.CX X.prog X.w) X.prog X.w X.K X.mg X.base Ng x (defScope stg) g cdv A outer s H E) (fun cls d _ H => E cls d H) →
      (∀ (V0 : WX) (pn : List (Addr × Obj)) (xe : Value → Shared → Prop) (p1 p2 : Pos), Takes ((cxOf (L2.CX X.prog X.w) X.prog X.w X.K X.mg X.base Ng x (defScope stg) g cdv A outer s H E).tr pn xe) V0 →
        PE ((cxOf (L2.CX X.prog X.w) X.prog X.w X.K X.mg X.base Ng x (defScope stg) g cdv A outer s H E).tr pn xe) (.Call (.Name a p1) [] [] p2) (tE (Γ.wf f as1 G1) V0 (dAct 0 al))) →
      PSs (cxOf (L2.CX X.prog X.w) X.prog X.w X.K X.mg X.base Ng x (defScope stg) g cdv A outer s H E) (defBody stg) (tS (Γ.wf f as1 G1) (fun cls d _ H => E cls d H) (bx al)))
    (hK : Γ.K = X.K) (TB : LamX.TabB X.base X.mg c (Γ.tb q)) (hc : X.env.code = .ref c) (hq : q = X.env.qual ++ "<lambda>")
    (tk : Takes X W) (hr : Room (k + 2) X.A) (L : LamX.LamS X.env.scope sc) (hd : defaultsOf ar X.env = ([], []))
    (hbd : ∀ (q : Str) (cl : List (Str × Addr)) (pm cv ctv : Value), bindArgs (PySem.W.kla_fn "<lambda>" q ar be sc cl pm cv ctv) ⟨[], []⟩ = pure [])
    (hbody : ∀ (A : Around) (outer : List Env) (s : Shared) (H : Hp) (E : XK) (f z : Addr), Room k (A.deeper (LamX.lamEnv X sc s.heap.objs.size f z)) → Takes (LamX.lamCx X A outer s H E sc f z) (fun cls d _ H => E cls d H) → PE (LamX.lamCx X A outer s H E sc f z) be (tE Γ (fun cls d _ H => E cls d H) fe))
    (hdx : (x == ("__debug__" : Str)) = false := by decide) :
    PE X (.Call (.Name x p) [.Lambda ar be sc lp] [] pos) (tE Γ W (dLam n q (runL Ng.length bx) fe)) := by
  refine ⟨fun pins s σ H Q I h => ?_⟩
  obtain ⟨Θ, as, G, M, ρ, S, pe⟩ := h
  unfold dLam at pe
  split at pe
  case h_2 => exact pe.elim
  rename_i q' hM
  split at pe
  case isFalse => exact pe.elim
  rename_i eq'
  subst eq'
  have hl : n < as.length := by rw [S.len]; exact (List.getElem?_eq_some_iff.mp hM).1
  have han : as[n]? = some as[n] := List.getElem?_eq_getElem hl
  obtain ⟨gN, _, ea, ps, hP, ht, hcs⟩ := S.cel n _ _ han hM (by simp)
  rw [ea] at han gN hP
  obtain ⟨oc, od, dV, kV, doc, pm, an, cdv, ct, osl, rfl, lk, hcd⟩ := Fo.ex
  refine wpAny_Call_Name_kw (ld_glob I hg hm ?_ hdx)
  refine PySem.W.callWith_K (h₀ := X.base) I.ok.mod.kin Fo.kp ?_ (by rfl) (by rfl)
  show wpAny _ _ (spliced ((false, eval (.Lambda ar be sc lp) X.env) :: backTo pos (starEach [] X.env))) _ _ s
  refine Calls.spliced_cons (lam_mk I TB hc hq hP ht (fun pos cv e => let ⟨z, e1, e2⟩ := hcs pos cv e; ⟨z, e1, S.sub _ _ e2⟩) hd (L.has I.ok) fun f z pm' ctv H1 s1 I1 gf nf ff alt => ?_)
  have key : ∃ G1, St2 Γ (DL.now H as G) as G1 M H1 ∧ G1 z = some (LamX.CodeO z q') := by
    rcases alt with ⟨rfl, pos, e⟩ | ⟨nz, zP, qs, rfl, t1, t2⟩
    · obtain ⟨z', e1, e2⟩ := hcs pos _ e
      cases e1
      exact ⟨G, S.toSt2.now, e2⟩
    · have gz : G z = none := S.sub.free nz
      have off : ∀ a, a ≠ z → a ≠ Γ.tb q' → upd (upd H (Γ.tb q') (.tbl qs)) z (LamX.CodeO z q') a = H a := fun a h1 h2 => by rw [upd_ne h1, upd_ne h2]
      have atP : upd (upd H (Γ.tb q') (.tbl qs)) z (LamX.CodeO z q') (Γ.tb q') = some (.tbl qs) := by rw [upd_ne zP.symm, upd_same]
      have inA : Γ.tb q' ∈ as := List.mem_of_getElem? han
      refine ⟨upd G z (LamX.CodeO z q'), ⟨fun a u e => ?_, Le.new gz, List.prefix_refl _, fun _ m => m, fun a u e m => ?_, fun a u e => ?_, fun a u e => ?_, S.len, S.nd, fun j a m h1 h2 h3 => ?_, fun _ m => .inl m, fun a m => ?_⟩, upd_same⟩
      · by_cases ez : a = z
        · subst ez; rw [upd_same] at e ⊢; exact e
        · rw [upd_ne ez] at e
          rw [off a ez fun e' => by rw [e', gN] at e; cases e]
          exact S.sub a u e
      · rw [off a (ne_of_none e nz) fun e' => m (e' ▸ inA)]; exact e
      · by_cases eP : a = Γ.tb q'
        · exact ⟨.tbl qs, by rw [eP]; exact atP⟩
        · exact ⟨u, by rw [off a (ne_of_none e nz) eP]; exact e⟩
      · by_cases ez : a = z
        · subst ez; exact .inr (.inl nz)
        · rw [upd_ne ez] at e; exact .inl e
      · obtain ⟨c1, ⟨u, c2⟩, c3⟩ := S.cel j a m h1 h2 h3
        have ez : a ≠ z := ne_of_none c2 nz
        by_cases eP : a = Γ.tb q'
        · have jn : j = n := by
            subst eP; exact nodup_get S.nd h1 han
          subst jn
          rw [hM] at h2
          cases h2
          subst eP
          refine ⟨by rw [upd_ne ez]; exact c1, ⟨_, atP⟩, rfl, qs, atP, t1, fun pos cv e => ?_⟩
          rcases t2 pos cv e with o | o
          · obtain ⟨y, y1, y2⟩ := hcs pos cv o
            exact ⟨y, y1, Le.new gz _ _ y2⟩
          · exact ⟨z, o, upd_same⟩
        · exact ⟨by rw [upd_ne ez]; exact c1, ⟨u, by rw [off a ez eP]; exact c2⟩, c3.mono (Le.new gz) (List.prefix_refl _) (off a ez eP)⟩
      · obtain ⟨u, e⟩ := S.ain a m
        by_cases eP : a = Γ.tb q'
        · exact ⟨.tbl qs, by rw [eP]; exact atP⟩
        · exact ⟨u, by rw [off a (ne_of_none e nz) eP]; exact e⟩
  obtain ⟨G1, C1, gz1⟩ := key
  have S1 : Sta Γ Θ as G1 M ρ σ H1 := S.after C1
  refine Calls.spliced_nil ⟨I1.kIn, ?_⟩
  have go : codeAny (model X.prog X.w) X.A (.call (.ref g) ⟨[.ref f], []⟩) (CR (L2.CX X.prog X.w) X.stack X.prog X.w H1 s1 Q (WE W σ)) s1 := by
    refine LamX.run_ofS (N := Ng) (ps := [a]) (us := [.ref f]) (vs := [.ref f]) lk hcd Sg hr I1.env0 (hb s1 [.ref f] I1.kIn rfl) (.cons rfl .nil) rfl fun hr' => ?_
    refine ⟨_, hG (fe (ρ.map Sl.mask)) f as G1 cdv X.A X.stack s1 H1 (WE W σ) hr' (takes_of rfl rfl rfl rfl) (fun V0 pn xe p1 p2 tk2 => act_ok I1 S1 gz1 hq L gf nf ff hbd hr' (fun A outer s H E => hbody A outer s H E f z) hNg hva hda hdb tk2), ?_⟩
    have hn1 : 1 ≤ Ng.length := (List.getElem?_eq_some_iff.mp hNg).1
    refine ⟨DL.now H1 as G1, as, G1, M, _, sta_lam hn1 S1.toSt2.now, ?_⟩
    unfold runL at pe
    have bk : ∀ {as' : List Addr} {G' H' : Hp} {M' : List MO}, St2 (Γ.wf f as G1) (DL.now H1 as G1) as' G' M' H' → St2 Γ (DL.now H1 as G1) as' G' M' H' := fun z => St2.same (Γ := Γ.wf f as G1) (Γ' := Γ) rfl rfl rfl z
    have le1 : Le G G1 := C1.grow
    cases e : bx (fe (ρ.map Sl.mask)) (.lam :: List.replicate (Ng.length - 1) .mt) M with
    | nx ρ' M' => rw [e] at pe; exact fun as' G' σ' H' s' => pe as' G' H' _ (S1.after (bk s'.toSt2)) (le1.trans s'.grow) s'.ext rfl
    | rt d M' => rw [e] at pe; exact fun as' G' H' v s' rv => pe as' G' H' v (S1.after (bk s')) (le1.trans s'.grow) s'.ext (Rep.same (Γ := Γ.wf f as G1) (Γ' := Γ) rfl rfl rv)
    | ex c xs ρ' M' => rw [e] at pe; exact fun as' G' σ' H' d s' x => pe as' G' H' d (S1.after (bk s'.toSt2)) (le1.trans s'.grow) s'.ext (XP.same (Γ := Γ.wf f as G1) (Γ' := Γ) rfl rfl x)
    | bk ρ' M' => rw [e] at pe; exact pe.elim
    | ct ρ' M' => rw [e] at pe; exact pe.elim
    | bad => rw [e] at pe; exact pe.elim
  refine wpAny_call (codeAny_mono go ?_)
  intro r s5 h5
  match r, h5 with
  | .error e, h5 => exact passAt tk σ pins H1 s1 e s5 I1 h5
  | .ok (.ret u), h5 => exact I1.after h5
  | .ok .next, h5 => exact False.elim h5
  | .ok .brk, h5 => exact False.elim h5
  | .ok .cont, h5 => exact False.elim h5
end
/-- THE RULE of a def that makes lambdas: its code object is told -/
theorem fn_okC {P : Program} {w : World} {K : PySem.W.Frag} {mg : Str → Option Value} {base : Heap} {Γ : Gam} {x qual : Str} {st : Stmt} {f c : Addr} {fd : FuncData} {N ps : List Str} {k : Nat} {fb : FS} (hc : fd.code = .ref c) (F : Fn1 K x qual st f fd) (S : FnScope N ps (defScope st))
    (hbody : ∀ (A : Around) (outer : List Env) (s : Shared) (H : Hp) (E : XK), Room k (A.deeper (envOfC qual (defScope st) s.heap.objs.size f (.ref c))) →
      Takes (cxOf (L2.CX P w) P w K mg base N qual (defScope st) f (.ref c) A outer s H E) (fun cls d _ H => E cls d H) →
      PSs (cxOf (L2.CX P w) P w K mg base N qual (defScope st) f (.ref c) A outer s H E) (defBody st) (tS Γ (fun cls d _ H => E cls d H) fb)) :
    FnOk P w K mg base (L2.CX P w) (k + 1) f fd ps (spF Γ ps.length (runF N.length fb)) := by
  obtain ⟨oc, od, dV, kV, doc, pm, an, cdv, ct, osl, rfl, lk, hcd⟩ := F.ex
  have e : cdv = .ref c := hc
  subst e
  refine fn_of lk hcd S (fun vs H Q E h => ?_) (fun A outer s H vs Q E hr h => ⟨_, hbody A outer s H E hr (takes_of rfl rfl rfl rfl), ?_⟩)
  · obtain ⟨as, G, M, ds, _, r, l, _⟩ := h
    exact r.length.symm.trans l
  · obtain ⟨as, G, M, ds, S2, r, l, q⟩ := h
    refine ⟨DL.now H as G, as, G, M, start0 N.length ds, sta_start S2 r, ?_⟩
    unfold runF at q
    cases e : fb (start0 N.length ds) M with
    | nx ρ M' => rw [e] at q; exact fun as' G' σ' H' s' => q as' G' H' _ s'.toSt2 rfl
    | rt d M' => rw [e] at q; exact q
    | ex c xs ρ M' => rw [e] at q; exact fun as' G' σ' H' d s' x => q as' G' H' d s'.toSt2 x
    | bk ρ M' => rw [e] at q; exact q.elim
    | ct ρ M' => rw [e] at q; exact q.elim
    | bad => rw [e] at q; exact q.elim
theorem k_negI {Γ : Gam} {W : WX} : ∀ Θ ρ σ as G M H a x Q, Sta Γ Θ as G M ρ σ H → Rep Γ as G a x → PostE Γ Θ W ρ σ as G Q (negI a M) → (∃ i : Int, x = .int i ∧ Q (.int (-i)) H) := by
  intro Θ ρ σ as G M H a x Q S r q
  unfold negI at q
  split at q
  · cases r
    exact ⟨_, rfl, got S q rfl⟩
  · exact q.elim
end DL
set_option maxRecDepth 100000
namespace DL
open PySem PySem.Spec PyProof.Rows L2
/-- (a, b, ..) = a tuple or a list -/
def gTupA (n : Nat) (g : TGts) : TGt := fun d ρ M => match d with
  | .tup ds => if ds.length = n then g ds ρ M else none
  | .lst ds => if ds.length = n then g ds ρ M else none
  | .rol ds => if ds.length = n then g ds ρ M else none
  | _ => none
section
variable {X : Cx} {Γ : Gam}
theorem PG.orr {e : Expr} {t u : TG} (h : PG X e t) (k : PG X e u) : PG X e (fun v σ H Q => t v σ H Q ∨ u v σ H Q) := ⟨fun pins s σ H v w Q I r q => q.elim (h.run pins s σ H v w Q I r) (k.run pins s σ H v w Q I r)⟩
theorem qg_tupA {es : List Expr} {k : Nat} {pos : Pos} {g : TGts} {n : Nat} (hK : Γ.K = X.K) (hc : X.calm = true) (h : PGs X es (tGs Γ g))
    (hn : (assignEach es X.env).length = n := by rfl) (hst : (assignEach es X.env).findIdx? (·.1) = none := by rfl) : PG X (.Tuple es k pos) (tG Γ (gTupA n g)) := PG.imp (PG.orr (pg_tup hc h hn hst) (pg_lst hc h hn hst)) fun v σ H Q ⟨Θ, as, G, M, ρ, d, ρ', M', S, r, e, q⟩ => by
  unfold gTupA at e
  split at e
  · rename_i ds
    split at e
    · rename_i hl
      obtain ⟨a, vs, ev, st, rl⟩ := r
      rw [hK] at st
      exact .inl ⟨a, vs, ev, S.sub.st st, rl.length.symm.trans hl, Θ, as, G, M, ρ, ds, ρ', M', S, rl, e, q⟩
    · cases e
  · rename_i ds
    split at e
    · rename_i hl
      obtain ⟨a, vs, ev, st, rl⟩ := r
      exact .inr ⟨a, vs, ev, .inl (.inl (S.sub _ _ st)), rl.length.symm.trans hl, Θ, as, G, M, ρ, ds, ρ', M', S, rl, e, q⟩
    · cases e
  · rename_i ds
    split at e
    · rename_i hl
      obtain ⟨a, vs, ev, st, rl⟩ := r
      rw [hK] at st
      exact .inr ⟨a, vs, ev, S.sub.sl st, rl.length.symm.trans hl, Θ, as, G, M, ρ, ds, ρ', M', S, rl, e, q⟩
    · cases e
  · cases e
end
end DL
set_option maxRecDepth 100000
/-! Texts, slices, in, max, sum, op=. -/
namespace DL
open PySem PySem.Spec PyProof.Rows L2

section
variable {X : Cx} {Γ : Gam} {W : WX}
/-! ### slices -/
def cutD {α : Type} (xs : List α) (lo hi : Option Int) : List α := (xs.drop (HT.sIx xs.length 0 lo)).take (HT.sIx xs.length xs.length hi - HT.sIx xs.length 0 lo)
def cutStr (z : Str) (lo hi : Option Int) : Str := ⟨(cutD z.cps.toList lo hi).toArray⟩
def opI : D → Option (Option Int)
  | .non => some none
  | .int i => some (some i)
  | _ => none
def sliceD (x l u : D) (M : List MO) : R D := match opI l, opI u with
  | some l, some u => match x with
    | .str z => if szOk z.length then .ok (.str (cutStr z l u)) M else .bad
    | .lst xs => .ok (.lst (cutD xs l u)) M
    | .rol xs => .ok (.lst (cutD xs l u)) M
    | .tup xs => .ok (.tup (cutD xs l u)) M
    | _ => .bad
  | _, _ => .bad
def dSlice (fe fl fu : FE) : FE := fun ρ M => (fe ρ M).bind fun x M => (fl ρ M).bind fun l M => if (opI l).isSome then (fu ρ M).bind fun u M => sliceD x l u M else .bad
/-- an int -/
def dInt (f : FE) : FE := fun ρ M => (f ρ M).bind fun d M => match d with
  | .int i => .ok (.int i) M
  | _ => .bad
structure QO (X : Cx) (Γ : Gam) (W : WX) (lo : Option Expr) (fl : FE) : Prop where
  run : ∃ tl, PO X lo tl ∧ ∀ σ H Q, (tE Γ W fl σ H fun x H1 => (x = .non ∧ Q none H1) ∨ ∃ i, x = .int i ∧ Q (some i) H1) → tl σ H Q
theorem qp_none : QO X Γ W none (dC .non) := ⟨⟨_, po_none, fun σ H Q ⟨Θ, as, G, M, ρ, S, q⟩ => by
  have z := q _ _ _ .non S (Le.refl _) (List.prefix_refl _) rfl
  rcases z with ⟨_, z⟩ | ⟨i, e, _⟩
  · exact z
  · cases e⟩⟩
theorem qp_some {e : Expr} {f : FE} (h : PE X e (tE Γ W f)) : QO X Γ W (some e) (dInt f) := ⟨⟨_, po_some h, fun σ H Q ⟨Θ, as, G, M, ρ, S, q⟩ => by
  refine ⟨Θ, as, G, M, ρ, S, (PostE.bindE q).imp (Le.refl _) (List.prefix_refl _) ?_⟩
  rintro x H1 ⟨d, M1, as1, G1, S1, e1, p1, r, q1⟩
  split at q1
  · cases r
    rcases q1 _ _ _ (.int _) S1 (Le.refl _) (List.prefix_refl _) rfl with ⟨z, _⟩ | z
    · cases z
    · exact z
  · exact q1.elim⟩⟩
theorem cutD_rep {as : List Addr} {G : Hp} {xs : List D} {vs : List V} (r : RepL Γ as G xs vs) (l u : Option Int) : RepL Γ as G (cutD xs l u) (cutV vs l u) := by
  unfold cutD cutV
  rw [← r.length]
  exact (r.drop _).take _
theorem cut_whole {xs : List D} {l u : Option Int} (h1 : HT.sIx xs.length 0 l = 0) (h2 : HT.sIx xs.length xs.length u = xs.length) : cutD xs l u = xs := by
  unfold cutD
  rw [h1, h2]
  simp
theorem q_slice {e : Expr} {lo hi : Option Expr} {p2 pos : Pos} {fe fl fu : FE} (hK : Γ.K = X.K) (he : PE X e (tE Γ W fe)) (hl : QO X Γ W lo fl) (hu : QO X Γ W hi fu) :
    PE X (.Subscript e (.Slice lo hi none p2) pos) (tE Γ W (dSlice fe fl fu)) := by
  obtain ⟨tl, pl, rl⟩ := hl.run
  obtain ⟨tu, pu, ru⟩ := hu.run
  refine PE.imp (pe_slice (SlR.or sl_str (SlR.or sl_list sl_tupA)) he pl pu) fun σ H Q ⟨Θ, as, G, M, ρ, S, q⟩ => ?_
  refine ⟨Θ, as, G, M, ρ, S, (PostE.bindE q).imp (Le.refl _) (List.prefix_refl _) ?_⟩
  rintro x H1 ⟨d, M1, as1, G1, S1, e1, p1, r, q1⟩
  refine rl _ _ _ ⟨Θ, as1, G1, M1, ρ, S1, (PostE.bindE q1).imp (Le.refl _) (List.prefix_refl _) ?_⟩
  rintro vl H2 ⟨dl, M2, as2, G2, S2, e2, p2, rl', q2⟩
  split at q2
  rotate_left
  · exact q2.elim
  rename_i hdl
  have fin : ∀ o : Option Int, opI dl = some o → tu σ H2 fun u H3 => (fun x lo hi H Q => rSlS x lo hi H Q ∨ rSlL X.K x lo hi H Q ∨ rSlA X.K x lo hi H Q) x o u H3 Q := fun o ho => by
    refine ru _ _ _ ⟨Θ, as2, G2, M2, ρ, S2, (PostE.bindE q2).imp (Le.refl _) (List.prefix_refl _) ?_⟩
    rintro vu H3 ⟨du, M3, as3, G3, S3, e3, p3, ru', q3⟩
    have r3 := (r.mono e2 p2).mono e3 p3
    have go : ∀ o2 : Option Int, opI du = some o2 → (fun x lo hi H Q => rSlS x lo hi H Q ∨ rSlL X.K x lo hi H Q ∨ rSlA X.K x lo hi H Q) x o o2 H3 Q := fun o2 ho2 => by
      unfold sliceD at q3
      rw [ho, ho2] at q3
      dsimp only at q3
      cases d with
      | str z =>
        dsimp only at q3
        cases r3
        split at q3
        · rename_i hz
          exact .inl ⟨z, rfl, szOk_le hz, by
            have e : cutStr z o o2 = cutS z o o2 := by
              unfold cutStr cutD cutS
              rw [Array.length_toList]
              rfl
            rw [← e]
            exact got S3 q3 rfl⟩
        · exact q3.elim
      | lst xs =>
        obtain ⟨a, vs, rfl, s, rr⟩ := r3
        exact .inr (.inl ⟨a, vs, rfl, .inl (.inl (S3.sub _ _ s)), fun p n => keepsNewLst S3 (cutD_rep rr o o2) q3 n⟩)
      | rol xs =>
        obtain ⟨a, vs, rfl, s, rr⟩ := r3
        rw [hK] at s
        exact .inr (.inl ⟨a, vs, rfl, S3.sub.sl s, fun p n => keepsNewLst S3 (cutD_rep rr o o2) q3 n⟩)
      | tup xs =>
        have r4 := r3
        obtain ⟨a, vs, rfl, s, rr⟩ := r3
        have s' := s
        rw [hK] at s
        refine .inr (.inr ⟨a, vs, rfl, S3.sub.st s, fun hw => ?_, fun _ p n => keepsNewTup S3 (cutD_rep rr o o2) q3 n⟩)
        rw [← rr.length] at hw
        dsimp only at q3
        rw [cut_whole hw.1 hw.2] at q3
        exact got S3 q3 r4
      | _ => exact q3.elim
    cases du with
    | non => cases ru'; exact .inl ⟨rfl, go _ rfl⟩
    | int i => cases ru'; exact .inr ⟨i, rfl, go _ rfl⟩
    | _ => (unfold sliceD at q3; rw [ho] at q3; exact q3.elim)
  cases dl with
  | non => cases rl'; exact .inl ⟨rfl, fin _ rfl⟩
  | int i => cases rl'; exact .inr ⟨i, rfl, fin _ rfl⟩
  | _ => cases hdl

/-! ### in -/
def flatD : D → Bool
  | .non => true
  | .bl _ => true
  | .int _ => true
  | .str _ => true
  | _ => false
def toV : D → V
  | .bl b => .bl b
  | .int i => .int i
  | .str s => .str s
  | _ => .non
theorem toV_of {as : List Addr} {G : Hp} {d : D} {v : V} (h : flatD d = true) (r : Rep Γ as G d v) : v = toV d := by
  cases d <;> first | exact r | cases h
theorem flat_of {d : D} (h : flatD d = true) : flatV (toV d) = true := by
  cases d <;> first | rfl | cases h
theorem toVs_of {as : List Addr} {G : Hp} : ∀ {xs : List D} {vs : List V}, xs.all flatD = true → RepL Γ as G xs vs → vs = xs.map toV
  | [], _, _, r => r
  | x :: xs, vs, h, r => by
    rw [List.all_cons, Bool.and_eq_true] at h
    obtain ⟨v, ws, rfl, r1, r2⟩ := r
    rw [List.map_cons, toV_of h.1 r1, toVs_of h.2 r2]
theorem flats_of : ∀ {xs : List D}, xs.all flatD = true → (xs.map toV).all flatV = true
  | [], _ => rfl
  | x :: xs, h => by
    rw [List.all_cons, Bool.and_eq_true] at h
    rw [List.map_cons, List.all_cons, flat_of h.1, flats_of h.2]; rfl
def inList (x : D) (xs : List D) (M : List MO) (neg : Bool) : R D := if flatD x && xs.all flatD then .ok (.bl (if neg then !(inV (toV x) (xs.map toV)) else inV (toV x) (xs.map toV))) M else .bad
def inD (neg : Bool) : D → D → List MO → R D
  | x, .tup xs, M => inList x xs M neg
  | x, .lst xs, M => inList x xs M neg
  | x, .rol xs, M => inList x xs M neg
  | .str i, .str z, M => match i.cps.toList with
    | [c] => .ok (.bl (if neg then !decide (c ∈ z.cps.toList) else decide (c ∈ z.cps.toList))) M
    | _ => .bad
  | _, _, _ => .bad
def rInAll (K : PySem.W.Frag) (neg : Bool) : R2 := fun x y H Q => rIn K neg x y H Q ∨ ∃ (c : Nat) (z : Str), x = .str ⟨#[c]⟩ ∧ y = .str z ∧ Q (.bl (if neg then !decide (c ∈ z.cps.toList) else decide (c ∈ z.cps.toList))) H
theorem op_inD : OpR X (compareOp .In) (rInAll X.K false) := DL.OpR.or op_in_seq op_in_sign
theorem op_notInD : OpR X (compareOp .NotIn) (rInAll X.K true) := DL.OpR.or op_notIn_seq op_notIn_sign
theorem k_inD {neg : Bool} (hK : Γ.K = X.K) : Keeps2 Γ W (fun _ => rInAll X.K neg) (inD neg) := by
  intro Θ ρ σ as G M H a b x y Q S ra rb q
  have go : ∀ {xs : List D} {vs : List V} {p : Addr}, RepL Γ as G xs vs → y = .ref p → (SqL X.K H p vs ∨ SqT X.K H p vs) → PostE Γ Θ W ρ σ as G Q (inList a xs M neg) → rInAll X.K neg x y H Q := fun {xs vs p} rr ey sq q => by
    unfold inList at q
    split at q
    · rename_i hz
      rw [Bool.and_eq_true] at hz
      refine .inl ⟨p, vs, ey, sq, ?_, ?_, ?_⟩
      · rw [toV_of hz.1 ra]; exact flat_of hz.1
      · rw [toVs_of hz.2 rr]; exact flats_of hz.2
      · rw [toV_of hz.1 ra, toVs_of hz.2 rr]; exact got S q rfl
    · exact q.elim
  cases b with
  | tup xs =>
    obtain ⟨p, vs, e, s, rr⟩ := rb
    rw [hK] at s
    cases a <;> exact go rr e (.inr (S.sub.st s)) q
  | lst xs =>
    obtain ⟨p, vs, e, s, rr⟩ := rb
    cases a <;> exact go rr e (.inl (.inl (.inl (S.sub _ _ s)))) q
  | rol xs =>
    obtain ⟨p, vs, e, s, rr⟩ := rb
    rw [hK] at s
    cases a <;> exact go rr e (.inl (S.sub.sl s)) q
  | str z =>
    cases a with
    | str i =>
      unfold inD at q
      dsimp only at q
      split at q
      · rename_i c hc
        cases ra; cases rb
        have e : i = ⟨#[c]⟩ := by
          cases i with
          | mk cps =>
            have hc : cps.toList = [c] := hc
            have : cps = #[c] := by rw [← Array.toArray_toList (xs := cps), hc]
            rw [this]
        exact .inr ⟨c, z, by rw [e], rfl, got S q rfl⟩
      · exact q.elim
    | _ => exact q.elim
  | _ => cases a <;> exact q.elim

/-! ### built-in functions -/
def intD2 : List D → List MO → R D
  | [.str a], M => if a.length ≤ 640 then (match PySem.intText? a with
    | some n => .ok (.int n) M
    | none => .bad) else .bad
  | ds, M => intD ds M
def rIntAll : List V → Hp → VK → Prop := fun xs H Q => ((∃ i, xs = [.int i] ∧ Q (.int i) H) ∨ ∃ k, xs = [.bl k] ∧ Q (.int (if k then 1 else 0)) H) ∨ ∃ a n, xs = [.str a] ∧ PySem.intText? a = some n ∧ a.length ≤ 640 ∧ Q (.int n) H
theorem call_intAll : CallR X (.type "int") rIntAll := CallR.or call_int1 call_int_str
theorem ka_intAll : KeepsA Γ W rIntAll intD2 := by
  intro Θ ρ σ as G M H ds vs Q S r q
  unfold intD2 at q
  split at q
  · split at q
    · rename_i hz
      obtain ⟨v, rfl, h⟩ := one_rep r
      cases h
      split at q
      · rename_i n hn
        exact .inr ⟨_, n, rfl, hn, hz, got S q rfl⟩
      · exact q.elim
    · exact q.elim
  · exact .inl (ka_int Θ ρ σ as G M H _ vs Q S r q)
def strD : List D → List MO → R D
  | [.int i], M => if i.natAbs.log2 < 1920 then .ok (.str (toString i)) M else .bad
  | _, _ => .bad
theorem ka_str : KeepsA Γ W (fun xs H Q => ∃ i : Int, xs = [.int i] ∧ i.natAbs.log2 < 1920 ∧ Q (.str (toString i)) H) strD := by
  intro Θ ρ σ as G M H ds vs Q S r q
  unfold strD at q
  split at q
  · split at q
    · rename_i hz
      obtain ⟨v, rfl, h⟩ := one_rep r
      cases h
      exact ⟨_, rfl, hz, got S q rfl⟩
    · exact q.elim
  · exact q.elim
def intsD : List D → Option (List Int)
  | [] => some []
  | .int i :: xs => (intsD xs).map (i :: ·)
  | _ => none
theorem ints_rep {as : List Addr} {G : Hp} : ∀ {xs : List D} {ns : List Int} {vs : List V}, intsD xs = some ns → RepL Γ as G xs vs → vs = ns.map V.int
  | [], ns, vs, e, r => by cases e; exact r
  | x :: xs, ns, vs, e, r => by
    obtain ⟨v, ws, rfl, r1, r2⟩ := r
    cases x with
    | int i =>
      unfold intsD at e
      cases q : intsD xs with
      | none => rw [q] at e; cases e
      | some ms =>
        rw [q] at e
        cases e
        cases r1
        rw [ints_rep q r2]; rfl
    | _ => cases e
def maxL : Int → List Int → Int
  | m, [] => m
  | m, n :: ns => maxL (if n > m then n else m) ns
theorem maxL_ge : ∀ {ns : List Int} {m : Int}, m ≤ maxL m ns ∧ ∀ y ∈ ns, y ≤ maxL m ns
  | [], m => ⟨Int.le_refl _, fun _ h => by cases h⟩
  | n :: ns, m => by
    unfold maxL
    by_cases h : n > m
    · rw [if_pos h]
      obtain ⟨h1, h2⟩ := maxL_ge (ns := ns) (m := n)
      exact ⟨by omega, fun y hy => (List.mem_cons.mp hy).elim (fun e => by rw [e]; exact h1) (h2 y)⟩
    · rw [if_neg h]
      obtain ⟨h1, h2⟩ := maxL_ge (ns := ns) (m := m)
      exact ⟨h1, fun y hy => (List.mem_cons.mp hy).elim (fun e => by rw [e]; omega) (h2 y)⟩
theorem maxL_mem : ∀ {ns : List Int} {m : Int}, maxL m ns = m ∨ maxL m ns ∈ ns
  | [], m => .inl rfl
  | n :: ns, m => by
    unfold maxL
    rcases maxL_mem (ns := ns) (m := if n > m then n else m) with e | e
    · by_cases h : n > m
      · rw [if_pos h] at e ⊢; exact .inr (by rw [e]; exact List.mem_cons_self)
      · rw [if_neg h] at e ⊢; exact .inl e
    · exact .inr (List.mem_cons_of_mem _ e)
def maxD : List D → List MO → R D
  | [.lst xs], M => match intsD xs with
    | some (n :: ns) => .ok (.int (maxL n ns)) M
    | _ => .bad
  | _, _ => .bad
theorem ka_max (hK : Γ.K = X.K) : KeepsA Γ W (rMax X.K) maxD := by
  intro Θ ρ σ as G M H ds vs Q S r q
  unfold maxD at q
  split at q
  · split at q
    · rename_i n ns hn
      obtain ⟨v, rfl, a, ws, rfl, s, rr⟩ := one_rep r
      have e := ints_rep hn rr
      subst e
      refine ⟨a, n :: ns, rfl, .inl (.inl (S.sub _ _ s)), by simp, fun m hm hle => ?_⟩
      obtain ⟨h1, h2⟩ := maxL_ge (ns := ns) (m := n)
      have em : m = maxL n ns := by
        have a1 : m ≤ maxL n ns := by
          rcases List.mem_cons.mp hm with z | z
          · rw [z]; exact h1
          · exact h2 m z
        have a2 : maxL n ns ≤ m := by
          rcases maxL_mem (ns := ns) (m := n) with z | z
          · rw [z]; exact hle n List.mem_cons_self
          · exact hle _ (List.mem_cons_of_mem _ z)
        omega
      rw [em]
      exact got S q rfl
    · exact q.elim
  · exact q.elim
def sumD : List D → List MO → R D
  | [.lst xs], M => match intsD xs with
    | some ns => .ok (.int ns.sum) M
    | _ => .bad
  | _, _ => .bad
theorem ka_sum (hK : Γ.K = X.K) : KeepsA Γ W (rSum X.K) sumD := by
  intro Θ ρ σ as G M H ds vs Q S r q
  unfold sumD at q
  split at q
  · split at q
    · rename_i ns hn
      obtain ⟨v, rfl, a, ws, rfl, s, rr⟩ := one_rep r
      have e := ints_rep hn rr
      subst e
      exact ⟨a, ns, rfl, .inl (.inl (S.sub _ _ s)), got S q rfl⟩
    · exact q.elim
  · exact q.elim

/-! ### methods of texts -/
def dStr1 (g : Str → Str → List MO → R D) (fo fe : FE) : FE := fun ρ M => (fo ρ M).bind fun d M => match d with
  | .str a => (fe ρ M).bind fun e M => match e with
    | .str b => g a b M
    | _ => .bad
  | _ => .bad
theorem q_str1 {id : String} {name : Str} {apos pos : Pos} {r : V → List V → Hp → VK → Prop} {g : Str → Str → List MO → R D} {o e : Expr} {fo fe : FE} (slot : Slot "str" name id) (ty : typeOf (.builtin id) = pure (.type "method_descriptor")) (rule : MtR X id r)
    (k : ∀ Θ ρ σ as G M H a b Q, Sta Γ Θ as G M ρ σ H → PostE Γ Θ W ρ σ as G Q (g a b M) → r (.str a) [.str b] H Q) (ho : PE X o (tE Γ W fo)) (he : PE X e (tE Γ W fe))
    (hs : starEach [e] X.env = [(false, eval e X.env)] := by rfl) (hbase : attributeBase o name X.env (eval o X.env) = eval o X.env := by rfl) (hline : (apos.endLine == pos.line) = true := by rfl) :
    PE X (.Call (.Attribute o name apos) [e] [] pos) (tE Γ W (dStr1 g fo fe)) := PE.imp (pe_m1 slot ty rule ho he hs hbase hline) fun σ H Q ⟨Θ, as, G, M, ρ, S, q⟩ => by
  refine ⟨Θ, as, G, M, ρ, S, (PostE.bindE q).imp (Le.refl _) (List.prefix_refl _) ?_⟩
  rintro x H1 ⟨d, M1, as1, G1, S1, e1, p1, r1, q1⟩
  split at q1
  · cases r1
    refine ⟨⟨_, rfl⟩, Θ, as1, G1, M1, ρ, S1, (PostE.bindE q1).imp (Le.refl _) (List.prefix_refl _) ?_⟩
    rintro y H2 ⟨d2, M2, as2, G2, S2, e2, p2, r2, q2⟩
    split at q2
    · cases r2
      exact k _ _ _ _ _ _ _ _ _ _ S2 q2
    · exact q2.elim
  · exact q1.elim
def splitD (a b : Str) (M : List MO) : R D := if (b.length == 0) = false ∧ szOk (a.length + 2) then .ok (.lst ((Txt.split a b).map .str)) M else .bad
theorem strs_rep {as : List Addr} {G : Hp} : ∀ ys : List Str, RepL Γ as G (ys.map D.str) (ys.map V.str)
  | [] => RepL.nil
  | y :: ys => RepL.cons rfl (strs_rep ys)
theorem q_split {apos pos : Pos} {o e : Expr} {fo fe : FE} (ho : PE X o (tE Γ W fo)) (he : PE X e (tE Γ W fe))
    (hs : starEach [e] X.env = [(false, eval e X.env)] := by rfl) (hbase : attributeBase o "split" X.env (eval o X.env) = eval o X.env := by rfl) (hline : (apos.endLine == pos.line) = true := by rfl) :
    PE X (.Call (.Attribute o "split" apos) [e] [] pos) (tE Γ W (dStr1 splitD fo fe)) := q_str1 PySem.F.slot_str_split PySem.F.type_str_split mt_split (fun Θ ρ σ as G M H a b Q S q => by
  unfold splitD at q
  split at q
  · rename_i hz
    exact ⟨a, b, rfl, rfl, hz.1, szOk_le hz.2, fun p n => keepsNewLst S (strs_rep _) q n⟩
  · exact q.elim) ho he hs hbase hline
def lstripD (a b : Str) (M : List MO) : R D := if szOk a.length then .ok (.str (Txt.lstripChars a b)) M else .bad
theorem q_lstrip {apos pos : Pos} {o e : Expr} {fo fe : FE} (ho : PE X o (tE Γ W fo)) (he : PE X e (tE Γ W fe))
    (hs : starEach [e] X.env = [(false, eval e X.env)] := by rfl) (hbase : attributeBase o "lstrip" X.env (eval o X.env) = eval o X.env := by rfl) (hline : (apos.endLine == pos.line) = true := by rfl) :
    PE X (.Call (.Attribute o "lstrip" apos) [e] [] pos) (tE Γ W (dStr1 lstripD fo fe)) := q_str1 PySem.F.slot_str_lstrip PySem.F.type_str_lstrip mt_lstripChars (fun Θ ρ σ as G M H a b Q S q => by
  unfold lstripD at q
  split at q
  · rename_i hz
    exact ⟨a, b, rfl, rfl, szOk_le hz, got S q rfl⟩
  · exact q.elim) ho he hs hbase hline
/-! tuple(text) -/
def tupleD2 : List D → List MO → R D
  | [.str z], M => if szOk z.length then .ok (.tup (z.cps.toList.map fun c => .str ⟨#[c]⟩)) M else .bad
  | ds, M => tupleD ds M
theorem paired_ix {α β : Type} {R : α → β → Prop} : ∀ {xs : List α} {ys : List β}, xs.length = ys.length → (∀ (i : Nat) (x : α) (y : β), xs[i]? = some x → ys[i]? = some y → R x y) → Paired R xs ys
  | [], [], _, _ => .nil
  | x :: xs, y :: ys, l, h => .cons (h 0 x y rfl rfl) (paired_ix (by simpa using l) fun i a b e1 e2 => h (i + 1) a b (by simpa using e1) (by simpa using e2))
theorem items_sign {x : Str} {acc : Array Value} (h : ItemsOf (SignAt x) acc x.cps.size) : Vals (x.cps.toList.map fun c => V.str ⟨#[c]⟩) acc.toList := by
  refine paired_ix (by rw [List.length_map, Array.length_toList, Array.length_toList, h.1]) fun i a b e1 e2 => ?_
  obtain ⟨c, u, e3, rfl⟩ := h.2 i b (by rw [← Array.getElem?_toList]; exact e2)
  rw [List.getElem?_map, Array.getElem?_toList, e3] at e1
  cases e1
  exact ⟨u, rfl⟩
def rTupStr : List V → Hp → VK → Prop := fun xs H Q => ∃ z : Str, xs = [.str z] ∧ z.length ≤ sizeLine ∧ ∀ p, H p = none → Q (.ref p) (upd H p (.tup (z.cps.toList.map fun c => V.str ⟨#[c]⟩)))
theorem call_tupStr (hc : X.calm = true) : CallR X (.type "tuple") rTupStr := by
  intro pins s σ H xs us Q I r h
  obtain ⟨z, rfl, hz, q⟩ := h
  cases r with
  | cons r1 rs =>
    cases rs
    obtain ⟨t, rfl⟩ := r1
    refine PySem.call_tuple_str (I.ok.hd hc) z t (fun h' tk acc k it => ?_) hz
    have I1 := I.kept (t' := tk) k
    have v := items_sign it
    have hl : (z.cps.toList.map fun c => V.str ⟨#[c]⟩).length ≤ sizeLine := by rw [List.length_map, Array.length_toList]; exact hz
    refine ⟨.ref h'.objs.size, _, I1.laid (t' := tk) (a := h'.objs.size) (o := .tup (z.cps.toList.map fun c => V.str ⟨#[c]⟩)) (fun b o e => Heap.get?_push_of_some _ e) (Nat.le_refl _) ?_, rfl, q _ (I1.hok.fresh (Nat.le_refl _))⟩
    exact ⟨hl, acc.toList, v, _, Heap.get?_push_at rfl rfl, rfl, _, by rw [Array.toArray_toList]⟩
def rTupAll (K : PySem.W.Frag) : List V → Hp → VK → Prop := fun xs H Q => (∃ p ys, xs = [.ref p] ∧ ((SqL K H p ys ∧ ∀ l, H l = none → Q (.ref l) (upd H l (.tup ys))) ∨ (SqT K H p ys ∧ Q (.ref p) H))) ∨ rTupStr xs H Q
theorem call_tupAll (hc : X.calm = true) : CallR X (.type "tuple") (rTupAll X.K) := CallR.or call_tuple_of (call_tupStr hc)
theorem chars_rep {as : List Addr} {G : Hp} : ∀ cs : List Nat, RepL Γ as G (cs.map fun c => D.str ⟨#[c]⟩) (cs.map fun c => V.str ⟨#[c]⟩)
  | [] => RepL.nil
  | c :: cs => RepL.cons rfl (chars_rep cs)
theorem ka_tupAll (hK : Γ.K = X.K) : KeepsA Γ W (rTupAll X.K) tupleD2 := by
  intro Θ ρ σ as G M H ds vs Q S r q
  unfold tupleD2 at q
  split at q
  · split at q
    · rename_i hz
      obtain ⟨v, rfl, h⟩ := one_rep r
      cases h
      exact .inr ⟨_, rfl, szOk_le hz, fun p n => keepsNewTup S (chars_rep _) q n⟩
    · exact q.elim
  · exact .inl (ka_tuple hK Θ ρ σ as G M H _ vs Q S r q)
/-! ### x op= e -/
def dAug (g : D → D → List MO → R D) (i : Nat) (fe : FE) : FS := fun ρ M => match ρ[i]? with
  | some (.d a) => (fe ρ M).sbind ρ fun b M => (g a b M).sbind ρ fun d M => .nx (ρ.set i (.d d)) M
  | _ => .bad
theorem q_aug {i : Nat} {x : Str} {e : Expr} {op : Operator} {pos pos' : Pos} {f : Int → Int → Int} {g : D → D → List MO → R D} {fe : FE} (hN : X.N.Nodup) (hi : X.N[i]? = some x) (hx : Loc X.env.scope x) (he : PE X e (tE Γ W fe)) (ho : PIp X op (ipI f))
    (hg : ∀ a b M, g a b M = match a, b with
      | .int i, .int j => .ok (.int (f i j)) M
      | _, _ => .bad) (hf : X.fn x = true ∨ X.env.scope.names.lookup x = some .local := by first | exact .inl rfl | exact .inr rfl | assumption) :
    PS X (.AugAssign (.Name x pos') op e pos) (tS Γ W (dAug g i fe)) := PS.imp (ps_aug hN hi hx he ho hf) fun D σ H ⟨Θ, as, G, M, ρ, S, q⟩ => by
  unfold dAug at q
  split at q
  · rename_i a ha
    have hl : i < σ.length := by
      rw [← S.slen]
      exact (List.getElem?_eq_some_iff.mp ha).1
    obtain ⟨v, ev, rv⟩ := S.env i _ _ ha (List.getElem?_eq_getElem hl)
    refine ⟨v, by rw [List.getElem?_eq_getElem hl, ev], Θ, as, G, M, ρ, S, (PostS.bindE q).imp (Le.refl _) (List.prefix_refl _) ?_⟩
    rintro y H1 ⟨b, M1, as1, G1, S1, e1, p1, rb, q1⟩
    have ra := rv.mono e1 p1
    rw [hg] at q1
    cases a with
    | int i' =>
      cases b with
      | int j' =>
        cases ra; cases rb
        exact ⟨i', j', rfl, rfl, q1 _ _ _ _ (S1.set i (d := .int (f i' j')) (v := .int (f i' j')) rfl)⟩
      | _ => exact q1.elim
    | _ => cases b <;> exact q1.elim
  · exact q.elim
end
end DL
set_option maxRecDepth 100000
/-! From the facts of the written part to the walk. -/
namespace DL
open PySem PySem.Spec PyProof.Rows L2
/-- a data class -/
structure ClsF (K : PySem.W.Frag) (C : Addr) : Prop where
  cl : Cls K C
  ic : PySem.W.findIn K (.ref C) "__class__" = some (some (.builtin "object.__class__"))
  ob : PySem.W.mroIn K C (.type "object") = some true
  isC : PySem.W.isClsIn K C = true
  ty : PySem.W.typeIn K (.ref C) = some (.type "type")
  b1 : PySem.W.mroIn K C (.type "bool") = some false
  b2 : PySem.W.mroIn K C (.type "int") = some false
  b3 : PySem.W.mroIn K C (.type "str") = some false
  b4 : PySem.W.mroIn K C (.type "tuple") = some false
  b5 : PySem.W.mroIn K C (.type "list") = some false
section
variable {Γ : Gam} {K : PySem.W.Frag}
theorem kit_bb (τ cl : String) (h : (Value.type τ == Value.type cl) = false) (hm : PySem.W.kitMeta cl = true) {b : Bool} (e : PySem.W.subIn K (.type τ) (.type cl) = some b) : PySem.W.kitOne K (.type τ) (.type cl) = some b := by
  unfold PySem.W.kitOne PySem.W.kitCls
  rw [if_neg (by rw [h]; exact Bool.false_ne_true)]
  dsimp only
  rw [if_pos hm, e]
theorem kit_same (v : Value) : PySem.W.kitOne K v v = some true := by
  unfold PySem.W.kitOne
  rw [if_pos (by simp)]
theorem kit_bo (τ : String) {C : Addr} (F : ClsF K C) (e : PySem.W.subIn K (.type τ) (.ref C) = some false) : PySem.W.kitOne K (.type τ) (.ref C) = some false := by
  have h : ¬ ((Value.type τ == Value.ref C) = true) := fun z => by cases beq_iff_eq.mp z
  have h2 : ((PySem.W.clsIn K C).isSome && PySem.W.typeIn K (.ref C) == some (.type "type")) = true := by
    have := F.isC
    unfold PySem.W.isClsIn at this
    rw [this, F.ty]; rfl
  unfold PySem.W.kitOne PySem.W.kitCls
  rw [if_neg h]
  dsimp only
  rw [if_pos h2, e]
theorem kit_ob (cl : String) {C : Addr} (hm : PySem.W.kitMeta cl = true) (e : PySem.W.mroIn K C (.type cl) = some false) : PySem.W.kitOne K (.ref C) (.type cl) = some false := by
  have h : ¬ ((Value.ref C == Value.type cl) = true) := fun z => by cases beq_iff_eq.mp z
  unfold PySem.W.kitOne PySem.W.kitCls
  rw [if_neg h]
  dsimp only
  rw [if_pos hm]
  exact e
theorem kit_oo {C D : Addr} (hne : C ≠ D) (F : ClsF K D) (e : PySem.W.mroIn K C (.ref D) = some false) : PySem.W.kitOne K (.ref C) (.ref D) = some false := by
  have h : ¬ ((Value.ref C == Value.ref D) = true) := fun z => by
    have := beq_iff_eq.mp z
    cases this
    exact hne rfl
  have h2 : ((PySem.W.clsIn K D).isSome && PySem.W.typeIn K (.ref D) == some (.type "type")) = true := by
    have := F.isC
    unfold PySem.W.isClsIn at this
    rw [this, F.ty]; rfl
  unfold PySem.W.kitOne PySem.W.kitCls
  rw [if_neg h]
  dsimp only
  rw [if_pos h2]
  exact e
theorem isOk_of {cs : List Nat} (h : ∀ c, cs.contains c = true → ClsF K (Γ.cA c)) (ap : ∀ c c', cs.contains c = true → cs.contains c' = true → c ≠ c' → Γ.cA c ≠ Γ.cA c' ∧ PySem.W.mroIn K (Γ.cA c) (.ref (Γ.cA c')) = some false)
    (g1 : PySem.W.specialIn K (.builtin "object.__class__") "__get__" = some (some (.builtin "getset_descriptor.__get__"))) (g2 : PySem.W.takesIn K (.builtin "object.__class__") = some true) : IsOk Γ K cs := by
  refine ⟨fun c hc => (h c hc).cl, fun c hc => (h c hc).ic, fun c hc => (h c hc).ob, g1, g2, fun τ cl h1 h2 => ?_⟩
  cases τ with
  | cls c =>
    have F := h c h1
    cases cl with
    | own c' =>
      by_cases e : c = c'
      · subst e
        show PySem.W.kitOne K (.ref (Γ.cA c)) (.ref (Γ.cA c)) = some (c == c)
        rw [kit_same]; simp
      · have e' : (c == c') = false := by simpa using e
        show PySem.W.kitOne K (.ref (Γ.cA c)) (.ref (Γ.cA c')) = some (c == c')
        rw [e']
        exact kit_oo (ap c c' h1 h2 e).1 (h c' h2) (ap c c' h1 h2 e).2
    | bool => exact kit_ob "bool" (by decide +kernel) F.b1
    | int => exact kit_ob "int" (by decide +kernel) F.b2
    | str => exact kit_ob "str" (by decide +kernel) F.b3
    | tuple => exact kit_ob "tuple" (by decide +kernel) F.b4
    | list => exact kit_ob "list" (by decide +kernel) F.b5
  | non =>
    cases cl with
    | own c' => exact kit_bo "NoneType" (h c' h2) (by kernel_rfl)
    | bool => exact kit_bb "NoneType" "bool" (by decide) (by decide +kernel) (by kernel_rfl)
    | int => exact kit_bb "NoneType" "int" (by decide) (by decide +kernel) (by kernel_rfl)
    | str => exact kit_bb "NoneType" "str" (by decide) (by decide +kernel) (by kernel_rfl)
    | tuple => exact kit_bb "NoneType" "tuple" (by decide) (by decide +kernel) (by kernel_rfl)
    | list => exact kit_bb "NoneType" "list" (by decide) (by decide +kernel) (by kernel_rfl)
  | bool =>
    cases cl with
    | own c' => exact kit_bo "bool" (h c' h2) (by kernel_rfl)
    | bool => exact kit_same _
    | int => exact kit_bb "bool" "int" (by decide) (by decide +kernel) (by kernel_rfl)
    | str => exact kit_bb "bool" "str" (by decide) (by decide +kernel) (by kernel_rfl)
    | tuple => exact kit_bb "bool" "tuple" (by decide) (by decide +kernel) (by kernel_rfl)
    | list => exact kit_bb "bool" "list" (by decide) (by decide +kernel) (by kernel_rfl)
  | int =>
    cases cl with
    | own c' => exact kit_bo "int" (h c' h2) (by kernel_rfl)
    | bool => exact kit_bb "int" "bool" (by decide) (by decide +kernel) (by kernel_rfl)
    | int => exact kit_same _
    | str => exact kit_bb "int" "str" (by decide) (by decide +kernel) (by kernel_rfl)
    | tuple => exact kit_bb "int" "tuple" (by decide) (by decide +kernel) (by kernel_rfl)
    | list => exact kit_bb "int" "list" (by decide) (by decide +kernel) (by kernel_rfl)
  | str =>
    cases cl with
    | own c' => exact kit_bo "str" (h c' h2) (by kernel_rfl)
    | bool => exact kit_bb "str" "bool" (by decide) (by decide +kernel) (by kernel_rfl)
    | int => exact kit_bb "str" "int" (by decide) (by decide +kernel) (by kernel_rfl)
    | str => exact kit_same _
    | tuple => exact kit_bb "str" "tuple" (by decide) (by decide +kernel) (by kernel_rfl)
    | list => exact kit_bb "str" "list" (by decide) (by decide +kernel) (by kernel_rfl)
  | tup =>
    cases cl with
    | own c' => exact kit_bo "tuple" (h c' h2) (by kernel_rfl)
    | bool => exact kit_bb "tuple" "bool" (by decide) (by decide +kernel) (by kernel_rfl)
    | int => exact kit_bb "tuple" "int" (by decide) (by decide +kernel) (by kernel_rfl)
    | str => exact kit_bb "tuple" "str" (by decide) (by decide +kernel) (by kernel_rfl)
    | tuple => exact kit_same _
    | list => exact kit_bb "tuple" "list" (by decide) (by decide +kernel) (by kernel_rfl)
  | lst =>
    cases cl with
    | own c' => exact kit_bo "list" (h c' h2) (by kernel_rfl)
    | bool => exact kit_bb "list" "bool" (by decide) (by decide +kernel) (by kernel_rfl)
    | int => exact kit_bb "list" "int" (by decide) (by decide +kernel) (by kernel_rfl)
    | str => exact kit_bb "list" "str" (by decide) (by decide +kernel) (by kernel_rfl)
    | tuple => exact kit_bb "list" "tuple" (by decide) (by decide +kernel) (by kernel_rfl)
    | list => exact kit_same _
  | dic =>
    cases cl with
    | own c' => exact kit_bo "dict" (h c' h2) (by kernel_rfl)
    | bool => exact kit_bb "dict" "bool" (by decide) (by decide +kernel) (by kernel_rfl)
    | int => exact kit_bb "dict" "int" (by decide) (by decide +kernel) (by kernel_rfl)
    | str => exact kit_bb "dict" "str" (by decide) (by decide +kernel) (by kernel_rfl)
    | tuple => exact kit_bb "dict" "tuple" (by decide) (by decide +kernel) (by kernel_rfl)
    | list => exact kit_bb "dict" "list" (by decide) (by decide +kernel) (by kernel_rfl)
/-- an error class -/
structure ErrF (K : PySem.W.Frag) (C : Addr) : Prop where
  isC : PySem.W.isClsIn K C = true
  ty : PySem.W.typeIn K (.ref C) = some (.type "type")
  be : PySem.W.subIn K (.ref C) (.type "BaseException") = some true
theorem xmOk_of {es : List Nat} (h : ∀ c, es.contains c = true → ErrF K (Γ.eA c)) (ap : ∀ c c', es.contains c = true → es.contains c' = true → PySem.W.subIn K (.ref (Γ.eA c)) (.ref (Γ.eA c')) = some (decide (c = c'))) : XmOk Γ K es := fun c c0 h1 h2 => by
  have F := h c0 h2
  have h3 : ((PySem.W.clsIn K (Γ.eA c0)).isSome && PySem.W.typeIn K (.ref (Γ.eA c0)) == some (.type "type")) = true := by
    have := F.isC
    unfold PySem.W.isClsIn at this
    rw [this, F.ty]; rfl
  unfold PySem.W.exmOne PySem.W.kitCls
  rw [if_pos (by rw [F.be]; rfl)]
  dsimp only
  rw [if_pos h3]
  exact ap c c0 h1 h2

theorem binds_full {x qual : Str} {params : Arguments} {body : List Stmt} {scope : Scope} {dvs : List V} {f : Addr} {fd : FuncData} {ps : List Str} (F : FunD K x qual params body scope dvs [] f fd) (hd : dvs ≠ [])
    (h : ∀ (T : Addr) (kV doc pm : Value) (an : Option Addr) (cdv ct : Value) (us its : List Value), us.length = ps.length → its.length = dvs.length →
      ∃ k, bindArgs (PySem.W.fnOf x qual params body scope (.ref T) kV doc pm an cdv ct) ⟨us, []⟩ = seqItems? (.ref T) >>= k ∧ k (some its.toArray) = pure (ps.zip (us ++ its.drop dvs.length))) : Binds K fd ps [] := by
  obtain ⟨ds, r, b⟩ := F.binds1 ps.length dvs.length hd (by omega) h
  rw [List.drop_length] at r
  cases r
  exact b

/-! ### the law -/
def spLaw (K : PySem.W.Frag) : Sp := fun vs H Q _ => ∃ (a : Addr) (ns : List Int), vs = [.ref a] ∧ SqL K H a (ns.map V.int) ∧ ns.length ≤ 63 ∧ (∀ z ∈ ns, Builtin.Int.intBits z ≤ 1048576) ∧ ∀ H', Q (.bl true) H'
def LawOk (F : FN) : Prop := ∀ ns : List Int, ns.length ≤ 63 → (∀ z ∈ ns, Builtin.Int.intBits z ≤ 1048576) → ∃ M, F [.rol (ns.map D.int)] [] = .ok (.bl true) M
theorem ints_repL {as : List Addr} {G : Hp} : ∀ ns : List Int, RepL Γ as G (ns.map D.int) (ns.map V.int)
  | [] => RepL.nil
  | n :: ns => RepL.cons rfl (ints_repL ns)
theorem spLaw_of {F : FN} (hF : LawOk F) (hK : Γ.K = K) {vs : List V} {H : Hp} {Q : VK} {E : XK} (h : spLaw K vs H Q E) : spF Γ 1 F vs H Q E := by
  obtain ⟨a, ns, rfl, hs, hl, hb, q⟩ := h
  obtain ⟨M', e⟩ := hF ns hl hb
  refine ⟨[], H, [], [.rol (ns.map D.int)], ⟨Le.refl _, Le.refl _, List.prefix_refl _, fun _ h => h, fun _ _ h _ => h, fun a o h => ⟨o, h⟩, fun _ _ h => .inl h, rfl, List.nodup_nil, fun n a m h => (by simp at h), fun a h => (by cases h), fun a h => (by cases h)⟩,
    RepL.cons ⟨a, _, rfl, by rw [hK]; exact hs, ints_repL ns⟩ RepL.nil, rfl, ?_⟩
  rw [e]
  intro as' G' H' v _ r
  cases r
  exact q H'
theorem walk {l : PySem.W.OpenLaw} {q : Program} {loose : List Str} {XP : (Str → Option Value) → Heap → Prop} {YP : World → Heap → Prop} {d : DefRec} {K : Params → PySem.W.Frag} {k : Nat} {x : Str} (hn : l.most = some 63) (hdf : d.params.defaults = []) (hr : Room k callerA)
    (hY : ∀ (w : World) (h : Heap), YP w h → (K w.params).In h)
    (F : ∀ (w : World) (mg : Str → Option Value) (fa : Addr) (h : Heap), (K w.params).In h → h.Ns mainGlobals mg → mg d.name = some (.ref fa) →
      ∃ fd : FuncData, (∀ (s : Shared) (u : Value), BindsTo s fd ⟨[u], []⟩ [(x, u)]) ∧ ∀ base : Heap, (K w.params).In base → base.Ns mainGlobals mg → FnOk l.prog w (K w.params) mg base (L2.CX l.prog w) k fa fd [x] (spLaw (K w.params))) :
    PySem.W.WalkO q loose XP YP l.row.toRowW d [] (fun f vs => PySem.call f vs) :=
  L2.walk_ofB (n := 63) (k := k) (x := x) (CX := fun w => L2.CX l.prog w) (sp := fun w => spLaw (K w.params)) hn (by decide) hdf hr hY F (fun _ _ a ns hl hb _ hS => ⟨a, ns, rfl, hS, hl, hb, fun _ => rfl⟩) fun _ _ _ _ _ ⟨_, _, _, _, _, _, _, _, _, _, _, _, z⟩ => z.elim
end
end DL
set_option maxRecDepth 100000
/-! The pure side: how the functions are evaluated. -/
namespace DL
open PySem
/-! ### while -/
theorem while_end {c : FT} {b : FS} {ρ : List Sl} {M M1 : List MO} (h : c ρ M = .ok false M1) : dWhile c b ρ M = .nx ρ M1 := by
  refine dWhile_eq (n := 1) ?_ (by simp)
  rw [whileN, h]; rfl
theorem while_nx {c : FT} {b : FS} {ρ ρ2 : List Sl} {M M1 M2 : List MO} {r : RS} (h : c ρ M = .ok true M1) (h2 : b ρ M1 = .nx ρ2 M2) (h3 : dWhile c b ρ2 M2 = r) (hr : r ≠ .bad) : dWhile c b ρ M = r := by
  unfold dWhile at h3
  split at h3
  · rename_i hx
    refine dWhile_eq (n := hx.choose + 1) ?_ hr
    rw [whileN, h]
    simp only [R.sbind_ok, if_true, h2]
    exact h3
  · exact absurd h3.symm hr
theorem while_bk {c : FT} {b : FS} {ρ ρ2 : List Sl} {M M1 M2 : List MO} (h : c ρ M = .ok true M1) (h2 : b ρ M1 = .bk ρ2 M2) : dWhile c b ρ M = .nx ρ2 M2 := by
  refine dWhile_eq (n := 1) ?_ (by simp)
  rw [whileN, h]
  simp only [R.sbind_ok, if_true, h2]
/-! ### for -/
theorem forL_nil {t : TGt} {b : FS} {ρ : List Sl} {M : List MO} : forL t b [] ρ M = .nx ρ M := rfl
theorem forL_nx {t : TGt} {b : FS} {d : D} {ds : List D} {ρ ρ1 ρ2 : List Sl} {M M1 M2 : List MO} (h : t d ρ M = some (ρ1, M1)) (h2 : b ρ1 M1 = .nx ρ2 M2) : forL t b (d :: ds) ρ M = forL t b ds ρ2 M2 := by
  rw [forL, h]
  dsimp only
  rw [h2]
theorem forL_bk {t : TGt} {b : FS} {d : D} {ds : List D} {ρ ρ1 ρ2 : List Sl} {M M1 M2 : List MO} (h : t d ρ M = some (ρ1, M1)) (h2 : b ρ1 M1 = .bk ρ2 M2) : forL t b (d :: ds) ρ M = .nx ρ2 M2 := by
  rw [forL, h]
  dsimp only
  rw [h2]
/-! ### operators on what is known -/
section
variable {M : List MO}
theorem beq_dec {α : Type} [BEq α] [LawfulBEq α] [DecidableEq α] (a b : α) : (a == b) = decide (a = b) := by
  by_cases h : a = b
  · subst h; simp
  · simp [h]
theorem sh_int (i : Int) : SeqAt.shaped (.int i) = true := rfl
/-- a text of signs -/
def okS (z : Str) : Bool := z.cps.all (· < 0x110000)
theorem sh_str {z : Str} (h : okS z = true) : SeqAt.shaped (.str z) = true := by
  unfold SeqAt.shaped
  rw [show (PyData.str z).canLay0 = okS z from rfl, h]
  rfl
theorem sh_bool (b : Bool) : SeqAt.shaped (.bool b) = true := rfl
theorem sh_none : SeqAt.shaped .none = true := rfl
theorem sh_two (i j : Int) : SeqAt.shaped (.tuple [.int i, .int j]) = true := rfl
theorem pyEq_of {a b : D} {p q : PyData} (h1 : toPy a = some p) (h2 : toPy b = some q) (s1 : SeqAt.shaped p = true) (s2 : SeqAt.shaped q = true) : pyEq a b = some (PyData.eqv p q) := by
  unfold pyEq
  rw [h1, h2]
  dsimp only
  rw [s1, s2]
  rfl
theorem eqD_of {a b : D} {k : Bool} (h : pyEq a b = some k) : eqD a b M = .ok (.bl k) M := by unfold eqD; rw [h]
theorem neD_of {a b : D} {k : Bool} (h : pyEq a b = some k) : neD a b M = .ok (.bl (!k)) M := by unfold neD; rw [h]
theorem pyEq_int (i j : Int) : pyEq (.int i) (.int j) = some (decide (i = j)) := (pyEq_of rfl rfl (sh_int i) (sh_int j)).trans (congrArg some (beq_dec i j))
theorem pyEq_str {i j : Str} (h1 : okS i = true) (h2 : okS j = true) : pyEq (.str i) (.str j) = some (decide (i = j)) := (pyEq_of rfl rfl (sh_str h1) (sh_str h2)).trans (congrArg some (beq_dec i j))
theorem pyEq_ti (a b i : Int) : pyEq (.tup [.int a, .int b]) (.int i) = some false := (pyEq_of rfl rfl (sh_two a b) (sh_int i)).trans (by rfl)
theorem pyEq_it (a b i : Int) : pyEq (.int i) (.tup [.int a, .int b]) = some false := (pyEq_of rfl rfl (sh_int i) (sh_two a b)).trans (by rfl)
theorem pyEq_tt (a b i j : Int) : pyEq (.tup [.int a, .int b]) (.tup [.int i, .int j]) = some (decide (a = i) && decide (b = j)) := (pyEq_of rfl rfl (sh_two a b) (sh_two i j)).trans (congrArg some (by show ((a == i) && ((b == j) && true)) = _; rw [beq_dec, beq_dec, Bool.and_true]))
@[simp] theorem eqD_int (i j : Int) : eqD (.int i) (.int j) M = .ok (.bl (decide (i = j))) M := eqD_of (pyEq_int i j)
@[simp] theorem neD_int (i j : Int) : neD (.int i) (.int j) M = .ok (.bl (!decide (i = j))) M := neD_of (pyEq_int i j)
theorem eqD_str {i j : Str} (h1 : okS i = true) (h2 : okS j = true) : eqD (.str i) (.str j) M = .ok (.bl (decide (i = j))) M := eqD_of (pyEq_str h1 h2)
theorem neD_str {i j : Str} (h1 : okS i = true) (h2 : okS j = true) : neD (.str i) (.str j) M = .ok (.bl (!decide (i = j))) M := neD_of (pyEq_str h1 h2)
@[simp] theorem neD_tt (a b i j : Int) : neD (.tup [.int a, .int b]) (.tup [.int i, .int j]) M = .ok (.bl (!(decide (a = i) && decide (b = j)))) M := neD_of (pyEq_tt a b i j)
@[simp] theorem addD_int (i j : Int) : addD (.int i) (.int j) M = .ok (.int (i + j)) M := rfl
@[simp] theorem subI_int (i j : Int) : subI (.int i) (.int j) M = .ok (.int (i - j)) M := rfl
@[simp] theorem ltI_int (i j : Int) : ltI (.int i) (.int j) M = .ok (.bl (decide (i < j))) M := rfl
@[simp] theorem gtI_int (i j : Int) : gtI (.int i) (.int j) M = .ok (.bl (decide (j < i))) M := rfl
@[simp] theorem geI_int (i j : Int) : geI (.int i) (.int j) M = .ok (.bl (decide (j ≤ i))) M := rfl
@[simp] theorem negI_int (i : Int) : negI (.int i) M = .ok (.int (-i)) M := rfl
theorem mulD_int {i j : Int} (h : intBitsOk i j) : mulD (.int i) (.int j) M = .ok (.int (i * j)) M := by
  unfold mulD gOr2
  have : mulI (.int i) (.int j) M = .ok (.int (i * j)) M := if_pos h
  rw [this]
theorem modI_int {i j : Int} (h : j ≠ 0) : modI (.int i) (.int j) M = .ok (.int (i.fmod j)) M := if_neg h
theorem divI_int {i j : Int} (h : j ≠ 0) (h2 : j.natAbs < 1073741824) : divI (.int i) (.int j) M = .ok (.int (i.fdiv j)) M := by
  refine if_pos ?_
  unfold divOk
  rw [decide_eq_true h, PyProof.noPylong_small h2]; rfl
end
/-! ### the greatest common divisor -/
theorem absD_int (i : Int) (M : List MO) : absD [.int i] M = .ok (.int (i.natAbs : Int)) M := by
  unfold absD
  dsimp only
  by_cases h : i < 0
  · rw [if_pos h]
    have : -i = (i.natAbs : Int) := by omega
    rw [this]
  · rw [if_neg h]
    have : i = (i.natAbs : Int) := by omega
    rw [← this]
theorem fmod_nat (x y : Nat) : ((x : Int)).fmod (y : Int) = ((x % y : Nat) : Int) := by
  rw [Int.fmod_eq_emod_of_nonneg _ (by omega)]
  rfl
abbrev pDivC : FT := dB (d2 neD (dVar 1) (dC (.int 0)))
abbrev pDivB : FS := dPar 0 1 (aCons (dVar 1) (aCons (d2 modI (dVar 0) (dVar 1)) aNil))
theorem div_while {M : List MO} : ∀ (y x : Nat), dWhile pDivC pDivB [.d (.int x), .d (.int y)] M = .nx [.d (.int (Nat.gcd x y : Nat)), .d (.int 0)] M := by
  intro y
  induction y using Nat.strongRecOn with
  | _ y ih =>
    intro x
    by_cases hy : y = 0
    · subst hy
      rw [Nat.gcd_zero_right]
      exact while_end (by simp [pDivC, dB, d2, dVar, dC])
    · have hy' : (y : Int) ≠ 0 := by omega
      refine while_nx (M1 := M) (M2 := M) (ρ2 := [.d (.int y), .d (.int (x % y : Nat))]) (by simp [pDivC, dB, d2, dVar, dC, hy', hy]) ?_ ?_ (by simp)
      · simp [pDivB, dPar, aCons, aNil, d2, dVar, modI_int hy', fmod_nat]
      · rw [ih (x % y) (Nat.mod_lt _ (by omega)) y, Nat.gcd_comm x y, Nat.gcd_rec y x, Nat.gcd_comm]
noncomputable abbrev pDiv : FS := (dSeq (dPar 0 1 (aCons (dCB absD (aCons (dVar 0) aNil)) (aCons (dCB absD (aCons (dVar 1) aNil)) aNil)))
  (dSeq (dWhile pDivC pDivB) (dRet (dVar 0))))
theorem div_is (a b : Int) (M : List MO) : runF 2 pDiv [.int a, .int b] M = .ok (.int (Int.gcd a b : Nat)) M := by
  unfold runF
  have h : start0 2 [.int a, .int b] = [.d (.int a), .d (.int b)] := rfl
  have e : (dPar 0 1 (aCons (dCB absD (aCons (dVar 0) aNil)) (aCons (dCB absD (aCons (dVar 1) aNil)) aNil))) [.d (.int a), .d (.int b)] M = .nx [.d (.int (a.natAbs : Nat)), .d (.int (b.natAbs : Nat))] M := by
    simp [dPar, aCons, aNil, dCB, dVar, absD_int]
  rw [h]
  have e2 : pDiv [.d (.int a), .d (.int b)] M = .rt (.int (Int.gcd a b : Nat)) M := by
    show dSeq _ _ _ _ = _
    unfold dSeq
    rw [e]
    dsimp only
    rw [div_while]
    simp [dRet, dVar, Int.gcd]
  rw [e2]
abbrev pGcdB : FS := (dSeq (dIfS (dB (d2 eqD (dVar 1) (dC (.int 0)))) dBreak dNext)
  (dPar 0 1 (aCons (dVar 1) (aCons (d2 modI (dCB intD2 (aCons (dVar 0) aNil)) (dVar 1)) aNil))))
theorem gcd_stop {M : List MO} {x : Nat} {s : Sl} (d : D) (ds : List D) : forL (gN 2) pGcdB (d :: ds) [.d (.int x), .d (.int 0), s] M = .nx [.d (.int x), .d (.int 0), .d d] M := by
  refine forL_bk (ρ1 := [.d (.int x), .d (.int 0), .d d]) (M1 := M) rfl ?_
  simp [pGcdB, dSeq, dIfS, dB, d2, dVar, dC, dBreak]
theorem gcd_next {M : List MO} {x y : Nat} (hy : y ≠ 0) {s : Sl} (d : D) (ds : List D) : forL (gN 2) pGcdB (d :: ds) [.d (.int x), .d (.int y), s] M = forL (gN 2) pGcdB ds [.d (.int y), .d (.int (x % y : Nat)), .d d] M := by
  have hy' : (y : Int) ≠ 0 := by omega
  refine forL_nx (ρ1 := [.d (.int x), .d (.int y), .d d]) (M1 := M) rfl ?_
  simp [pGcdB, dSeq, dIfS, dB, d2, dVar, dC, dNext, hy, dPar, aCons, aNil, dCB, intD2, intD, modI_int hy', fmod_nat]
theorem gcd_for {M : List MO} : ∀ (n : Nat) (x y : Nat) (s : Sl) (ds : List D), y < 2 ^ n → 2 * n + 1 ≤ ds.length → ∃ s', forL (gN 2) pGcdB ds [.d (.int x), .d (.int y), s] M = .nx [.d (.int (Nat.gcd x y : Nat)), .d (.int 0), s'] M
  | n, x, y, s, [], _, hl => by simp at hl
  | n, x, y, s, d :: ds, hn, hl => by
    by_cases hy : y = 0
    · subst hy
      exact ⟨_, by rw [Nat.gcd_zero_right]; exact gcd_stop d ds⟩
    · rw [gcd_next hy]
      cases n with
      | zero => simp at hn; exact absurd hn hy
      | succ n =>
        have g1 : Nat.gcd x y = Nat.gcd y (x % y) := by rw [Nat.gcd_comm x y, Nat.gcd_rec y x, Nat.gcd_comm]
        cases ds with
        | nil => simp at hl
        | cons d2 ds =>
          by_cases h1 : x % y = 0
          · rw [h1, g1, h1, Nat.gcd_zero_right]
            exact ⟨_, gcd_stop d2 ds⟩
          · rw [gcd_next h1]
            have lt : x % y < y := Nat.mod_lt _ (by omega)
            have half : y % (x % y) < 2 ^ n := by
              have h2 : 2 * (y % (x % y)) < y := by
                have a1 : y % (x % y) < x % y := Nat.mod_lt _ (by omega)
                have a2 : (x % y) + y % (x % y) ≤ y := by
                  have q := Nat.div_add_mod y (x % y)
                  have q2 : 1 ≤ y / (x % y) := Nat.div_pos (by omega) (by omega)
                  have q3 : (x % y) * 1 ≤ (x % y) * (y / (x % y)) := Nat.mul_le_mul_left _ q2
                  omega
                omega
              have : 2 ^ (n + 1) = 2 * 2 ^ n := by rw [Nat.pow_succ]; omega
              omega
            obtain ⟨s', e⟩ := gcd_for n (x % y) (y % (x % y)) (.d d2) ds half (by simp at hl; omega)
            refine ⟨s', ?_⟩
            rw [e, g1, Nat.gcd_comm y (x % y), Nat.gcd_rec (x % y) y, Nat.gcd_comm (y % (x % y))]
abbrev pGcd : FS := (dSeq (dPar 0 1 (aCons (dCB absD (aCons (dVar 0) aNil)) (aCons (dCB absD (aCons (dVar 1) aNil)) aNil)))
  (dSeq (dFor (iRange1 (dC (.int 60000))) (gN 2) pGcdB) (dRet (dVar 0))))
theorem gcd_is (a b : Int) (M : List MO) (hb : b.natAbs < 2 ^ 29000) : runF 3 pGcd [.int a, .int b] M = .ok (.int (Int.gcd a b : Nat)) M := by
  unfold runF
  have h : start0 3 [.int a, .int b] = [.d (.int a), .d (.int b), .mt] := rfl
  have e : (dPar 0 1 (aCons (dCB absD (aCons (dVar 0) aNil)) (aCons (dCB absD (aCons (dVar 1) aNil)) aNil))) [.d (.int a), .d (.int b), .mt] M = .nx [.d (.int (a.natAbs : Nat)), .d (.int (b.natAbs : Nat)), .mt] M := by
    simp [dPar, aCons, aNil, dCB, dVar, absD_int]
  obtain ⟨s', e3⟩ := gcd_for (M := M) 29000 a.natAbs b.natAbs .mt ((List.range (60000 : Int).toNat).map fun (i : Nat) => .int (i : Int)) hb (by rw [List.length_map, List.length_range]; decide)
  have ef : dFor (iRange1 (dC (.int 60000))) (gN 2) pGcdB [.d (.int (a.natAbs : Nat)), .d (.int (b.natAbs : Nat)), .mt] M = .nx [.d (.int (Nat.gcd a.natAbs b.natAbs : Nat)), .d (.int 0), s'] M := by
    rw [← e3]
    unfold dFor iRange1 dC
    rw [R.bind_ok]
    dsimp only
    rw [if_pos (by decide), R.sbind_ok]
  rw [h]
  have e2 : pGcd [.d (.int a), .d (.int b), .mt] M = .rt (.int (Int.gcd a b : Nat)) M := by
    show dSeq _ _ _ _ = _
    unfold dSeq
    rw [e]
    dsimp only
    rw [ef]
    simp [dRet, dVar, Int.gcd]
  rw [e2]
end DL
set_option maxRecDepth 100000
/-! The pen of the laws: a script is folded and drawn from. -/
namespace DL
open PySem L2
/-- the pen's dict -/
def penK (cs : List Int) (at_ dg ct fo : Int) : List (Key × D) := [(.inr "cells", .lst (cs.map .int)), (.inr "at", .int at_), (.inr "digits", .int dg), (.inr "count", .int ct), (.inr "fold", .int fo)]
def penM (cs : List Int) (at_ dg ct fo : Int) : List MO := [.dic (penK cs at_ dg ct fo)]
section
variable {cs : List Int} {a d c f x : Int}
theorem pv_cells : valD (penK cs a d c f) (.inr "cells") = some (.lst (cs.map .int)) := rfl
theorem pv_at : valD (penK cs a d c f) (.inr "at") = some (.int a) := rfl
theorem pv_digits : valD (penK cs a d c f) (.inr "digits") = some (.int d) := rfl
theorem pv_count : valD (penK cs a d c f) (.inr "count") = some (.int c) := rfl
theorem pv_fold : valD (penK cs a d c f) (.inr "fold") = some (.int f) := rfl
theorem pp_at : putD (penK cs a d c f) (.inr "at") (.int x) = penK cs x d c f := rfl
theorem pp_digits : putD (penK cs a d c f) (.inr "digits") (.int x) = penK cs a x c f := rfl
theorem pp_count : putD (penK cs a d c f) (.inr "count") (.int x) = penK cs a d x f := rfl
theorem pp_fold : putD (penK cs a d c f) (.inr "fold") (.int x) = penK cs a d c x := rfl
/-- reading and writing at the pen -/
theorem getK_of {fo : FE} {ρ : List Sl} {M : List MO} {k : Str} {v : D} (h : fo ρ (penM cs a d c f) = .ok (.cel 0) (penM cs a d c f)) (hv : valD (penK cs a d c f) (.inr k) = some v) : dGetK fo (dC (.str k)) ρ (penM cs a d c f) = .ok v (penM cs a d c f) := by
  unfold dGetK
  rw [h]
  simp only [R.bind_ok, dC]
  show (match some (0, penK cs a d c f), some (Sum.inr k) with | some p, some k => ofOpt (valD p.2 k) (penM cs a d c f) | _, _ => .bad) = _
  dsimp only
  rw [hv]; rfl
theorem putK_of {fo fv : FE} {ρ : List Sl} {M : List MO} {k : Str} {v : D} {kvs : List (Key × D)} (h0 : fv ρ (penM cs a d c f) = .ok v (penM cs a d c f)) (h : fo ρ (penM cs a d c f) = .ok (.cel 0) (penM cs a d c f)) (hv : putD (penK cs a d c f) (.inr k) v = kvs) : dPutK fo (dC (.str k)) fv ρ (penM cs a d c f) = .nx ρ [.dic kvs] := by
  unfold dPutK
  rw [h0]
  simp only [R.sbind_ok]
  rw [h]
  simp only [R.sbind_ok, dC]
  show (match some (0, penK cs a d c f), some (Sum.inr k) with | some p, some k => if szOk (p.2.length + 1) then RS.nx ρ ((penM cs a d c f).set p.1 (.dic (putD p.2 k v))) else .bad | _, _ => .bad) = _
  dsimp only
  rw [if_pos (by rfl), hv]; rfl
theorem var0 {d0 : D} {ρ : List Sl} {M : List MO} : dVar 0 (.d d0 :: ρ) M = .ok d0 M := rfl
end
abbrev pG (k : Str) : FE := dGetK (dVar 0) (dC (.str k))
abbrev pDraw : FS :=
  (dSeq (dPutK (dVar 0) (dC (.str "count")) (d2 addD (pG "count") (dC (.int 1))))
  (dSeq (dIfS (dAnd (dB (d2 eqD (pG "digits") (dC (.int 0)))) (dB (d2 ltI (pG "at") (dCB lenD (aCons (pG "cells") aNil))))) (dSeq (dSet 2 (d2 itemD (pG "cells") (pG "at")))
  (dSeq (dPutK (dVar 0) (dC (.str "at")) (d2 addD (pG "at") (dC (.int 1))))
  (dIfS (dB (d2 geI (dVar 2) (d2 powI (dC (.int 10)) (dC (.int 18))))) (dPutK (dVar 0) (dC (.str "digits")) (d2 subI (dVar 2) (d2 powI (dC (.int 10)) (dC (.int 18))))) (dPutK (dVar 0) (dC (.str "fold")) (d2 modI (dCB intD2 (aCons (d2 addD (d2 mulD (pG "fold") (dC (.int 69069))) (dVar 2)) aNil)) (dC (.int 2147483587))))))) dNext)
  (dSeq (dIfS (dB (d2 gtI (pG "digits") (dC (.int 0)))) (dSeq (dSet 3 (d2 modI (dCB intD2 (aCons (pG "digits") aNil)) (dVar 1)))
  (dSeq (dPutK (dVar 0) (dC (.str "digits")) (d2 divI (pG "digits") (dVar 1)))
  (dRet (dVar 3)))) dNext)
  (dSeq (dSet 4 (d2 addD (d2 addD (pG "fold") (d2 mulD (pG "count") (dC (.int 7907)))) (dC (.int 37))))
  (dRet (d2 modI (d2 divI (dCB intD2 (aCons (d2 modI (d2 powI (dVar 4) (dC (.int 17))) (dC (.int 2305843009213693951))) aNil)) (dC (.int 128))) (dVar 1)))))))
theorem atI_pos {α : Type} {xs : List α} {i : Int} (h : 0 ≤ i) (h2 : i < (xs.length : Int)) : atI xs i = xs[i.toNat]? := by
  unfold atI ixN
  rw [if_pos h, if_pos h2]; rfl
/-- the pen as it is drawn from: n draws at most are behind -/
structure Pen (n : Nat) (M : List MO) : Prop where
  is : ∃ cs a d c f, M = penM cs a d c f ∧ 0 ≤ a ∧ 0 ≤ d ∧ 0 ≤ c ∧ c ≤ (n : Int) ∧ 0 ≤ f ∧ f < 2147483587
theorem seq_nx {f g : FS} {ρ ρ1 : List Sl} {M M1 : List MO} (h : f ρ M = .nx ρ1 M1) : dSeq f g ρ M = g ρ1 M1 := by unfold dSeq; rw [h]
theorem seq_rt {f g : FS} {ρ : List Sl} {M M1 : List MO} {d : D} (h : f ρ M = .rt d M1) : dSeq f g ρ M = .rt d M1 := by unfold dSeq; rw [h]
theorem if_t {c : FT} {f g : FS} {ρ : List Sl} {M M1 : List MO} (h : c ρ M = .ok true M1) : dIfS c f g ρ M = f ρ M1 := by unfold dIfS; rw [h]; rfl
theorem if_f {c : FT} {f g : FS} {ρ : List Sl} {M M1 : List MO} (h : c ρ M = .ok false M1) : dIfS c f g ρ M = g ρ M1 := by unfold dIfS; rw [h]; rfl
theorem d2_of {g : D → D → List MO → R D} {fa fb : FE} {ρ : List Sl} {M M1 M2 : List MO} {x y : D} (h1 : fa ρ M = .ok x M1) (h2 : fb ρ M1 = .ok y M2) : d2 g fa fb ρ M = g x y M2 := by unfold d2; rw [h1, R.bind_ok, h2, R.bind_ok]
theorem cb1_of {g : List D → List MO → R D} {fa : FE} {ρ : List Sl} {M M1 : List MO} {x : D} (h1 : fa ρ M = .ok x M1) : dCB g (aCons fa aNil) ρ M = g [x] M1 := by unfold dCB aCons aNil; rw [h1]; rfl
theorem dB_of {f : FE} {ρ : List Sl} {M M1 : List MO} {b : Bool} (h : f ρ M = .ok (.bl b) M1) : dB f ρ M = .ok b M1 := by unfold dB; rw [h]; rfl
theorem set_of {i : Nat} {f : FE} {ρ : List Sl} {M M1 : List MO} {x : D} (h : f ρ M = .ok x M1) : dSet i f ρ M = .nx (ρ.set i (.d x)) M1 := by unfold dSet; rw [h]; rfl
theorem ret_of {f : FE} {ρ : List Sl} {M M1 : List MO} {x : D} (h : f ρ M = .ok x M1) : dRet f ρ M = .rt x M1 := by unfold dRet; rw [h]; rfl
theorem bits64 {i j : Int} (h1 : -(2 ^ 64) < i) (h2 : i < 2 ^ 64) (h3 : -(2 ^ 64) < j) (h4 : j < 2 ^ 64) : intBitsOk i j := by
  unfold intBitsOk
  have a := intBits_le_64 h1 h2
  have b := intBits_le_64 h3 h4
  omega
/-- the second half of a draw -/
theorem draw_end {cs : List Int} {a d c f m : Int} {n : Nat} {y2 y3 y4 : Sl} (hm : 0 < m) (hm2 : m < 1073741824) (hd : 0 ≤ d) (hc : 0 ≤ c) (hcn : c ≤ (n : Int)) (hn : n ≤ 1000000) (hf : 0 ≤ f) (hf2 : f < 2147483587) (ha : 0 ≤ a) :
    ∃ r M', (dSeq (dIfS (dB (d2 gtI (pG "digits") (dC (.int 0)))) (dSeq (dSet 3 (d2 modI (dCB intD2 (aCons (pG "digits") aNil)) (dVar 1)))
  (dSeq (dPutK (dVar 0) (dC (.str "digits")) (d2 divI (pG "digits") (dVar 1)))
  (dRet (dVar 3)))) dNext)
  (dSeq (dSet 4 (d2 addD (d2 addD (pG "fold") (d2 mulD (pG "count") (dC (.int 7907)))) (dC (.int 37))))
  (dRet (d2 modI (d2 divI (dCB intD2 (aCons (d2 modI (d2 powI (dVar 4) (dC (.int 17))) (dC (.int 2305843009213693951))) aNil)) (dC (.int 128))) (dVar 1))))) [.d (.cel 0), .d (.int m), y2, y3, y4] (penM cs a d c f) = .rt (.int r) M' ∧ 0 ≤ r ∧ r < m ∧ Pen n M' := by
  have hm0 : m ≠ 0 := by omega
  have g (k : Str) (v : D) (h : valD (penK cs a d c f) (.inr k) = some v) (ρ : List Sl) : pG k (.d (.cel 0) :: ρ) (penM cs a d c f) = .ok v (penM cs a d c f) := getK_of (M := []) rfl h
  by_cases h : 0 < d
  · refine ⟨d.fmod m, penM cs a (d.fdiv m) c f, ?_, ?_, ?_, ⟨cs, a, d.fdiv m, c, f, rfl, ha, Int.fdiv_nonneg hd (by omega), hc, hcn, hf, hf2⟩⟩
    · refine seq_rt ((if_t (dB_of (b := true) (M1 := penM cs a d c f) ((d2_of (g _ _ pv_digits _) rfl).trans (by simp [h])))).trans ?_)
      refine (seq_nx (set_of ((d2_of ((cb1_of (g _ _ pv_digits _)).trans rfl) rfl).trans (modI_int hm0)))).trans ?_
      refine (seq_nx (putK_of (M := []) (fo := dVar 0) ((d2_of (g _ _ pv_digits _) rfl).trans (divI_int hm0 (by omega))) rfl pp_digits)).trans ?_
      exact ret_of rfl
    · rw [Int.fmod_eq_emod_of_nonneg _ (by omega)]; exact Int.emod_nonneg _ hm0
    · rw [Int.fmod_eq_emod_of_nonneg _ (by omega)]; exact Int.emod_lt_of_pos _ hm
  · have hmx : (f + c * 7907 + 37).natAbs < 2 ^ 64 := by omega
    refine ⟨((((f + c * 7907 + 37) ^ 17).fmod 2305843009213693951).fdiv 128).fmod m, penM cs a d c f, ?_, ?_, ?_, ⟨cs, a, d, c, f, rfl, ha, hd, hc, hcn, hf, hf2⟩⟩
    · refine (seq_nx ((if_f (dB_of (b := false) (M1 := penM cs a d c f) ((d2_of (g _ _ pv_digits _) rfl).trans (by simp [h])))).trans rfl)).trans ?_
      refine (seq_nx (set_of ((d2_of ((d2_of (g _ _ pv_fold _) ((d2_of (g _ _ pv_count _) rfl).trans (mulD_int (bits64 (by omega) (by omega) (by omega) (by omega))))).trans (addD_int _ _)) rfl).trans (addD_int _ _)))).trans ?_
      refine ret_of ((d2_of ((d2_of ((cb1_of ((d2_of ((d2_of rfl rfl).trans ?_) rfl).trans (modI_int (by decide)))).trans rfl) rfl).trans (divI_int (by decide) (by decide))) rfl).trans (modI_int hm0))
      exact if_pos ⟨by decide, by decide, hmx⟩
    · rw [Int.fmod_eq_emod_of_nonneg _ (by omega)]; exact Int.emod_nonneg _ hm0
    · rw [Int.fmod_eq_emod_of_nonneg _ (by omega)]; exact Int.emod_lt_of_pos _ hm
theorem and_t {c1 c2 : FT} {ρ : List Sl} {M M1 : List MO} {r : R Bool} (h : c1 ρ M = .ok true M1) (h2 : c2 ρ M1 = r) : dAnd c1 c2 ρ M = r := by unfold dAnd; rw [h, R.bind_ok, if_pos rfl, h2]
theorem and_f {c1 c2 : FT} {ρ : List Sl} {M M1 : List MO} (h : c1 ρ M = .ok false M1) : dAnd c1 c2 ρ M = .ok false M1 := by unfold dAnd; rw [h]; rfl
theorem or_t {c1 c2 : FT} {ρ : List Sl} {M M1 : List MO} (h : c1 ρ M = .ok true M1) : dOr c1 c2 ρ M = .ok true M1 := by unfold dOr; rw [h]; rfl
theorem or_f {c1 c2 : FT} {ρ : List Sl} {M M1 : List MO} {r : R Bool} (h : c1 ρ M = .ok false M1) (h2 : c2 ρ M1 = r) : dOr c1 c2 ρ M = r := by unfold dOr; rw [h, R.bind_ok, if_neg (by decide), h2]
theorem draw_is {m : Int} {n : Nat} {M : List MO} (P : Pen n M) (hn : n + 1 ≤ 1000000) (hm : 0 < m) (hm2 : m < 1073741824) : ∃ r M', runF 5 pDraw [.cel 0, .int m] M = .ok (.int r) M' ∧ 0 ≤ r ∧ r < m ∧ Pen (n + 1) M' := by
  obtain ⟨cs, a, d, c, f, rfl, ha, hd, hc, hcn, hf, hf2⟩ := P.is
  have g (d' c' f' a' : Int) (k : Str) (v : D) (h : valD (penK cs a' d' c' f') (.inr k) = some v) (ρ : List Sl) : pG k (.d (.cel 0) :: ρ) (penM cs a' d' c' f') = .ok v (penM cs a' d' c' f') := getK_of (M := []) rfl h
  have hs : start0 5 [.cel 0, .int m] = [.d (.cel 0), .d (.int m), .mt, .mt, .mt] := rfl
  -- the count
  have s1 : (dPutK (dVar 0) (dC (.str "count")) (d2 addD (pG "count") (dC (.int 1)))) [.d (.cel 0), .d (.int m), .mt, .mt, .mt] (penM cs a d c f) = .nx [.d (.cel 0), .d (.int m), .mt, .mt, .mt] (penM cs a d (c + 1) f) :=
    putK_of (M := []) ((d2_of (g _ _ _ _ _ _ pv_count _) rfl).trans (addD_int _ _)) rfl pp_count
  have fin : ∀ (a' d' f' : Int) (y2 : Sl), 0 ≤ a' → 0 ≤ d' → 0 ≤ f' → f' < 2147483587 → ∀ r0, (∀ z, r0 = z → True) → r0 = RS.nx [.d (.cel 0), .d (.int m), y2, .mt, .mt] (penM cs a' d' (c + 1) f') → True := fun _ _ _ _ _ _ _ _ _ _ _ => trivial
  -- a cell is read
  have s2 : ∃ (a' d' f' : Int) (y2 : Sl), 0 ≤ a' ∧ 0 ≤ d' ∧ 0 ≤ f' ∧ f' < 2147483587 ∧
      (dIfS (dAnd (dB (d2 eqD (pG "digits") (dC (.int 0)))) (dB (d2 ltI (pG "at") (dCB lenD (aCons (pG "cells") aNil))))) (dSeq (dSet 2 (d2 itemD (pG "cells") (pG "at")))
        (dSeq (dPutK (dVar 0) (dC (.str "at")) (d2 addD (pG "at") (dC (.int 1))))
        (dIfS (dB (d2 geI (dVar 2) (d2 powI (dC (.int 10)) (dC (.int 18))))) (dPutK (dVar 0) (dC (.str "digits")) (d2 subI (dVar 2) (d2 powI (dC (.int 10)) (dC (.int 18))))) (dPutK (dVar 0) (dC (.str "fold")) (d2 modI (dCB intD2 (aCons (d2 addD (d2 mulD (pG "fold") (dC (.int 69069))) (dVar 2)) aNil)) (dC (.int 2147483587))))))) dNext)
        [.d (.cel 0), .d (.int m), .mt, .mt, .mt] (penM cs a d (c + 1) f) = .nx [.d (.cel 0), .d (.int m), y2, .mt, .mt] (penM cs a' d' (c + 1) f') := by
    have cd : (dB (d2 eqD (pG "digits") (dC (.int 0)))) [.d (.cel 0), .d (.int m), .mt, .mt, .mt] (penM cs a d (c + 1) f) = .ok (decide (d = 0)) (penM cs a d (c + 1) f) := dB_of ((d2_of (g _ _ _ _ _ _ pv_digits _) rfl).trans (eqD_int _ _))
    have cl : (dB (d2 ltI (pG "at") (dCB lenD (aCons (pG "cells") aNil)))) [.d (.cel 0), .d (.int m), .mt, .mt, .mt] (penM cs a d (c + 1) f) = .ok (decide (a < ((cs.map D.int).length : Int))) (penM cs a d (c + 1) f) :=
      dB_of ((d2_of (g _ _ _ _ _ _ pv_at _) ((cb1_of (g _ _ _ _ _ _ pv_cells _)).trans rfl)).trans (ltI_int _ _))
    by_cases h1 : d = 0
    · rw [decide_eq_true h1] at cd
      by_cases h2 : a < ((cs.map D.int).length : Int)
      · rw [decide_eq_true h2] at cl
        obtain ⟨z, hz⟩ : ∃ z, cs[a.toNat]? = some z := ⟨cs[a.toNat]'(by simp at h2; omega), List.getElem?_eq_getElem _⟩
        have it : itemD (.lst (cs.map .int)) (.int a) (penM cs a d (c + 1) f) = .ok (.int z) (penM cs a d (c + 1) f) := by
          show ofOpt (atI (cs.map D.int) a) _ = _
          have : atI (cs.map D.int) a = some (.int z) := by
            rw [atI_pos ha h2, List.getElem?_map, hz]; rfl
          rw [this]; rfl
        have e1 := set_of (i := 2) ((d2_of (g _ _ _ _ _ _ pv_cells [.d (.int m), .mt, .mt, .mt]) (g _ _ _ _ _ _ pv_at [.d (.int m), .mt, .mt, .mt])).trans it)
        have e2 : (dPutK (dVar 0) (dC (.str "at")) (d2 addD (pG "at") (dC (.int 1)))) [.d (.cel 0), .d (.int m), .d (.int z), .mt, .mt] (penM cs a d (c + 1) f) = .nx [.d (.cel 0), .d (.int m), .d (.int z), .mt, .mt] (penM cs (a + 1) d (c + 1) f) :=
          putK_of (M := []) ((d2_of (g _ _ _ _ _ _ pv_at _) rfl).trans (addD_int _ _)) rfl pp_at
        have p18 : ∀ ρ M, (d2 powI (dC (.int 10)) (dC (.int 18))) ρ M = .ok (.int (10 ^ 18)) M := fun ρ M => rfl
        have cg : (dB (d2 geI (dVar 2) (d2 powI (dC (.int 10)) (dC (.int 18))))) [.d (.cel 0), .d (.int m), .d (.int z), .mt, .mt] (penM cs (a + 1) d (c + 1) f) = .ok (decide ((10 ^ 18 : Int) ≤ z)) (penM cs (a + 1) d (c + 1) f) :=
          dB_of ((d2_of rfl (p18 _ _)).trans (geI_int _ _))
        by_cases h3 : (10 ^ 18 : Int) ≤ z
        · rw [decide_eq_true h3] at cg
          refine ⟨a + 1, z - 10 ^ 18, f, .d (.int z), by omega, by omega, hf, hf2, ?_⟩
          refine (if_t (and_t cd cl)).trans ((seq_nx e1).trans ((seq_nx e2).trans ((if_t cg).trans ?_)))
          exact putK_of (M := []) ((d2_of rfl (p18 _ _)).trans (subI_int _ _)) rfl pp_digits
        · rw [decide_eq_false h3] at cg
          refine ⟨a + 1, d, (f * 69069 + z).fmod 2147483587, .d (.int z), by omega, hd, ?_, ?_, ?_⟩
          · rw [Int.fmod_eq_emod_of_nonneg _ (by omega)]; exact Int.emod_nonneg _ (by omega)
          · rw [Int.fmod_eq_emod_of_nonneg _ (by omega)]; exact Int.emod_lt_of_pos _ (by omega)
          refine (if_t (and_t cd cl)).trans ((seq_nx e1).trans ((seq_nx e2).trans ((if_f cg).trans ?_)))
          exact putK_of (M := []) ((d2_of ((cb1_of ((d2_of ((d2_of (g _ _ _ _ _ _ pv_fold _) rfl).trans (mulD_int (bits64 (by omega) (by omega) (by omega) (by omega)))) rfl).trans (addD_int _ _))).trans rfl) rfl).trans (modI_int (by decide))) rfl pp_fold
      · rw [decide_eq_false h2] at cl
        exact ⟨a, d, f, .mt, ha, hd, hf, hf2, (if_f (and_t cd cl)).trans rfl⟩
    · rw [decide_eq_false h1] at cd
      exact ⟨a, d, f, .mt, ha, hd, hf, hf2, (if_f (and_f cd)).trans rfl⟩
  obtain ⟨a', d', f', y2, ha', hd', hf', hf2', e2⟩ := s2
  obtain ⟨r, M', e3, h1, h2, h3⟩ := draw_end (cs := cs) (a := a') (d := d') (c := c + 1) (f := f') (n := n + 1) (y2 := y2) (y3 := .mt) (y4 := .mt) hm hm2 hd' (by omega) (by omega) hn hf' hf2' ha'
  refine ⟨r, M', ?_, h1, h2, h3⟩
  unfold runF
  rw [hs, show pDraw [.d (.cel 0), .d (.int m), .mt, .mt, .mt] (penM cs a d c f) = .rt (.int r) M' from (seq_nx s1).trans ((seq_nx e2).trans e3)]
/-! ### the pen is made -/
abbrev pPenB : FS := dSet 1 (d2 modI (dCB intD2 (aCons (d2 addD (d2 mulD (dVar 1) (dC (.int 41))) (dVar 2)) aNil)) (dC (.int 1000000007)))
abbrev pPen : FS := (dSeq (dSet 1 (dC (.int 0)))
  (dSeq (dFor (iSeq (dVar 0)) (gN 2) pPenB)
  (dRet (dDisp ["cells", "at", "digits", "count", "fold"] (aCons (dCB listD (aCons (dVar 0) aNil)) (aCons (dC (.int 0)) (aCons (dC (.int 0)) (aCons (dC (.int 0)) (aCons (dVar 1) aNil)))))))))
theorem pen_for {x : Sl} : ∀ (ns : List Int) (f : Int) (y : Sl), 0 ≤ f → f < 1000000007 → ∃ f' y', 0 ≤ f' ∧ f' < 1000000007 ∧ forL (gN 2) pPenB (ns.map D.int) [x, .d (.int f), y] [] = .nx [x, .d (.int f'), y'] []
  | [], f, y, h1, h2 => ⟨f, y, h1, h2, rfl⟩
  | n :: ns, f, y, h1, h2 => by
    obtain ⟨f', y', h3, h4, e⟩ := pen_for ns ((f * 41 + n).fmod 1000000007) (.d (.int n)) (by rw [Int.fmod_eq_emod_of_nonneg _ (by omega)]; exact Int.emod_nonneg _ (by omega)) (by rw [Int.fmod_eq_emod_of_nonneg _ (by omega)]; exact Int.emod_lt_of_pos _ (by omega))
    refine ⟨f', y', h3, h4, ?_⟩
    rw [List.map_cons]
    refine (forL_nx (ρ1 := [x, .d (.int f), .d (.int n)]) (M1 := []) (ρ2 := [x, .d (.int ((f * 41 + n).fmod 1000000007)), .d (.int n)]) (M2 := []) rfl ?_).trans e
    exact set_of (i := 1) (M1 := []) (x := .int ((f * 41 + n).fmod 1000000007)) ((d2_of (M1 := []) (M2 := []) (x := .int (f * 41 + n)) ((cb1_of (M1 := []) ((d2_of (M1 := []) (M2 := []) ((d2_of rfl rfl).trans (mulD_int (bits64 (by omega) (by omega) (by omega) (by omega)))) rfl).trans (addD_int _ _))).trans rfl) rfl).trans (modI_int (by decide)))
theorem pen_is (ns : List Int) : ∃ M, runF 3 pPen [.rol (ns.map .int)] [] = .ok (.cel 0) M ∧ Pen 0 M := by
  obtain ⟨f, y, h1, h2, e⟩ := pen_for (x := .d (.rol (ns.map .int))) ns 0 .mt (by decide) (by decide)
  refine ⟨penM ns 0 0 0 f, ?_, ⟨ns, 0, 0, 0, f, rfl, by decide, by decide, by decide, by decide, h1, by omega⟩⟩
  have hs : start0 3 [.rol (ns.map .int)] = [.d (.rol (ns.map .int)), .mt, .mt] := rfl
  have ef : dFor (iSeq (dVar 0)) (gN 2) pPenB [.d (.rol (ns.map .int)), .d (.int 0), .mt] [] = .nx [.d (.rol (ns.map .int)), .d (.int f), y] [] := e
  unfold runF
  rw [hs, show pPen [.d (.rol (ns.map .int)), .mt, .mt] [] = .rt (.cel 0) (penM ns 0 0 0 f) from (seq_nx (M1 := []) rfl).trans ((seq_nx ef).trans (ret_of rfl))]
end DL
set_option maxRecDepth 100000
/-! The pen, at any cell; large numbers. -/
namespace DL
open PySem L2
theorem divI_big {M : List MO} {i j : Int} (h : j ≠ 0) (h2 : j.natAbs < 2 ^ 9000) : divI (.int i) (.int j) M = .ok (.int (i.fdiv j)) M := by
  refine if_pos ?_
  unfold divOk
  rw [decide_eq_true h, PyProof.noPylong_of_log2 ((Nat.log2_lt (by omega)).mpr h2)]; rfl
def pm (M0 : List MO) (p : Nat) (cs : List Int) (a d c f : Int) : List MO := M0.set p (.dic (penK cs a d c f))
/-- all but the pen stays -/
def Dr (p : Nat) (M M' : List MO) : Prop := M'.length = M.length ∧ ∀ i, i ≠ p → M'[i]? = M[i]?
theorem Dr.refl {p : Nat} {M : List MO} : Dr p M M := ⟨rfl, fun _ _ => rfl⟩
theorem Dr.trans {p : Nat} {M M1 M2 : List MO} (h : Dr p M M1) (k : Dr p M1 M2) : Dr p M M2 := ⟨k.1.trans h.1, fun i n => (k.2 i n).trans (h.2 i n)⟩
section
variable {M0 : List MO} {p : Nat} {cs : List Int} {a d c f : Int}
theorem pm_at (hp : p < M0.length) : (pm M0 p cs a d c f)[p]? = some (.dic (penK cs a d c f)) := by unfold pm; rw [List.getElem?_set_self hp]
theorem pm_self {M : List MO} (h : M[p]? = some (.dic (penK cs a d c f))) : M = pm M p cs a d c f := by
  unfold pm
  apply List.ext_getElem?
  intro i
  by_cases e : p = i
  · subst e; rw [List.getElem?_set_self (List.getElem?_eq_some_iff.mp h).1, h]
  · rw [List.getElem?_set_ne e]
theorem Dr.pm : Dr p M0 (DL.pm M0 p cs a d c f) := ⟨by unfold DL.pm; simp, fun i n => by unfold DL.pm; rw [List.getElem?_set_ne (Ne.symm n)]⟩
theorem Dr.of {M' : List MO} (h : Dr p M0 M') : Dr p (DL.pm M0 p cs a d c f) M' := ⟨h.1.trans (by unfold DL.pm; simp), fun i n => (h.2 i n).trans (by unfold DL.pm; rw [List.getElem?_set_ne (Ne.symm n)])⟩
theorem getKP (hp : p < M0.length) {fo : FE} {ρ : List Sl} {k : Str} {v : D} (h : fo ρ (pm M0 p cs a d c f) = .ok (.cel p) (pm M0 p cs a d c f)) (hv : valD (penK cs a d c f) (.inr k) = some v) : dGetK fo (dC (.str k)) ρ (pm M0 p cs a d c f) = .ok v (pm M0 p cs a d c f) := by
  unfold dGetK
  rw [h]
  simp only [R.bind_ok, dC]
  have e : dicAt (pm M0 p cs a d c f) (.cel p) = some (p, penK cs a d c f) := by unfold dicAt; dsimp only; rw [pm_at hp]
  rw [e]
  show (match some (p, penK cs a d c f), some (Sum.inr k) with | some z, some k => ofOpt (valD z.2 k) (pm M0 p cs a d c f) | _, _ => .bad) = _
  dsimp only
  rw [hv]; rfl
theorem putKP (hp : p < M0.length) {fo fv : FE} {ρ : List Sl} {k : Str} {v : D} {cs' : List Int} {a' d' c' f' : Int} (h0 : fv ρ (pm M0 p cs a d c f) = .ok v (pm M0 p cs a d c f)) (h : fo ρ (pm M0 p cs a d c f) = .ok (.cel p) (pm M0 p cs a d c f)) (hv : putD (penK cs a d c f) (.inr k) v = penK cs' a' d' c' f') : dPutK fo (dC (.str k)) fv ρ (pm M0 p cs a d c f) = .nx ρ (pm M0 p cs' a' d' c' f') := by
  unfold dPutK
  rw [h0]
  simp only [R.sbind_ok]
  rw [h]
  simp only [R.sbind_ok, dC]
  have e : dicAt (pm M0 p cs a d c f) (.cel p) = some (p, penK cs a d c f) := by unfold dicAt; dsimp only; rw [pm_at hp]
  rw [e]
  show (match some (p, penK cs a d c f), some (Sum.inr k) with | some z, some k => if szOk (z.2.length + 1) then RS.nx ρ ((pm M0 p cs a d c f).set z.1 (.dic (putD z.2 k v))) else .bad | _, _ => .bad) = _
  dsimp only
  rw [if_pos (by rfl), hv]
  unfold pm
  rw [List.set_set]
end
structure PenP (p n : Nat) (M : List MO) : Prop where
  is : ∃ cs a d c f, M[p]? = some (.dic (penK cs a d c f)) ∧ 0 ≤ a ∧ 0 ≤ d ∧ 0 ≤ c ∧ c ≤ (n : Int) ∧ 0 ≤ f ∧ f < 2147483587
theorem PenP.mono {p n m : Nat} {M : List MO} (P : PenP p n M) (h : n ≤ m) : PenP p m M := let ⟨cs, a, d, c, f, e, h1, h2, h3, h4, h5, h6⟩ := P.is; ⟨⟨cs, a, d, c, f, e, h1, h2, h3, by omega, h5, h6⟩⟩
/-- the second half of a draw -/
theorem drawP_end {M0 : List MO} {p : Nat} (hp : p < M0.length) {cs : List Int} {a d c f m : Int} {n : Nat} {y2 y3 y4 : Sl} (hm : 0 < m) (hm2 : m.natAbs < 2 ^ 9000) (hd : 0 ≤ d) (hc : 0 ≤ c) (hcn : c ≤ (n : Int)) (hn : n ≤ 1000000) (hf : 0 ≤ f) (hf2 : f < 2147483587) (ha : 0 ≤ a) :
    ∃ r M', (dSeq (dIfS (dB (d2 gtI (pG "digits") (dC (.int 0)))) (dSeq (dSet 3 (d2 modI (dCB intD2 (aCons (pG "digits") aNil)) (dVar 1)))
  (dSeq (dPutK (dVar 0) (dC (.str "digits")) (d2 divI (pG "digits") (dVar 1)))
  (dRet (dVar 3)))) dNext)
  (dSeq (dSet 4 (d2 addD (d2 addD (pG "fold") (d2 mulD (pG "count") (dC (.int 7907)))) (dC (.int 37))))
  (dRet (d2 modI (d2 divI (dCB intD2 (aCons (d2 modI (d2 powI (dVar 4) (dC (.int 17))) (dC (.int 2305843009213693951))) aNil)) (dC (.int 128))) (dVar 1))))) [.d (.cel p), .d (.int m), y2, y3, y4] (pm M0 p cs a d c f) = .rt (.int r) M' ∧ 0 ≤ r ∧ r < m ∧ PenP p n M' ∧ Dr p M0 M' := by
  have hm0 : m ≠ 0 := by omega
  have g (k : Str) (v : D) (h : valD (penK cs a d c f) (.inr k) = some v) (ρ : List Sl) : pG k (.d (.cel p) :: ρ) (pm M0 p cs a d c f) = .ok v (pm M0 p cs a d c f) := getKP hp rfl h
  by_cases h : 0 < d
  · refine ⟨d.fmod m, pm M0 p cs a (d.fdiv m) c f, ?_, ?_, ?_, ⟨⟨cs, a, d.fdiv m, c, f, pm_at hp, ha, Int.fdiv_nonneg hd (by omega), hc, hcn, hf, hf2⟩⟩, Dr.pm⟩
    · refine seq_rt ((if_t (dB_of (b := true) (M1 := pm M0 p cs a d c f) ((d2_of (g _ _ pv_digits _) rfl).trans (by simp [h])))).trans ?_)
      refine (seq_nx (set_of ((d2_of ((cb1_of (g _ _ pv_digits _)).trans rfl) rfl).trans (modI_int hm0)))).trans ?_
      refine (seq_nx (putKP hp (fo := dVar 0) ((d2_of (g _ _ pv_digits _) rfl).trans (divI_big hm0 hm2)) rfl pp_digits)).trans ?_
      exact ret_of rfl
    · rw [Int.fmod_eq_emod_of_nonneg _ (by omega)]; exact Int.emod_nonneg _ hm0
    · rw [Int.fmod_eq_emod_of_nonneg _ (by omega)]; exact Int.emod_lt_of_pos _ hm
  · have hmx : (f + c * 7907 + 37).natAbs < 2 ^ 64 := by omega
    refine ⟨((((f + c * 7907 + 37) ^ 17).fmod 2305843009213693951).fdiv 128).fmod m, pm M0 p cs a d c f, ?_, ?_, ?_, ⟨⟨cs, a, d, c, f, pm_at hp, ha, hd, hc, hcn, hf, hf2⟩⟩, Dr.pm⟩
    · refine (seq_nx ((if_f (dB_of (b := false) (M1 := pm M0 p cs a d c f) ((d2_of (g _ _ pv_digits _) rfl).trans (by simp [h])))).trans rfl)).trans ?_
      refine (seq_nx (set_of ((d2_of ((d2_of (g _ _ pv_fold _) ((d2_of (g _ _ pv_count _) rfl).trans (mulD_int (bits64 (by omega) (by omega) (by omega) (by omega))))).trans (addD_int _ _)) rfl).trans (addD_int _ _)))).trans ?_
      refine ret_of ((d2_of ((d2_of ((cb1_of ((d2_of ((d2_of rfl rfl).trans ?_) rfl).trans (modI_int (by decide)))).trans rfl) rfl).trans (divI_int (by decide) (by decide))) rfl).trans (modI_int hm0))
      exact if_pos ⟨by decide, by decide, hmx⟩
    · rw [Int.fmod_eq_emod_of_nonneg _ (by omega)]; exact Int.emod_nonneg _ hm0
    · rw [Int.fmod_eq_emod_of_nonneg _ (by omega)]; exact Int.emod_lt_of_pos _ hm
theorem drawP {m : Int} {n p : Nat} {M : List MO} (P : PenP p n M) (hn : n + 1 ≤ 1000000) (hm : 0 < m) (hm2 : m.natAbs < 2 ^ 9000) : ∃ r M', runF 5 pDraw [.cel p, .int m] M = .ok (.int r) M' ∧ 0 ≤ r ∧ r < m ∧ PenP p (n + 1) M' ∧ Dr p M M' := by
  obtain ⟨cs, a, d, c, f, hM, ha, hd, hc, hcn, hf, hf2⟩ := P.is
  have hp0 : p < M.length := (List.getElem?_eq_some_iff.mp hM).1
  obtain ⟨M0, eM, hp⟩ : ∃ M0, M = pm M0 p cs a d c f ∧ p < M0.length := ⟨M, pm_self hM, hp0⟩
  subst eM
  have g (d' c' f' a' : Int) (k : Str) (v : D) (h : valD (penK cs a' d' c' f') (.inr k) = some v) (ρ : List Sl) : pG k (.d (.cel p) :: ρ) (pm M0 p cs a' d' c' f') = .ok v (pm M0 p cs a' d' c' f') := getKP hp rfl h
  have hs : start0 5 [.cel p, .int m] = [.d (.cel p), .d (.int m), .mt, .mt, .mt] := rfl
  -- the count
  have s1 : (dPutK (dVar 0) (dC (.str "count")) (d2 addD (pG "count") (dC (.int 1)))) [.d (.cel p), .d (.int m), .mt, .mt, .mt] (pm M0 p cs a d c f) = .nx [.d (.cel p), .d (.int m), .mt, .mt, .mt] (pm M0 p cs a d (c + 1) f) :=
    putKP hp ((d2_of (g _ _ _ _ _ _ pv_count _) rfl).trans (addD_int _ _)) rfl pp_count
  -- a cell is read
  have s2 : ∃ (a' d' f' : Int) (y2 : Sl), 0 ≤ a' ∧ 0 ≤ d' ∧ 0 ≤ f' ∧ f' < 2147483587 ∧
      (dIfS (dAnd (dB (d2 eqD (pG "digits") (dC (.int 0)))) (dB (d2 ltI (pG "at") (dCB lenD (aCons (pG "cells") aNil))))) (dSeq (dSet 2 (d2 itemD (pG "cells") (pG "at")))
        (dSeq (dPutK (dVar 0) (dC (.str "at")) (d2 addD (pG "at") (dC (.int 1))))
        (dIfS (dB (d2 geI (dVar 2) (d2 powI (dC (.int 10)) (dC (.int 18))))) (dPutK (dVar 0) (dC (.str "digits")) (d2 subI (dVar 2) (d2 powI (dC (.int 10)) (dC (.int 18))))) (dPutK (dVar 0) (dC (.str "fold")) (d2 modI (dCB intD2 (aCons (d2 addD (d2 mulD (pG "fold") (dC (.int 69069))) (dVar 2)) aNil)) (dC (.int 2147483587))))))) dNext)
        [.d (.cel p), .d (.int m), .mt, .mt, .mt] (pm M0 p cs a d (c + 1) f) = .nx [.d (.cel p), .d (.int m), y2, .mt, .mt] (pm M0 p cs a' d' (c + 1) f') := by
    have cd : (dB (d2 eqD (pG "digits") (dC (.int 0)))) [.d (.cel p), .d (.int m), .mt, .mt, .mt] (pm M0 p cs a d (c + 1) f) = .ok (decide (d = 0)) (pm M0 p cs a d (c + 1) f) := dB_of ((d2_of (g _ _ _ _ _ _ pv_digits _) rfl).trans (eqD_int _ _))
    have cl : (dB (d2 ltI (pG "at") (dCB lenD (aCons (pG "cells") aNil)))) [.d (.cel p), .d (.int m), .mt, .mt, .mt] (pm M0 p cs a d (c + 1) f) = .ok (decide (a < ((cs.map D.int).length : Int))) (pm M0 p cs a d (c + 1) f) :=
      dB_of ((d2_of (g _ _ _ _ _ _ pv_at _) ((cb1_of (g _ _ _ _ _ _ pv_cells _)).trans rfl)).trans (ltI_int _ _))
    by_cases h1 : d = 0
    · rw [decide_eq_true h1] at cd
      by_cases h2 : a < ((cs.map D.int).length : Int)
      · rw [decide_eq_true h2] at cl
        obtain ⟨z, hz⟩ : ∃ z, cs[a.toNat]? = some z := ⟨cs[a.toNat]'(by simp at h2; omega), List.getElem?_eq_getElem _⟩
        have it : itemD (.lst (cs.map .int)) (.int a) (pm M0 p cs a d (c + 1) f) = .ok (.int z) (pm M0 p cs a d (c + 1) f) := by
          show ofOpt (atI (cs.map D.int) a) _ = _
          have : atI (cs.map D.int) a = some (.int z) := by
            rw [atI_pos ha h2, List.getElem?_map, hz]; rfl
          rw [this]; rfl
        have e1 := set_of (i := 2) ((d2_of (g _ _ _ _ _ _ pv_cells [.d (.int m), .mt, .mt, .mt]) (g _ _ _ _ _ _ pv_at [.d (.int m), .mt, .mt, .mt])).trans it)
        have e2 : (dPutK (dVar 0) (dC (.str "at")) (d2 addD (pG "at") (dC (.int 1)))) [.d (.cel p), .d (.int m), .d (.int z), .mt, .mt] (pm M0 p cs a d (c + 1) f) = .nx [.d (.cel p), .d (.int m), .d (.int z), .mt, .mt] (pm M0 p cs (a + 1) d (c + 1) f) :=
          putKP hp ((d2_of (g _ _ _ _ _ _ pv_at _) rfl).trans (addD_int _ _)) rfl pp_at
        have p18 : ∀ ρ M, (d2 powI (dC (.int 10)) (dC (.int 18))) ρ M = .ok (.int (10 ^ 18)) M := fun ρ M => rfl
        have cg : (dB (d2 geI (dVar 2) (d2 powI (dC (.int 10)) (dC (.int 18))))) [.d (.cel p), .d (.int m), .d (.int z), .mt, .mt] (pm M0 p cs (a + 1) d (c + 1) f) = .ok (decide ((10 ^ 18 : Int) ≤ z)) (pm M0 p cs (a + 1) d (c + 1) f) :=
          dB_of ((d2_of rfl (p18 _ _)).trans (geI_int _ _))
        by_cases h3 : (10 ^ 18 : Int) ≤ z
        · rw [decide_eq_true h3] at cg
          refine ⟨a + 1, z - 10 ^ 18, f, .d (.int z), by omega, by omega, hf, hf2, ?_⟩
          refine (if_t (and_t cd cl)).trans ((seq_nx e1).trans ((seq_nx e2).trans ((if_t cg).trans ?_)))
          exact putKP hp ((d2_of rfl (p18 _ _)).trans (subI_int _ _)) rfl pp_digits
        · rw [decide_eq_false h3] at cg
          refine ⟨a + 1, d, (f * 69069 + z).fmod 2147483587, .d (.int z), by omega, hd, ?_, ?_, ?_⟩
          · rw [Int.fmod_eq_emod_of_nonneg _ (by omega)]; exact Int.emod_nonneg _ (by omega)
          · rw [Int.fmod_eq_emod_of_nonneg _ (by omega)]; exact Int.emod_lt_of_pos _ (by omega)
          refine (if_t (and_t cd cl)).trans ((seq_nx e1).trans ((seq_nx e2).trans ((if_f cg).trans ?_)))
          exact putKP hp ((d2_of ((cb1_of ((d2_of ((d2_of (g _ _ _ _ _ _ pv_fold _) rfl).trans (mulD_int (bits64 (by omega) (by omega) (by omega) (by omega)))) rfl).trans (addD_int _ _))).trans rfl) rfl).trans (modI_int (by decide))) rfl pp_fold
      · rw [decide_eq_false h2] at cl
        exact ⟨a, d, f, .mt, ha, hd, hf, hf2, (if_f (and_t cd cl)).trans rfl⟩
    · rw [decide_eq_false h1] at cd
      exact ⟨a, d, f, .mt, ha, hd, hf, hf2, (if_f (and_f cd)).trans rfl⟩
  obtain ⟨a', d', f', y2, ha', hd', hf', hf2', e2⟩ := s2
  obtain ⟨r, M', e3, h1, h2, h3, h4⟩ := drawP_end (M0 := M0) hp (cs := cs) (a := a') (d := d') (c := c + 1) (f := f') (n := n + 1) (y2 := y2) (y3 := .mt) (y4 := .mt) hm hm2 hd' (by omega) (by omega) hn hf' hf2' ha'
  refine ⟨r, M', ?_, h1, h2, h3, h4.of⟩
  unfold runF
  rw [hs, show pDraw [.d (.cel p), .d (.int m), .mt, .mt, .mt] (pm M0 p cs a d c f) = .rt (.int r) M' from (seq_nx s1).trans ((seq_nx e2).trans e3)]
theorem pen_forL {x : Sl} : ∀ (ns : List Int) (f : Int) (y : Sl), 0 ≤ f → f < 1000000007 → ∃ f' y', 0 ≤ f' ∧ f' < 1000000007 ∧ forL (gN 2) pPenB (ns.map D.int) [x, .d (.int f), y] [] = .nx [x, .d (.int f'), y'] []
  | [], f, y, h1, h2 => ⟨f, y, h1, h2, rfl⟩
  | n :: ns, f, y, h1, h2 => by
    obtain ⟨f', y', h3, h4, e⟩ := pen_forL ns ((f * 41 + n).fmod 1000000007) (.d (.int n)) (by rw [Int.fmod_eq_emod_of_nonneg _ (by omega)]; exact Int.emod_nonneg _ (by omega)) (by rw [Int.fmod_eq_emod_of_nonneg _ (by omega)]; exact Int.emod_lt_of_pos _ (by omega))
    refine ⟨f', y', h3, h4, ?_⟩
    rw [List.map_cons]
    refine (forL_nx (ρ1 := [x, .d (.int f), .d (.int n)]) (M1 := []) (ρ2 := [x, .d (.int ((f * 41 + n).fmod 1000000007)), .d (.int n)]) (M2 := []) rfl ?_).trans e
    exact set_of (i := 1) (M1 := []) (x := .int ((f * 41 + n).fmod 1000000007)) ((d2_of (M1 := []) (M2 := []) (x := .int (f * 41 + n)) ((cb1_of (M1 := []) ((d2_of (M1 := []) (M2 := []) ((d2_of rfl rfl).trans (mulD_int (bits64 (by omega) (by omega) (by omega) (by omega)))) rfl).trans (addD_int _ _))).trans rfl) rfl).trans (modI_int (by decide)))
theorem pen_isL (ns : List Int) : ∃ M, runF 3 pPen [.rol (ns.map .int)] [] = .ok (.cel 0) M ∧ PenP 0 0 M := by
  obtain ⟨f, y, h1, h2, e⟩ := pen_forL (x := .d (.rol (ns.map .int))) ns 0 .mt (by decide) (by decide)
  refine ⟨[.dic (penK ns 0 0 0 f)], ?_, ⟨ns, 0, 0, 0, f, rfl, by decide, by decide, by decide, by decide, h1, by omega⟩⟩
  have hs : start0 3 [.rol (ns.map .int)] = [.d (.rol (ns.map .int)), .mt, .mt] := rfl
  have ef : dFor (iSeq (dVar 0)) (gN 2) pPenB [.d (.rol (ns.map .int)), .d (.int 0), .mt] [] = .nx [.d (.rol (ns.map .int)), .d (.int f), y] [] := e
  unfold runF
  rw [hs, show pPen [.d (.rol (ns.map .int)), .mt, .mt] [] = .rt (.cel 0) ([.dic (penK ns 0 0 0 f)]) from (seq_nx (M1 := []) rfl).trans ((seq_nx ef).trans (ret_of rfl))]
theorem pen_forT {q : Str} {x : Sl} : ∀ (ns : List Int) (f : Int) (y : Sl), 0 ≤ f → f < 1000000007 → ∃ f' y', 0 ≤ f' ∧ f' < 1000000007 ∧ forL (gN 2) pPenB (ns.map D.int) [x, .d (.int f), y] [.tab q] = .nx [x, .d (.int f'), y'] [.tab q]
  | [], f, y, h1, h2 => ⟨f, y, h1, h2, rfl⟩
  | n :: ns, f, y, h1, h2 => by
    obtain ⟨f', y', h3, h4, e⟩ := pen_forT (q := q) ns ((f * 41 + n).fmod 1000000007) (.d (.int n)) (by rw [Int.fmod_eq_emod_of_nonneg _ (by omega)]; exact Int.emod_nonneg _ (by omega)) (by rw [Int.fmod_eq_emod_of_nonneg _ (by omega)]; exact Int.emod_lt_of_pos _ (by omega))
    refine ⟨f', y', h3, h4, ?_⟩
    rw [List.map_cons]
    refine (forL_nx (ρ1 := [x, .d (.int f), .d (.int n)]) (M1 := [.tab q]) (ρ2 := [x, .d (.int ((f * 41 + n).fmod 1000000007)), .d (.int n)]) (M2 := [.tab q]) rfl ?_).trans e
    exact set_of (i := 1) (M1 := [.tab q]) (x := .int ((f * 41 + n).fmod 1000000007)) ((d2_of (M1 := [.tab q]) (M2 := [.tab q]) (x := .int (f * 41 + n)) ((cb1_of (M1 := [.tab q]) ((d2_of (M1 := [.tab q]) (M2 := [.tab q]) ((d2_of rfl rfl).trans (mulD_int (bits64 (by omega) (by omega) (by omega) (by omega)))) rfl).trans (addD_int _ _))).trans rfl) rfl).trans (modI_int (by decide)))
theorem pen_isT (q : Str) (ns : List Int) : ∃ M, runF 3 pPen [.rol (ns.map .int)] [.tab q] = .ok (.cel 1) M ∧ PenP 1 0 M ∧ M[0]? = some (.tab q) := by
  obtain ⟨f, y, h1, h2, e⟩ := pen_forT (q := q) (x := .d (.rol (ns.map .int))) ns 0 .mt (by decide) (by decide)
  refine ⟨[.tab q] ++ [.dic (penK ns 0 0 0 f)], ?_, ⟨⟨ns, 0, 0, 0, f, rfl, by decide, by decide, by decide, by decide, h1, by omega⟩⟩, rfl⟩
  have hs : start0 3 [.rol (ns.map .int)] = [.d (.rol (ns.map .int)), .mt, .mt] := rfl
  have ef : dFor (iSeq (dVar 0)) (gN 2) pPenB [.d (.rol (ns.map .int)), .d (.int 0), .mt] [.tab q] = .nx [.d (.rol (ns.map .int)), .d (.int f), y] [.tab q] := e
  unfold runF
  rw [hs, show pPen [.d (.rol (ns.map .int)), .mt, .mt] [.tab q] = .rt (.cel 1) ([.tab q] ++ [.dic (penK ns 0 0 0 f)]) from (seq_nx (M1 := [.tab q]) rfl).trans ((seq_nx ef).trans (ret_of rfl))]
end DL
set_option maxRecDepth 100000
/-! Ratios: the pair of a rational number, the Ratio of it. -/
namespace DL
open PySem L2
def Sz (k : Nat) (i : Int) : Prop := i.natAbs < 2 ^ k
theorem Sz.mono {k j : Nat} {i : Int} (h : Sz k i) (hj : k ≤ j) : Sz j i := Nat.lt_of_lt_of_le h (Nat.pow_le_pow_right (by decide) hj)
theorem Sz.mul {k j : Nat} {x y : Int} (h : Sz k x) (g : Sz j y) : Sz (k + j) (x * y) := by
  unfold Sz at *
  rw [Int.natAbs_mul, Nat.pow_add]
  exact Nat.mul_lt_mul'' h g
theorem Sz.add {k : Nat} {x y : Int} (h : Sz k x) (g : Sz k y) : Sz (k + 1) (x + y) := by
  unfold Sz at *
  rw [Nat.pow_succ]; omega
theorem Sz.sub {k : Nat} {x y : Int} (h : Sz k x) (g : Sz k y) : Sz (k + 1) (x - y) := by
  unfold Sz at *
  rw [Nat.pow_succ]; omega
theorem Sz.neg {k : Nat} {x : Int} (h : Sz k x) : Sz k (-x) := by unfold Sz at *; omega
theorem Sz.bits {k : Nat} {i : Int} (h : Sz k i) : Builtin.Int.intBits i ≤ k := by
  exact PyProof.Rows.intBits_le h
theorem Sz.ok {k j : Nat} {x y : Int} (h : Sz k x) (g : Sz j y) (hk : k + j ≤ 134217728) : intBitsOk x y := by
  unfold intBitsOk
  have := h.bits
  have := g.bits
  omega
def pr (q : Rat) : D := .tup [.int q.num, .int q.den]
def ra (q : Rat) : D := .ins 0 [.int q.num, .int q.den]
def Sm (k : Nat) (q : Rat) : Prop := Sz k q.num ∧ Sz k (q.den : Int)
theorem Sm.mono {k j : Nat} {q : Rat} (h : Sm k q) (hj : k ≤ j) : Sm j q := ⟨h.1.mono hj, h.2.mono hj⟩
/-- what a common divisor leaves -/
theorem cut_num (t b : Int) (hb : b ≠ 0) : t.fdiv (if b < 0 then -(Int.gcd t b : Int) else (Int.gcd t b : Int)) = (Rat.divInt t b).num ∧ b.fdiv (if b < 0 then -(Int.gcd t b : Int) else (Int.gcd t b : Int)) = ((Rat.divInt t b).den : Int) := by
  have g0 : (Int.gcd t b : Int) ≠ 0 := by
    have := Int.gcd_pos_of_ne_zero_right t hb
    omega
  obtain ⟨t', ht⟩ : (Int.gcd t b : Int) ∣ t := Int.gcd_dvd_left ..
  obtain ⟨b', hb'⟩ : (Int.gcd t b : Int) ∣ b := Int.gcd_dvd_right ..
  have gp : 0 < (Int.gcd t b : Int) := by omega
  rw [Rat.num_divInt, Rat.den_divInt, if_neg hb]
  have gc : b.gcd t = Int.gcd t b := Int.gcd_comm ..
  rw [gc]
  generalize hg : (Int.gcd t b) = g at *
  by_cases h : b < 0
  · rw [if_pos h, Int.sign_eq_neg_one_of_neg h]
    have e : b.natAbs = g * b'.natAbs := by rw [hb', Int.natAbs_mul]; simp
    have hbn : b' < 0 := by
      by_cases z : b' < 0
      · exact z
      · have : 0 ≤ (g : Int) * b' := Int.mul_nonneg (by omega) (by omega)
        omega
    constructor
    · rw [ht, show (g : Int) * t' = (-(g : Int)) * (-t') by rw [Int.neg_mul_neg], Int.mul_fdiv_cancel_left _ (by omega), show (-1 : Int) * (-(g:Int) * -t') = (g : Int) * (-t') by rw [Int.neg_mul_neg, Int.neg_one_mul, Int.mul_neg], Int.mul_ediv_cancel_left _ g0]
    · rw [e, Nat.mul_div_cancel_left _ (by omega)]
      conv => lhs; rw [hb']
      rw [show (g : Int) * b' = (-(g : Int)) * (-b') by rw [Int.neg_mul_neg], Int.mul_fdiv_cancel_left _ (by omega)]
      omega
  · rw [if_neg h, Int.sign_eq_one_of_pos (by omega)]
    have e : b.natAbs = g * b'.natAbs := by rw [hb', Int.natAbs_mul]; simp
    have hbn : 0 < b' := by
      by_cases z : 0 < b'
      · exact z
      · have : (g : Int) * b' ≤ 0 := Int.mul_nonpos_of_nonneg_of_nonpos (by omega) (by omega)
        omega
    constructor
    · rw [ht, Int.mul_fdiv_cancel_left _ g0, Int.one_mul, Int.mul_ediv_cancel_left _ g0]
    · rw [e, Nat.mul_div_cancel_left _ (by omega)]
      conv => lhs; rw [hb']
      rw [Int.mul_fdiv_cancel_left _ g0]
      omega

/-! ### the functions -/
noncomputable def rDiv : FN := runF 2 pDiv
noncomputable def rInit : List D → List MO → R (List D) := runI 0 3 
  (dSeq (dIfS (dB (d2 eqD (dVar 2) (dC (.int 0)))) (dRaise 3 (aCons (dC (.str "bottom")) (aCons (dC (.int 0)) aNil))) dNext)
  (dSeq (dSet 3 (dIf (dB (d2 gtI (dVar 2) (dC (.int 0)))) (dCall (lenIs 2 rDiv) [] (aCons (dVar 1) (aCons (dVar 2) aNil))) (d1 negI (dCall (lenIs 2 rDiv) [] (aCons (dVar 1) (aCons (dVar 2) aNil))))))
  (dAsg (dTup (aCons (d2 divI (dVar 1) (dVar 3)) (aCons (d2 divI (dVar 2) (dVar 3)) aNil))) (gTupT 2 (gsCons (gSelf "top") (gsCons (gSelf "bottom") gsNil))))))
section
variable {M : List MO}
theorem rDiv_is (a b : Int) : rDiv [.int a, .int b] M = .ok (.int (Int.gcd a b : Nat)) M := div_is a b M
theorem rInit_zero (t : Int) : rInit [.int t, .int 0] M = .ex 3 [.int 0, .str "bottom"] M := by
  unfold rInit runI
  have : start0 3 [.int t, .int 0] = [.d (.int t), .d (.int 0), .mt] := rfl
  rw [this]
  have e : (dB (d2 eqD (dVar 2) (dC (.int 0)))) [.obj 0 [] [], .d (.int t), .d (.int 0), .mt] M = .ok true M := dB_of ((d2_of rfl rfl).trans (eqD_int _ _))
  unfold dSeq
  rw [if_t e]
  rfl
theorem rInit_is (t b : Int) (hb : b ≠ 0) (hs : Sz 9000 b) : rInit [.int t, .int b] M = .ok [.int (Rat.divInt t b).num, .int (Rat.divInt t b).den] M := by
  unfold rInit runI
  have : start0 3 [.int t, .int b] = [.d (.int t), .d (.int b), .mt] := rfl
  rw [this]
  have e : (dB (d2 eqD (dVar 2) (dC (.int 0)))) [.obj 0 [] [], .d (.int t), .d (.int b), .mt] M = .ok false M := (dB_of ((d2_of rfl rfl).trans (eqD_int _ _))).trans (by rw [decide_eq_false hb])
  obtain ⟨c1, c2⟩ := cut_num t b hb
  generalize hby : (if b < 0 then -(Int.gcd t b : Int) else (Int.gcd t b : Int)) = by_ at *
  have g0 : Int.gcd t b ≠ 0 := by
    have := Int.gcd_pos_of_ne_zero_right t hb
    omega
  have b0 : by_ ≠ 0 := by rw [← hby]; split <;> omega
  have bs : by_.natAbs < 2 ^ 9000 := by
    have h1 : by_.natAbs = Int.gcd t b := by rw [← hby]; split <;> omega
    rw [h1]
    exact Nat.lt_of_le_of_lt (Nat.le_of_dvd (by omega) (by rw [← Int.natCast_dvd_natCast]; exact Int.dvd_trans (Int.gcd_dvd_right ..) (by exact Int.dvd_natAbs.mpr (Int.dvd_refl b)))) hs
  have e2 : (dSet 3 (dIf (dB (d2 gtI (dVar 2) (dC (.int 0)))) (dCall (lenIs 2 rDiv) [] (aCons (dVar 1) (aCons (dVar 2) aNil))) (d1 negI (dCall (lenIs 2 rDiv) [] (aCons (dVar 1) (aCons (dVar 2) aNil)))))) [.obj 0 [] [], .d (.int t), .d (.int b), .mt] M = .nx [.obj 0 [] [], .d (.int t), .d (.int b), .d (.int by_)] M := by
    refine (set_of (x := .int by_) (M1 := M) ?_).trans rfl
    have hc : (dCall (lenIs 2 rDiv) [] (aCons (dVar 1) (aCons (dVar 2) aNil))) [.obj 0 [] [], .d (.int t), .d (.int b), .mt] M = .ok (.int (Int.gcd t b : Nat)) M := rDiv_is t b
    have hg : (dB (d2 gtI (dVar 2) (dC (.int 0)))) [.obj 0 [] [], .d (.int t), .d (.int b), .mt] M = .ok (decide (0 < b)) M := dB_of rfl
    unfold dIf
    rw [hg]
    simp only [R.bind_ok]
    by_cases h : 0 < b
    · rw [if_pos (by simpa using h), hc, ← hby, if_neg (by omega)]
    · rw [if_neg (by simpa using h)]
      unfold d1
      rw [hc, R.bind_ok, negI_int, ← hby, if_pos (by omega)]
  have e3 : (dAsg (dTup (aCons (d2 divI (dVar 1) (dVar 3)) (aCons (d2 divI (dVar 2) (dVar 3)) aNil))) (gTupT 2 (gsCons (gSelf "top") (gsCons (gSelf "bottom") gsNil)))) [.obj 0 [] [], .d (.int t), .d (.int b), .d (.int by_)] M = .nx [.obj 0 ["top", "bottom"] [.int (t.fdiv by_), .int (b.fdiv by_)], .d (.int t), .d (.int b), .d (.int by_)] M := by
    have h1 : (d2 divI (dVar 1) (dVar 3)) [.obj 0 [] [], .d (.int t), .d (.int b), .d (.int by_)] M = .ok (.int (t.fdiv by_)) M := (d2_of rfl rfl).trans (divI_big b0 bs)
    have h2 : (d2 divI (dVar 2) (dVar 3)) [.obj 0 [] [], .d (.int t), .d (.int b), .d (.int by_)] M = .ok (.int (b.fdiv by_)) M := (d2_of rfl rfl).trans (divI_big b0 bs)
    have h3 : (dTup (aCons (d2 divI (dVar 1) (dVar 3)) (aCons (d2 divI (dVar 2) (dVar 3)) aNil))) [.obj 0 [] [], .d (.int t), .d (.int b), .d (.int by_)] M = .ok (.tup [.int (t.fdiv by_), .int (b.fdiv by_)]) M := by
      unfold dTup aCons aNil
      rw [h1]
      simp only [R.bind_ok]
      rw [h2]
      rfl
    unfold dAsg
    rw [h3]
    rfl
  have e1 : (dIfS (dB (d2 eqD (dVar 2) (dC (.int 0)))) (dRaise 3 (aCons (dC (.str "bottom")) (aCons (dC (.int 0)) aNil))) dNext) [.obj 0 [] [], .d (.int t), .d (.int b), .mt] M = .nx [.obj 0 [] [], .d (.int t), .d (.int b), .mt] M := (if_f e).trans rfl
  rw [seq_nx e1, seq_nx e2, e3, c1, c2]
  rfl

noncomputable def rParts (cs : List Nat) : FN := runF 1 (dRet (dIf (dB (dIs cs [(.own 0)] (dVar 0))) (dTup (aCons (dFld "top" (dVar 0)) (aCons (dFld "bottom" (dVar 0)) aNil))) (dTup (aCons (dVar 0) (aCons (dC (.int 1)) aNil)))))
variable {cs : List Nat}
theorem rParts_int (hc : 0 ∈ cs) (i : Int) : rParts cs [.int i] M = .ok (.tup [.int i, .int 1]) M := by
  simp [rParts, runF, start0, dRet, dIf, dB, dIs, dVar, tagOf, okTy, okCl, hc, isA, dTup, aCons, aNil, dC, szOk]
theorem rParts_ra (hc : 0 ∈ cs) (q : Rat) : rParts cs [ra q] M = .ok (pr q) M := by
  simp [rParts, runF, start0, dRet, dIf, dB, dIs, dVar, tagOf, okTy, okCl, isA, dTup, aCons, aNil, dC, szOk, ra, dFld, fldOf, cn, ofOpt, pr, List.lookup, hc]
  rfl
/-- a ratio or an integer, as a value -/
inductive Num : D → Rat → Prop where
  | ra (q : Rat) : Num (DL.ra q) q
  | int (i : Int) : Num (.int i) (i : Rat)
theorem rParts_is (hc : 0 ∈ cs) {d : D} {q : Rat} (h : Num d q) : rParts cs [d] M = .ok (pr q) M := by
  cases h with
  | ra q => exact rParts_ra hc q
  | int i => rw [rParts_int hc]; rfl
theorem Num.ok {c : Nat} {d : D} {q : Rat} (h : Num d q) : okArg 0 d = true := by cases h <;> rfl
noncomputable def rAdd (cs : List Nat) : FN := runF 4 (dSeq (dAsg (dCall (lenIs 1 (rParts cs)) [] (aCons (dVar 1) aNil)) (gTupT 2 (gsCons (gN 2) (gsCons (gN 3) gsNil))))
  (dRet (dMake 0 2 rInit [] (aCons (d2 addD (d2 mulD (dFld "top" (dVar 0)) (dVar 3)) (d2 mulD (dVar 2) (dFld "bottom" (dVar 0)))) (aCons (d2 mulD (dFld "bottom" (dVar 0)) (dVar 3)) aNil)))))
noncomputable def rSub (cs : List Nat) : FN := runF 4 (dSeq (dAsg (dCall (lenIs 1 (rParts cs)) [] (aCons (dVar 1) aNil)) (gTupT 2 (gsCons (gN 2) (gsCons (gN 3) gsNil))))
  (dRet (dMake 0 2 rInit [] (aCons (d2 subI (d2 mulD (dFld "top" (dVar 0)) (dVar 3)) (d2 mulD (dVar 2) (dFld "bottom" (dVar 0)))) (aCons (d2 mulD (dFld "bottom" (dVar 0)) (dVar 3)) aNil)))))
noncomputable def rMul (cs : List Nat) : FN := runF 4 (dSeq (dAsg (dCall (lenIs 1 (rParts cs)) [] (aCons (dVar 1) aNil)) (gTupT 2 (gsCons (gN 2) (gsCons (gN 3) gsNil))))
  (dRet (dMake 0 2 rInit [] (aCons (d2 mulD (dFld "top" (dVar 0)) (dVar 2)) (aCons (d2 mulD (dFld "bottom" (dVar 0)) (dVar 3)) aNil)))))
noncomputable def rNeg : FN := runF 1 (dRet (dMake 0 2 rInit [] (aCons (d1 negI (dFld "top" (dVar 0))) (aCons (dFld "bottom" (dVar 0)) aNil))))
noncomputable def rOver (cs : List Nat) : FN := runF 4 (dSeq (dAsg (dCall (lenIs 1 (rParts cs)) [] (aCons (dVar 1) aNil)) (gTupT 2 (gsCons (gN 2) (gsCons (gN 3) gsNil))))
  (dRet (dMake 0 2 rInit [] (aCons (d2 mulD (dFld "top" (dVar 0)) (dVar 3)) (aCons (d2 mulD (dFld "bottom" (dVar 0)) (dVar 2)) aNil)))))
noncomputable def rCmp (cs : List Nat) : FN := runF 6 (dSeq (dAsg (dCall (lenIs 1 (rParts cs)) [] (aCons (dVar 1) aNil)) (gTupT 2 (gsCons (gN 2) (gsCons (gN 3) gsNil))))
  (dSeq (dPar 4 5 (aCons (d2 mulD (dFld "top" (dVar 0)) (dVar 3)) (aCons (d2 mulD (dVar 2) (dFld "bottom" (dVar 0))) aNil)))
  (dRet (d2 subI (dCB intD2 (aCons (d2 gtI (dVar 4) (dVar 5)) aNil)) (dCB intD2 (aCons (d2 ltI (dVar 4) (dVar 5)) aNil))))))
noncomputable def rEq (cs : List Nat) : FN := runF 4 (dSeq (dIfS (dOr (dNot (dB (dIs cs [(.own 0), .int] (dVar 1)))) (dB (dIs cs [.bool] (dVar 1)))) (dRet (dC (.bl false))) dNext)
  (dSeq (dAsg (dCall (lenIs 1 (rParts cs)) [] (aCons (dVar 1) aNil)) (gTupT 2 (gsCons (gN 2) (gsCons (gN 3) gsNil))))
  (dRet (dAndV (d2 eqD (dFld "top" (dVar 0)) (dVar 2)) (d2 eqD (dFld "bottom" (dVar 0)) (dVar 3))))))
/-- behind the parts -/
theorem parts_asg {n : Nat} (hc : 0 ∈ cs) {d : D} {q r : Rat} (h : Num d q) (rest : FS) (ts : List Sl) : (dSeq (dAsg (dCall (lenIs 1 (rParts cs)) [] (aCons (dVar 1) aNil)) (gTupT 2 (gsCons (gN 2) (gsCons (gN 3) gsNil)))) rest) (.d (ra r) :: .d d :: .mt :: .mt :: ts) M = rest (.d (ra r) :: .d d :: .d (.int q.num) :: .d (.int q.den) :: ts) M := by
  refine seq_nx ?_
  have e : (dCall (lenIs 1 (rParts cs)) [] (aCons (dVar 1) aNil)) (.d (ra r) :: .d d :: .mt :: .mt :: ts) M = .ok (pr q) M := rParts_is hc h
  unfold dAsg
  rw [e]
  rfl
theorem fld_top {q : Rat} {ρ : List Sl} : (dFld "top" (dVar 0)) (.d (ra q) :: ρ) M = .ok (.int q.num) M := rfl
theorem fld_bot {q : Rat} {ρ : List Sl} : (dFld "bottom" (dVar 0)) (.d (ra q) :: ρ) M = .ok (.int q.den) M := rfl
theorem make_ra {fa fb : FE} {ρ : List Sl} {t b : Int} (h1 : fa ρ M = .ok (.int t) M) (h2 : fb ρ M = .ok (.int b) M) (hb : b ≠ 0) (hs : Sz 9000 b) : (dMake 0 2 rInit [] (aCons fa (aCons fb aNil))) ρ M = .ok (ra (Rat.divInt t b)) M := by
  unfold dMake aCons aNil
  rw [h1]
  simp only [R.bind_ok]
  rw [h2]
  simp only [R.bind_ok]
  show (rInit [.int t, .int b] M).bind (fun xs M => R.ok (D.ins 0 xs) M) = _
  rw [rInit_is t b hb hs]
  rfl
theorem make_zero {fa fb : FE} {ρ : List Sl} {t : Int} (h1 : fa ρ M = .ok (.int t) M) (h2 : fb ρ M = .ok (.int 0) M) : (dMake 0 2 rInit [] (aCons fa (aCons fb aNil))) ρ M = .ex 3 [.int 0, .str "bottom"] M := by
  unfold dMake aCons aNil
  rw [h1]
  simp only [R.bind_ok]
  rw [h2]
  simp only [R.bind_ok]
  show (rInit [.int t, .int 0] M).bind (fun xs M => R.ok (D.ins 0 xs) M) = _
  rw [rInit_zero t]
  rfl
theorem mul_ev {fa fb : FE} {ρ : List Sl} {x y : Int} {k : Nat} (h1 : fa ρ M = .ok (.int x) M) (h2 : fb ρ M = .ok (.int y) M) (hx : Sz k x) (hy : Sz k y) (hk : k ≤ 60000000) : (d2 mulD fa fb) ρ M = .ok (.int (x * y)) M := (d2_of h1 h2).trans (mulD_int (hx.ok hy (by omega)))
theorem den_ne (q : Rat) : (q.den : Int) ≠ 0 := by have := q.den_nz; omega
theorem den_mul (q r : Rat) : (q.den : Int) * (r.den : Int) ≠ 0 := Int.mul_ne_zero (den_ne q) (den_ne r)
theorem rat_add (q r : Rat) : Rat.divInt (q.num * r.den + r.num * q.den) (q.den * r.den) = q + r := by
  conv => rhs; rw [← Rat.num_divInt_den q, ← Rat.num_divInt_den r, Rat.divInt_add_divInt _ _ (den_ne q) (den_ne r)]
theorem rat_sub (q r : Rat) : Rat.divInt (q.num * r.den - r.num * q.den) (q.den * r.den) = q - r := by
  conv => rhs; rw [← Rat.num_divInt_den q, ← Rat.num_divInt_den r, Rat.divInt_sub_divInt _ _ (den_ne q) (den_ne r)]
theorem rat_mul (q r : Rat) : Rat.divInt (q.num * r.num) (q.den * r.den) = q * r := by
  conv => rhs; rw [← Rat.num_divInt_den q, ← Rat.num_divInt_den r, Rat.divInt_mul_divInt]
theorem rat_over (q r : Rat) (h : r.num ≠ 0) : Rat.divInt (q.num * r.den) (q.den * r.num) = q / r := by
  rw [Rat.div_def, Rat.inv_def, ← Rat.divInt_mul_divInt, Rat.num_divInt_den]
theorem rAdd_is (hc : 0 ∈ cs) {d : D} {q r : Rat} (h : Num d r) (s1 : Sm 4000 q) (s2 : Sm 4000 r) : rAdd cs [ra q, d] M = .ok (ra (q + r)) M := by
  unfold rAdd runF
  rw [show start0 4 [ra q, d] = .d (ra q) :: .d d :: .mt :: .mt :: [] from rfl, parts_asg (n := 0) hc h]
  rw [ret_of (make_ra ((d2_of (mul_ev fld_top rfl s1.1 s2.2 (by decide)) (mul_ev rfl fld_bot s2.1 s1.2 (by decide))).trans (addD_int _ _)) (mul_ev fld_bot rfl s1.2 s2.2 (by decide)) (den_mul q r) ((s1.2.mul s2.2).mono (by decide))), rat_add]
theorem rSub_is (hc : 0 ∈ cs) {d : D} {q r : Rat} (h : Num d r) (s1 : Sm 4000 q) (s2 : Sm 4000 r) : rSub cs [ra q, d] M = .ok (ra (q - r)) M := by
  unfold rSub runF
  rw [show start0 4 [ra q, d] = .d (ra q) :: .d d :: .mt :: .mt :: [] from rfl, parts_asg (n := 0) hc h]
  rw [ret_of (make_ra ((d2_of (mul_ev fld_top rfl s1.1 s2.2 (by decide)) (mul_ev rfl fld_bot s2.1 s1.2 (by decide))).trans (subI_int _ _)) (mul_ev fld_bot rfl s1.2 s2.2 (by decide)) (den_mul q r) ((s1.2.mul s2.2).mono (by decide))), rat_sub]
theorem rMul_is (hc : 0 ∈ cs) {d : D} {q r : Rat} (h : Num d r) (s1 : Sm 4000 q) (s2 : Sm 4000 r) : rMul cs [ra q, d] M = .ok (ra (q * r)) M := by
  unfold rMul runF
  rw [show start0 4 [ra q, d] = .d (ra q) :: .d d :: .mt :: .mt :: [] from rfl, parts_asg (n := 0) hc h]
  rw [ret_of (make_ra (mul_ev fld_top rfl s1.1 s2.1 (by decide)) (mul_ev fld_bot rfl s1.2 s2.2 (by decide)) (den_mul q r) ((s1.2.mul s2.2).mono (by decide))), rat_mul]
theorem rOver_is (hc : 0 ∈ cs) {d : D} {q r : Rat} (h : Num d r) (hr : r.num ≠ 0) (s1 : Sm 4000 q) (s2 : Sm 4000 r) : rOver cs [ra q, d] M = .ok (ra (q / r)) M := by
  unfold rOver runF
  rw [show start0 4 [ra q, d] = .d (ra q) :: .d d :: .mt :: .mt :: [] from rfl, parts_asg (n := 0) hc h]
  rw [ret_of (make_ra (mul_ev fld_top rfl s1.1 s2.2 (by decide)) (mul_ev fld_bot rfl s1.2 s2.1 (by decide)) (Int.mul_ne_zero (den_ne q) hr) ((s1.2.mul s2.1).mono (by decide))), rat_over q r hr]
theorem rOver_zero (hc : 0 ∈ cs) {d : D} {q r : Rat} (h : Num d r) (hr : r.num = 0) (s1 : Sm 4000 q) (s2 : Sm 4000 r) : rOver cs [ra q, d] M = .ex 3 [.int 0, .str "bottom"] M := by
  unfold rOver runF
  rw [show start0 4 [ra q, d] = .d (ra q) :: .d d :: .mt :: .mt :: [] from rfl, parts_asg (n := 0) hc h]
  have e := mul_ev (M := M) (fa := dFld "bottom" (dVar 0)) (fb := dVar 2) (ρ := [.d (ra q), .d d, .d (.int r.num), .d (.int r.den)]) fld_bot rfl s1.2 s2.1 (by decide)
  rw [hr, Int.mul_zero] at e
  unfold dRet
  rw [make_zero (mul_ev fld_top rfl s1.1 s2.2 (by decide)) (by rw [hr] at *; exact e)]
  rfl
theorem rat_self (q : Rat) : Rat.divInt q.num q.den = q := Rat.num_divInt_den q
theorem rNeg_is {q : Rat} (s1 : Sm 4000 q) : rNeg [ra q] M = .ok (ra (-q)) M := by
  unfold rNeg runF
  rw [show start0 1 [ra q] = [.d (ra q)] from rfl]
  rw [ret_of (make_ra (fa := d1 negI (dFld "top" (dVar 0))) (fb := dFld "bottom" (dVar 0)) (t := -q.num) (b := q.den) rfl fld_bot (den_ne q) (s1.2.mono (by decide)))]
  have : Rat.divInt (-q.num) q.den = -q := by
    conv => rhs; rw [← Rat.num_divInt_den q]
    rw [Rat.neg_divInt]
  rw [this]
/-- -1, 0 or 1 -/
def sgn (i : Int) : Int := (if 0 < i then 1 else 0) - (if i < 0 then 1 else 0)
theorem rCmp_is (hc : 0 ∈ cs) {d : D} {q r : Rat} (h : Num d r) (s1 : Sm 4000 q) (s2 : Sm 4000 r) : rCmp cs [ra q, d] M = .ok (.int (sgn (q.num * r.den - r.num * q.den))) M := by
  unfold rCmp runF
  rw [show start0 6 [ra q, d] = .d (ra q) :: .d d :: .mt :: .mt :: [.mt, .mt] from rfl, parts_asg (n := 0) hc h]
  have e1 := mul_ev (M := M) (fa := dFld "top" (dVar 0)) (fb := dVar 3) (ρ := [.d (ra q), .d d, .d (.int r.num), .d (.int r.den), .mt, .mt]) fld_top rfl s1.1 s2.2 (by decide)
  have e2 := mul_ev (M := M) (fa := dVar 2) (fb := dFld "bottom" (dVar 0)) (ρ := [.d (ra q), .d d, .d (.int r.num), .d (.int r.den), .mt, .mt]) rfl fld_bot s2.1 s1.2 (by decide)
  have e3 : (dPar 4 5 (aCons (d2 mulD (dFld "top" (dVar 0)) (dVar 3)) (aCons (d2 mulD (dVar 2) (dFld "bottom" (dVar 0))) aNil))) [.d (ra q), .d d, .d (.int r.num), .d (.int r.den), .mt, .mt] M = .nx [.d (ra q), .d d, .d (.int r.num), .d (.int r.den), .d (.int (q.num * r.den)), .d (.int (r.num * q.den))] M := by
    unfold dPar aCons aNil
    rw [e1]
    simp only [R.bind_ok]
    rw [e2]
    rfl
  rw [seq_nx e3]
  have e4 : ∀ b : Bool, intD2 [.bl b] M = .ok (.int (if b = true then 1 else 0)) M := fun b => by cases b <;> rfl
  rw [ret_of (M1 := M) (x := .int ((if decide (r.num * (q.den : Int) < q.num * r.den) = true then (1 : Int) else 0) - (if decide (q.num * r.den < r.num * (q.den : Int)) = true then (1 : Int) else 0))) ((d2_of ((cb1_of (x := .bl (decide (r.num * (q.den : Int) < q.num * r.den))) (M1 := M) rfl).trans (e4 _)) ((cb1_of (x := .bl (decide (q.num * r.den < r.num * (q.den : Int)))) (M1 := M) rfl).trans (e4 _))).trans (subI_int _ _))]
  unfold sgn
  simp only [decide_eq_true_eq]
  congr 3
  · split <;> split <;> omega
  · split <;> split <;> omega
/-- what == asks of the other value: a number, and which -/
theorem rEq_num (hc : 0 ∈ cs) {d : D} {q r : Rat} (h : Num d r) : rEq cs [ra q, d] M = .ok (.bl (decide (q = r))) M := by
  unfold rEq runF
  rw [show start0 4 [ra q, d] = .d (ra q) :: .d d :: .mt :: .mt :: [] from rfl]
  have e1 : (dIfS (dOr (dNot (dB (dIs cs [(.own 0), .int] (dVar 1)))) (dB (dIs cs [.bool] (dVar 1)))) (dRet (dC (.bl false))) dNext) (.d (ra q) :: .d d :: .mt :: .mt :: []) M = .nx (.d (ra q) :: .d d :: .mt :: .mt :: []) M := by
    cases h <;> simp [dIfS, dOr, dNot, dB, dIs, dVar, tagOf, okTy, okCl, isA, hc, ra, dNext]
  rw [seq_nx e1, parts_asg (n := 0) hc h]
  have e2 : (dAndV (d2 eqD (dFld "top" (dVar 0)) (dVar 2)) (d2 eqD (dFld "bottom" (dVar 0)) (dVar 3))) [.d (ra q), .d d, .d (.int r.num), .d (.int r.den)] M = .ok (.bl (decide (q = r))) M := by
    unfold dAndV
    rw [(d2_of fld_top rfl).trans (eqD_int _ _)]
    simp only [R.bind_ok]
    by_cases h1 : q.num = r.num
    · rw [decide_eq_true h1]
      show (d2 eqD (dFld "bottom" (dVar 0)) (dVar 3)) _ M = _
      rw [(d2_of fld_bot rfl).trans (eqD_int _ _)]
      congr 2
      refine decide_eq_decide.mpr ⟨fun e => Rat.ext h1 (by omega), fun e => by rw [e]⟩
    · rw [decide_eq_false h1, decide_eq_false (fun e => h1 (by rw [e]))]
      rfl
  rw [ret_of e2]
theorem rEq_no (hc : 0 ∈ cs) {d : D} {q : Rat} {τ : Ty} (h : tagOf M d = some τ) (ho : okTy cs τ = true) (hn : ([Cl.own 0, Cl.int].any (isA τ)) = false ∨ isA τ .bool = true) : rEq cs [ra q, d] M = .ok (.bl false) M := by
  unfold rEq runF
  rw [show start0 4 [ra q, d] = .d (ra q) :: .d d :: .mt :: .mt :: [] from rfl]
  have e1 : (dOr (dNot (dB (dIs cs [(.own 0), .int] (dVar 1)))) (dB (dIs cs [.bool] (dVar 1)))) (.d (ra q) :: .d d :: .mt :: .mt :: []) M = .ok true M := by
    have i1 : (dB (dIs cs [(.own 0), .int] (dVar 1))) (.d (ra q) :: .d d :: .mt :: .mt :: []) M = .ok ([Cl.own 0, Cl.int].any (isA τ)) M := dB_of (by
      simp [dIs, dVar, h, ho, okCl, hc])
    have i2 : (dB (dIs cs [.bool] (dVar 1))) (.d (ra q) :: .d d :: .mt :: .mt :: []) M = .ok (isA τ .bool) M := dB_of (by
      simp [dIs, dVar, h, ho, okCl])
    unfold dOr dNot
    rw [i1]
    simp only [R.bind_ok]
    rcases hn with z | z
    · rw [z]; rfl
    · cases ([Cl.own 0, Cl.int].any (isA τ)) with
      | false => rfl
      | true =>
        rw [if_neg (by decide), i2, z]
  rw [seq_rt ((if_t e1).trans rfl)]
end
end DL
set_option maxRecDepth 100000
/-! The functions that the laws share: pairs of rational numbers. -/
namespace DL
open PySem L2
noncomputable def lGcd : FN := runF 3 pGcd
noncomputable def lQ : FN := runF 3 (dSeq (dSet 2 (dCall (lenIs 2 lGcd) [] (aCons (dVar 0) (aCons (dVar 1) aNil))))
  (dSeq (dIfS (dB (d2 ltI (dVar 1) (dC (.int 0)))) (dSet 2 (d1 negI (dVar 2))) dNext)
  (dRet (dTup (aCons (d2 divI (dVar 0) (dVar 2)) (aCons (d2 divI (dVar 1) (dVar 2)) aNil))))))
abbrev it (i : Nat) (k : Int) : FE := d2 itemD (dVar i) (dC (.int k))
noncomputable def lPlus : FN := runF 2 (dRet (dCall (lenIs 2 lQ) [] (aCons (d2 addD (d2 mulD (it 0 0) (it 1 1)) (d2 mulD (it 1 0) (it 0 1))) (aCons (d2 mulD (it 0 1) (it 1 1)) aNil))))
noncomputable def lMinus : FN := runF 2 (dRet (dCall (lenIs 2 lQ) [] (aCons (d2 subI (d2 mulD (it 0 0) (it 1 1)) (d2 mulD (it 1 0) (it 0 1))) (aCons (d2 mulD (it 0 1) (it 1 1)) aNil))))
noncomputable def lTimes : FN := runF 2 (dRet (dCall (lenIs 2 lQ) [] (aCons (d2 mulD (it 0 0) (it 1 0)) (aCons (d2 mulD (it 0 1) (it 1 1)) aNil))))
noncomputable def lSign : FN := runF 1 (dRet (d2 subI (dCB intD2 (aCons (d2 gtI (it 0 0) (dC (.int 0))) aNil)) (dCB intD2 (aCons (d2 ltI (it 0 0) (dC (.int 0))) aNil))))
noncomputable def lIsR (cs : List Nat) : FN := runF 4
  (dSeq (dIfS (dNot (dB (dIs cs [(.own 0)] (dVar 0)))) (dRet (dC (.bl false))) dNext)
  (dSeq (dSet 2 (dLst (aCons (dFld "top" (dVar 0)) (aCons (dFld "bottom" (dVar 0)) aNil))))
  (dSeq (dIfS (dB (d2 neD (dL (dComp (iSeq (dVar 2)) [3] (gN 3) (dOr (dNot (dB (dIs cs [.int] (dVar 3)))) (dB (dIs cs [.bool] (dVar 3)))) (dVar 3))) (dLst aNil))) (dRet (dC (.bl false))) dNext)
  (dRet (d2 eqD (dTup (aCons (dFld "top" (dVar 0)) (aCons (dFld "bottom" (dVar 0)) aNil))) (dVar 1))))))
section
variable {M : List MO} {cs : List Nat}
/-- a call of two arguments -/
theorem call2_ev {F : FN} {fa fb : FE} {ρ : List Sl} {x y : D} {M1 M2 : List MO} (h1 : fa ρ M = .ok x M1) (h2 : fb ρ M1 = .ok y M2) : dCall (lenIs 2 F) [] (aCons fa (aCons fb aNil)) ρ M = F [x, y] M2 := by
  unfold dCall aCons aNil
  rw [h1]
  simp only [R.bind_ok]
  rw [h2]
  rfl
theorem call1_ev {F : FN} {fa : FE} {ρ : List Sl} {x : D} {M1 : List MO} (h1 : fa ρ M = .ok x M1) : dCall (lenIs 1 F) [] (aCons fa aNil) ρ M = F [x] M1 := by
  unfold dCall aCons aNil
  rw [h1]
  rfl
theorem call3_ev {F : FN} {fa fb fc : FE} {ρ : List Sl} {x y z : D} {M1 M2 M3 : List MO} (h1 : fa ρ M = .ok x M1) (h2 : fb ρ M1 = .ok y M2) (h3 : fc ρ M2 = .ok z M3) : dCall (lenIs 3 F) [] (aCons fa (aCons fb (aCons fc aNil))) ρ M = F [x, y, z] M3 := by
  unfold dCall aCons aNil
  rw [h1]
  simp only [R.bind_ok]
  rw [h2]
  simp only [R.bind_ok]
  rw [h3]
  rfl
theorem lGcd_is (t b : Int) (h : Sz 9000 b) : lGcd [.int t, .int b] M = .ok (.int (Int.gcd t b : Nat)) M := by
  unfold lGcd
  exact gcd_is t b M (Nat.lt_of_lt_of_le h (Nat.pow_le_pow_right (by decide) (by decide)))
theorem Sz.pow {i : Int} (h : Sz 9000 i) : i.natAbs < 2 ^ 29000 := Nat.lt_of_lt_of_le h (Nat.pow_le_pow_right (by decide) (by decide))
theorem lQ_is (t b : Int) (hb : b ≠ 0) (hs : Sz 9000 b) : lQ [.int t, .int b] M = .ok (pr (Rat.divInt t b)) M := by
  unfold lQ runF
  rw [show start0 3 [.int t, .int b] = [.d (.int t), .d (.int b), .mt] from rfl]
  obtain ⟨c1, c2⟩ := cut_num t b hb
  generalize hby : (if b < 0 then -(Int.gcd t b : Int) else (Int.gcd t b : Int)) = by_ at *
  have g0 : Int.gcd t b ≠ 0 := by
    have := Int.gcd_pos_of_ne_zero_right t hb
    omega
  have b0 : by_ ≠ 0 := by rw [← hby]; split <;> omega
  have bs : by_.natAbs < 2 ^ 9000 := by
    have h1 : by_.natAbs = Int.gcd t b := by rw [← hby]; split <;> omega
    rw [h1]
    exact Nat.lt_of_le_of_lt (Nat.le_of_dvd (by omega) (by rw [← Int.natCast_dvd_natCast]; exact Int.dvd_trans (Int.gcd_dvd_right ..) (by exact Int.dvd_natAbs.mpr (Int.dvd_refl b)))) hs
  have hc : (dCall (lenIs 2 lGcd) [] (aCons (dVar 0) (aCons (dVar 1) aNil))) [.d (.int t), .d (.int b), .mt] M = .ok (.int (Int.gcd t b : Nat)) M := (call2_ev (x := .int t) (y := .int b) (M1 := M) (M2 := M) rfl rfl).trans (lGcd_is t b hs)
  have hset : (dSet 2 (dCall (lenIs 2 lGcd) [] (aCons (dVar 0) (aCons (dVar 1) aNil)))) [.d (.int t), .d (.int b), .mt] M = .nx [.d (.int t), .d (.int b), .d (.int (Int.gcd t b : Nat))] M := (set_of (i := 2) hc).trans rfl
  rw [seq_nx hset]
  have e2 : (dIfS (dB (d2 ltI (dVar 1) (dC (.int 0)))) (dSet 2 (d1 negI (dVar 2))) dNext) [.d (.int t), .d (.int b), .d (.int (Int.gcd t b : Nat))] M = .nx [.d (.int t), .d (.int b), .d (.int by_)] M := by
    have hg : (dB (d2 ltI (dVar 1) (dC (.int 0)))) [.d (.int t), .d (.int b), .d (.int (Int.gcd t b : Nat))] M = .ok (decide (b < 0)) M := dB_of rfl
    by_cases h : b < 0
    · rw [decide_eq_true h] at hg
      rw [if_t hg, ← hby, if_pos h]
      rfl
    · rw [decide_eq_false h] at hg
      rw [if_f hg, ← hby, if_neg h]
      rfl
  rw [seq_nx e2]
  have h1 : (d2 divI (dVar 0) (dVar 2)) [.d (.int t), .d (.int b), .d (.int by_)] M = .ok (.int (t.fdiv by_)) M := (d2_of rfl rfl).trans (divI_big b0 bs)
  have h2 : (d2 divI (dVar 1) (dVar 2)) [.d (.int t), .d (.int b), .d (.int by_)] M = .ok (.int (b.fdiv by_)) M := (d2_of rfl rfl).trans (divI_big b0 bs)
  have h3 : (dTup (aCons (d2 divI (dVar 0) (dVar 2)) (aCons (d2 divI (dVar 1) (dVar 2)) aNil))) [.d (.int t), .d (.int b), .d (.int by_)] M = .ok (pr (Rat.divInt t b)) M := by
    unfold dTup aCons aNil pr
    rw [h1]
    simp only [R.bind_ok]
    rw [h2, c1, c2]
    rfl
  rw [ret_of h3]
theorem it00 {q : Rat} {ρ : List Sl} : (it 0 0) (.d (pr q) :: ρ) M = .ok (.int q.num) M := rfl
theorem it01 {q : Rat} {ρ : List Sl} : (it 0 1) (.d (pr q) :: ρ) M = .ok (.int q.den) M := rfl
theorem it10 {q : Rat} {s : Sl} {ρ : List Sl} : (it 1 0) (s :: .d (pr q) :: ρ) M = .ok (.int q.num) M := rfl
theorem it11 {q : Rat} {s : Sl} {ρ : List Sl} : (it 1 1) (s :: .d (pr q) :: ρ) M = .ok (.int q.den) M := rfl
theorem lPlus_is {q r : Rat} (s1 : Sm 4000 q) (s2 : Sm 4000 r) : lPlus [pr q, pr r] M = .ok (pr (q + r)) M := by
  unfold lPlus runF
  rw [show start0 2 [pr q, pr r] = [.d (pr q), .d (pr r)] from rfl]
  rw [ret_of ((call2_ev ((d2_of (mul_ev it00 it11 s1.1 s2.2 (by decide)) (mul_ev it10 it01 s2.1 s1.2 (by decide))).trans (addD_int _ _)) (mul_ev it01 it11 s1.2 s2.2 (by decide))).trans (lQ_is _ _ (den_mul q r) ((s1.2.mul s2.2).mono (by decide)))), rat_add]
theorem lMinus_is {q r : Rat} (s1 : Sm 4000 q) (s2 : Sm 4000 r) : lMinus [pr q, pr r] M = .ok (pr (q - r)) M := by
  unfold lMinus runF
  rw [show start0 2 [pr q, pr r] = [.d (pr q), .d (pr r)] from rfl]
  rw [ret_of ((call2_ev ((d2_of (mul_ev it00 it11 s1.1 s2.2 (by decide)) (mul_ev it10 it01 s2.1 s1.2 (by decide))).trans (subI_int _ _)) (mul_ev it01 it11 s1.2 s2.2 (by decide))).trans (lQ_is _ _ (den_mul q r) ((s1.2.mul s2.2).mono (by decide)))), rat_sub]
theorem lTimes_is {q r : Rat} (s1 : Sm 4000 q) (s2 : Sm 4000 r) : lTimes [pr q, pr r] M = .ok (pr (q * r)) M := by
  unfold lTimes runF
  rw [show start0 2 [pr q, pr r] = [.d (pr q), .d (pr r)] from rfl]
  rw [ret_of ((call2_ev (mul_ev it00 it10 s1.1 s2.1 (by decide)) (mul_ev it01 it11 s1.2 s2.2 (by decide))).trans (lQ_is _ _ (den_mul q r) ((s1.2.mul s2.2).mono (by decide)))), rat_mul]
theorem b2i (b : Bool) : intD2 [.bl b] M = .ok (.int (if b = true then 1 else 0)) M := by cases b <;> rfl
theorem lSign_is (q : Rat) : lSign [pr q] M = .ok (.int (sgn q.num)) M := by
  unfold lSign runF
  rw [show start0 1 [pr q] = [.d (pr q)] from rfl]
  rw [ret_of (M1 := M) (x := .int ((if decide (0 < q.num) = true then (1 : Int) else 0) - (if decide (q.num < 0) = true then (1 : Int) else 0))) ((d2_of ((cb1_of (x := .bl (decide (0 < q.num))) (M1 := M) rfl).trans (b2i _)) ((cb1_of (x := .bl (decide (q.num < 0))) (M1 := M) rfl).trans (b2i _))).trans (subI_int _ _))]
  unfold sgn
  simp only [decide_eq_true_eq]
theorem pr_eq (q r : Rat) : eqD (pr q) (pr r) M = .ok (.bl (decide (q = r))) M := by
  unfold pr
  rw [eqD_of (pyEq_tt _ _ _ _)]
  congr 2
  rw [← Bool.decide_and]
  exact decide_eq_decide.mpr ⟨fun h => Rat.ext h.1 (by omega), fun h => by rw [h]; exact ⟨rfl, rfl⟩⟩
theorem eq_nil : eqD (.lst []) (.lst []) M = .ok (.bl true) M := eqD_of ((pyEq_of rfl rfl rfl rfl).trans rfl)
theorem ne_nil : neD (.lst []) (.lst []) M = .ok (.bl false) M := neD_of (k := true) ((pyEq_of rfl rfl rfl rfl).trans rfl)
theorem lIsR_is (hc : 0 ∈ cs) (q r : Rat) : lIsR cs [ra q, pr r] M = .ok (.bl (decide (q = r))) M := by
  unfold lIsR runF
  rw [show start0 4 [ra q, pr r] = [.d (ra q), .d (pr r), .mt, .mt] from rfl]
  have e1 : (dIfS (dNot (dB (dIs cs [(.own 0)] (dVar 0)))) (dRet (dC (.bl false))) dNext) [.d (ra q), .d (pr r), .mt, .mt] M = .nx [.d (ra q), .d (pr r), .mt, .mt] M := by
    simp [dIfS, dNot, dB, dIs, dVar, tagOf, okTy, okCl, isA, hc, ra, dNext]
  rw [seq_nx e1]
  have e2 : (dSet 2 (dLst (aCons (dFld "top" (dVar 0)) (aCons (dFld "bottom" (dVar 0)) aNil)))) [.d (ra q), .d (pr r), .mt, .mt] M = .nx [.d (ra q), .d (pr r), .d (.lst [.int q.num, .int q.den]), .mt] M := rfl
  rw [seq_nx e2]
  have e3 : (dIfS (dB (d2 neD (dL (dComp (iSeq (dVar 2)) [3] (gN 3) (dOr (dNot (dB (dIs cs [.int] (dVar 3)))) (dB (dIs cs [.bool] (dVar 3)))) (dVar 3))) (dLst aNil))) (dRet (dC (.bl false))) dNext) [.d (ra q), .d (pr r), .d (.lst [.int q.num, .int q.den]), .mt] M = .nx [.d (ra q), .d (pr r), .d (.lst [.int q.num, .int q.den]), .mt] M := by
    have c : (dL (dComp (iSeq (dVar 2)) [3] (gN 3) (dOr (dNot (dB (dIs cs [.int] (dVar 3)))) (dB (dIs cs [.bool] (dVar 3)))) (dVar 3))) [.d (ra q), .d (pr r), .d (.lst [.int q.num, .int q.den]), .mt] M = .ok (.lst []) M := rfl
    exact (if_f (dB_of ((d2_of c rfl).trans ne_nil))).trans rfl
  rw [seq_nx e3]
  rw [ret_of ((d2_of (x := pr q) (y := pr r) (M1 := M) (M2 := M) rfl rfl).trans (pr_eq q r))]
end
end DL
set_option maxRecDepth 100000
namespace DL
open PySem L2
section
variable {M : List MO} {cs : List Nat}
theorem chk {c : FT} {f : FS} {ρ : List Sl} {M1 : List MO} (h : c ρ M = .ok false M1) : dIfS c f dNext ρ M = .nx ρ M1 := (if_f h).trans rfl
theorem not_of {c : FT} {ρ : List Sl} {M1 : List MO} {b : Bool} (h : c ρ M = .ok b M1) : dNot c ρ M = .ok (!b) M1 := by unfold dNot; rw [h]; rfl
/-- not: a call that tells True -/
theorem nt {f : FE} {ρ : List Sl} {M1 : List MO} (h : f ρ M = .ok (.bl true) M1) : dNot (dB f) ρ M = .ok false M1 := not_of (dB_of h)
theorem nor {a b : FT} {ρ : List Sl} {M1 M2 : List MO} (h : a ρ M = .ok false M1) (g : b ρ M1 = .ok false M2) : dOr a b ρ M = .ok false M2 := or_f h g
theorem meth1_ev {m : Str} {F : FN} {fo fa : FE} {ρ : List Sl} {x d : D} {M1 M2 : List MO} {c : Nat} (h1 : fo ρ M = .ok x M1) (hi : isIns c m M1 x = true) (h2 : fa ρ M1 = .ok d M2) : dMethC c m (lenIs 2 F) [] fo (aCons fa aNil) ρ M = F [x, d] M2 := by
  unfold dMethC aCons aNil
  rw [h1]
  simp only [R.bind_ok]
  rw [if_pos hi, h2]
  rfl
theorem ownOp_ra {F : FN} {g : D → D → List MO → R D} {q : Rat} {d : D} (h : okArg 0 d = true) : ownOp 0 F g (ra q) d M = F [ra q, d] M := by
  unfold ownOp ra
  simp only [if_pos, h]
  rfl
theorem ownUn_ra {F : FN} {g : D → List MO → R D} {q : Rat} : ownUn 0 F g (ra q) M = F [ra q] M := rfl
theorem ownCmp_ra {F : FN} {g : D → D → List MO → R D} {q : Rat} {d : D} {τ : Ty} (h : tagOf M d = some τ) (ho : okTy cs τ = true) : ownCmp cs 0 F g (ra q) d M = F [ra q, d] M := by
  unfold ownCmp ra
  simp only [h, ho, if_pos]
  rfl
theorem Num.tag {d : D} {q : Rat} (h : Num d q) (hc : 0 ∈ cs) : ∃ τ, tagOf M d = some τ ∧ okTy cs τ = true := by
  cases h with
  | ra q => exact ⟨.cls 0, rfl, by simpa [okTy] using hc⟩
  | int i => exact ⟨.int, rfl, rfl⟩
theorem Sm.divInt {k : Nat} {t b : Int} (hb : b ≠ 0) (h1 : Sz k t) (h2 : Sz k b) : Sm k (Rat.divInt t b) := by
  constructor
  · unfold Sz at *
    rw [Rat.num_divInt, Int.natAbs_ediv_of_dvd (Int.dvd_trans (Int.gcd_dvd_right ..) (Int.dvd_mul_left ..))]
    refine Nat.lt_of_le_of_lt (Nat.div_le_self _ _) ?_
    rw [Int.natAbs_mul, Int.natAbs_sign, if_neg hb, Nat.one_mul]
    exact h1
  · unfold Sz at *
    rw [Rat.den_divInt, if_neg hb]
    exact Nat.lt_of_le_of_lt (Nat.div_le_self _ _) h2
theorem Sm.int {k : Nat} {i : Int} (h : Sz k i) (hk : 0 < k) : Sm k (i : Rat) := by
  refine ⟨h, ?_⟩
  show ((i : Rat).den : Int).natAbs < 2 ^ k
  rw [Rat.den_intCast]
  exact Nat.one_lt_two_pow (by omega)
theorem Sm.sub {k : Nat} {q r : Rat} (h : Sm k q) (g : Sm k r) : Sm (k + k + 1) (q - r) := by
  rw [← rat_sub]
  exact Sm.divInt (den_mul q r) ((h.1.mul g.2).sub ((g.1.mul h.2))) ((h.2.mul g.2).mono (by omega))
theorem Sm.add {k : Nat} {q r : Rat} (h : Sm k q) (g : Sm k r) : Sm (k + k + 1) (q + r) := by
  rw [← rat_add]
  exact Sm.divInt (den_mul q r) ((h.1.mul g.2).add ((g.1.mul h.2))) ((h.2.mul g.2).mono (by omega))
theorem Sm.mul {k : Nat} {q r : Rat} (h : Sm k q) (g : Sm k r) : Sm (k + k) (q * r) := by
  rw [← rat_mul]
  exact Sm.divInt (den_mul q r) (h.1.mul g.1) (h.2.mul g.2)
theorem sgn_mul_pos (x : Int) (g : Int) (h : 0 < g) : sgn (x * g) = sgn x := by
  unfold sgn
  by_cases h1 : 0 < x
  · have : 0 < x * g := Int.mul_pos h1 h
    rw [if_pos h1, if_pos this, if_neg (by omega), if_neg (by omega)]
  · by_cases h2 : x < 0
    · have : x * g < 0 := Int.mul_neg_of_neg_of_pos h2 h
      rw [if_neg h1, if_neg (by omega), if_pos h2, if_pos this]
    · have : x = 0 := by omega
      subst this
      rw [Int.zero_mul]
/-- the order of two ratios is the sign of their difference -/
theorem sgn_sub (q r : Rat) : sgn (q - r).num = sgn (q.num * r.den - r.num * q.den) := by
  rw [← rat_sub]
  generalize hX : q.num * (r.den : Int) - r.num * q.den = X
  have hd : 0 < (q.den : Int) * (r.den : Int) := Int.mul_pos (by have := q.den_pos; omega) (by have := r.den_pos; omega)
  have hg : 0 < (Int.gcd ((q.den : Int) * r.den) X : Int) := by
    have := Int.gcd_pos_of_ne_zero_left X (den_mul q r)
    omega
  rw [Rat.num_divInt, Int.sign_eq_one_of_pos hd, Int.one_mul]
  have hdv : (Int.gcd ((q.den : Int) * r.den) X : Int) ∣ X := Int.gcd_dvd_right ..
  obtain ⟨y, hy⟩ := hdv
  generalize (Int.gcd ((q.den : Int) * r.den) X) = g at *
  rw [hy, Int.mul_ediv_cancel_left _ (by omega), Int.mul_comm, sgn_mul_pos _ _ hg]
theorem sgn_zero (q r : Rat) : sgn (q.num * r.den - r.num * q.den) = 0 ↔ q = r := by
  rw [← sgn_sub]
  have h : ∀ i : Int, sgn i = 0 ↔ i = 0 := fun i => by unfold sgn; split <;> split <;> omega
  rw [h, Rat.num_eq_zero]
  exact ⟨fun e => by grind, fun e => by grind⟩
theorem lst3_eq (a b c : Bool) : eqD (.lst [.bl a, .bl b, .bl c]) (.lst [.bl a, .bl b, .bl c]) M = .ok (.bl true) M := by
  cases a <;> cases b <;> cases c <;> exact eqD_of (k := true) ((pyEq_of rfl rfl rfl rfl).trans rfl)
theorem ac {f : FE} {g : FA} {ρ : List Sl} {d : D} {ds : List D} {M1 M2 : List MO} (h : f ρ M = .ok d M1) (k : g ρ M1 = .ok ds M2) : aCons f g ρ M = .ok (d :: ds) M2 := by
  unfold aCons
  rw [h, R.bind_ok, k]
  rfl
theorem an {ρ : List Sl} : aNil ρ M = .ok [] M := rfl
theorem lst_ev {fa : FA} {ρ : List Sl} {ds : List D} {M1 : List MO} (h : fa ρ M = .ok ds M1) (hs : szOk ds.length = true) : dLst fa ρ M = .ok (.lst ds) M1 := by
  unfold dLst
  rw [h, R.bind_ok, if_pos hs]
theorem tup_ev {fa : FA} {ρ : List Sl} {ds : List D} {M1 : List MO} (h : fa ρ M = .ok ds M1) (hs : szOk ds.length = true) : dTup fa ρ M = .ok (.tup ds) M1 := by
  unfold dTup
  rw [h, R.bind_ok, if_pos hs]
theorem par_ev {i j : Nat} {fa : FA} {ρ : List Sl} {a b : D} {M1 : List MO} (h : fa ρ M = .ok [a, b] M1) : dPar i j fa ρ M = .nx ((ρ.set i (.d a)).set j (.d b)) M1 := by
  unfold dPar
  rw [h]
  rfl
theorem asg_ev {f : FE} {g : TGt} {ρ ρ1 : List Sl} {d : D} {M1 M2 : List MO} (h : f ρ M = .ok d M1) (k : g d ρ M1 = some (ρ1, M2)) : dAsg f g ρ M = .nx ρ1 M2 := by
  unfold dAsg
  rw [h]
  simp only [R.sbind_ok]
  rw [k]
theorem if_ev {c : FT} {f g : FE} {ρ : List Sl} {b : Bool} {M1 : List MO} (h : c ρ M = .ok b M1) : dIf c f g ρ M = if b = true then f ρ M1 else g ρ M1 := by
  unfold dIf
  rw [h]
  rfl
theorem fn_rt {n : Nat} {f : FS} {ds : List D} {d : D} {M1 : List MO} (h : f (start0 n ds) M = .rt d M1) : runF n f ds M = .ok d M1 := by
  unfold runF
  rw [h]
theorem d1_ev {g : D → List MO → R D} {f : FE} {ρ : List Sl} {x : D} {M1 : List MO} (h : f ρ M = .ok x M1) : d1 g f ρ M = g x M1 := by
  unfold d1
  rw [h, R.bind_ok]
end
end DL
set_option maxRecDepth 100000
/-! The end where the law makes lambdas; own operators' facts. -/
namespace DL
open PySem PySem.Spec PyProof.Rows L2
section
variable {Γ : Gam} {K : PySem.W.Frag}
theorem nf_of {cs : List Nat} {c : Nat} (h : ∀ c', cs.contains c' = true → c' = c ∨ PySem.W.mroIn K (Γ.cA c') (.ref (Γ.cA c)) = some false) : ∀ τ, okTy cs τ = true → PySem.W.notFirst K (Γ.cA c) (tyVal Γ τ) = true := fun τ hτ => by
  cases τ with
  | cls c' =>
    rcases h c' hτ with e | e
    · subst e
      unfold PySem.W.notFirst
      simp [tyVal]
    · unfold PySem.W.notFirst
      show (_ || PySem.W.mroIn K (Γ.cA c') (.ref (Γ.cA c)) == some false) = true
      rw [e]; simp
  | non => kernel_rfl
  | bool => kernel_rfl
  | int => kernel_rfl
  | str => kernel_rfl
  | tup => kernel_rfl
  | lst => kernel_rfl
  | dic => kernel_rfl
def spLawU (K : PySem.W.Frag) (P : Addr) : Sp := fun vs H Q _ => ∃ (a : Addr) (ns : List Int), vs = [.ref a] ∧ SqL K H a (ns.map V.int) ∧ ns.length ≤ 63 ∧ (∀ z ∈ ns, Builtin.Int.intBits z ≤ 1048576) ∧ H P = some (.tbl #[]) ∧ ∀ H', Q (.bl true) H'
def LawOkU (q : Str) (F : FN) : Prop := ∀ ns : List Int, ns.length ≤ 63 → (∀ z ∈ ns, Builtin.Int.intBits z ≤ 1048576) → ∃ M, F [.rol (ns.map D.int)] [.tab q] = .ok (.bl true) M
theorem spLawU_of {F : FN} {q : Str} {P : Addr} (hF : LawOkU q F) (hK : Γ.K = K) (hP : Γ.tb q = P) {vs : List V} {H : Hp} {Q : VK} {E : XK} (h : spLawU K P vs H Q E) : spF Γ 1 F vs H Q E := by
  obtain ⟨a, ns, rfl, hs, hl, hb, ht, qq⟩ := h
  obtain ⟨M', e⟩ := hF ns hl hb
  have hs' : SqL K (fun b => if b = P then none else H b) a (ns.map V.int) := by
    rcases hs with (z | ⟨o, z⟩) | z
    · exact .inl (.inl ((if_neg fun e => by rw [e, ht] at z; cases z).trans z))
    · exact .inl (.inr ⟨o, (if_neg fun e => by rw [e, ht] at z; cases z).trans z⟩)
    · exact .inr z
  refine ⟨[P], fun b => if b = P then none else H b, [.tab q], [.rol (ns.map D.int)], ⟨fun b o z => ?_, Le.refl _, List.prefix_refl _, fun _ m => m, fun _ _ z _ => z, fun b o z => ⟨o, z⟩, fun _ _ z => .inl z, rfl, by simp, fun n b m h1 h2 h3 => ?_, fun _ m => .inl m, fun b m => ?_⟩,
    RepL.cons ⟨a, _, rfl, by rw [hK]; exact hs', ints_repL ns⟩ RepL.nil, rfl, ?_⟩
  · by_cases eb : b = P
    · rw [if_pos eb] at z; cases z
    · rw [if_neg eb] at z; exact z
  · cases n with
    | zero =>
      cases h1; cases h2
      refine ⟨if_pos rfl, ⟨_, ht⟩, hP.symm, #[], ht, True.intro, fun pos cv z => ?_⟩
      have z : codeAmong pos [] = some cv := z
      simp [codeAmong] at z
    | succ n => simp at h1
  · rw [List.mem_singleton.mp m]; exact ⟨_, ht⟩
  · rw [e]
    intro as' G' H' v _ r
    cases r
    exact qq H'
theorem walkU {l : PySem.W.OpenLaw} {q : Program} {loose : List Str} {XP : (Str → Option Value) → Heap → Prop} {YP : World → Heap → Prop} {d : DefRec} {K : Params → PySem.W.Frag} {k : Nat} {x : Str} (hn : l.most = some 63) (hdf : d.params.defaults = []) (hr : Room k callerA)
    (hrec : ((recsOf q).any fun e => e.name == d.name) = true) (hY : ∀ (w : World) (h : Heap), YP w h → (K w.params).In h)
    (F : ∀ (w : World) (mg : Str → Option Value) (fa : Addr) (h : Heap), (K w.params).In h → h.Ns mainGlobals mg → mg d.name = some (.ref fa) →
      ∃ (fd : FuncData) (o : Obj) (c P : Addr) (e : Value) (dd : Option Addr) (vs : Array Value) (sl : Array (Option Value)), (K w.params).lookup fa = some o ∧ o.data = .func fd ∧ fd.code = .ref c ∧ (K w.params).lookup c = some ⟨e, dd, .fields vs, sl⟩ ∧ vs[11]? = some (.ref P) ∧
        PySem.W.codeHdIn (K w.params) c P = true ∧ (K w.params).lookup P = none ∧ (∀ (s : Shared) (u : Value), BindsTo s fd ⟨[u], []⟩ [(x, u)]) ∧
        ∀ base : Heap, (K w.params).In base → base.Ns mainGlobals mg → LamX.TabB base mg c P → FnOk l.prog w (K w.params) mg base (L2.CX l.prog w) k fa fd [x] (spLawU (K w.params) P)) :
    PySem.W.WalkO q loose XP YP l.row.toRowW d [] (fun f vs => PySem.call f vs) := by
  refine LamX.walk_ofOwn (n := 63) (k := k) (x := x) (CX := fun w => L2.CX l.prog w) hn (by decide) hdf hr hrec hY (fun w mg fa h Y KX G hmg own => ?_) (fun _ _ _ _ _ ⟨_, _, _, _, _, _, _, _, _, _, _, _, z⟩ => z.elim)
  obtain ⟨fd, o, c, P, e, dd, vs, sl, k1, k2, k3, k4, k5, k6, k7, hb, hF⟩ := F w mg fa h KX G hmg
  have tb := own c P o fd e dd vs sl k1 k2 k3 k4 k5
  refine ⟨fd, [(c, P)], spLawU (K w.params) P, fun p m => ?_, fun p m => ?_, fun p m => ?_, hb, fun H a ns hl hbt hT hS => ⟨a, ns, rfl, hS, hl, hbt, hT (c, P) (List.mem_singleton.mpr rfl), fun _ => rfl⟩, fun base kb gb hT => hF base kb gb (hT (c, P) (List.mem_singleton.mpr rfl))⟩
  · rw [List.mem_singleton.mp m]; exact tb
  · rw [List.mem_singleton.mp m]; exact k7
  · rw [List.mem_singleton.mp m]; exact PySem.W.codeHd_of_K KX k6
end
end DL
set_option maxRecDepth 100000
set_option maxHeartbeats 4000000
namespace LW
open PySem PySem.Spec PyProof.Rows L2 DL
def top (i : Nat) : Stmt := PySem.Challenge.pw_hingeworks_k00_ratios.main.body.getD i (.Pass ⟨0, 0, 0, 0⟩)
abbrev XS : List Nat := [3]
abbrev s_divisor_of : Stmt := top 5
abbrev N_divisor_of : List Str := ["one", "two"]
theorem sc_divisor_of : FnScope N_divisor_of ["one", "two"] (defScope s_divisor_of) := ⟨rfl, rfl, rfl, by decide +kernel, rfl, by decide +kernel, by decide +kernel⟩
noncomputable def b_divisor_of : FS :=
  (dSeq (dPar 0 1 (aCons (dCB absD (aCons (dVar 0) aNil)) (aCons (dCB absD (aCons (dVar 1) aNil)) aNil)))
  (dSeq (dWhile (dB (d2 neD (dVar 1) (dC (.int 0)))) (dPar 0 1 (aCons (dVar 1) (aCons (d2 modI (dVar 0) (dVar 1)) aNil))))
  (dRet (dVar 0))))
noncomputable def F_divisor_of : FN := runF 2 b_divisor_of
abbrev s_parts_of : Stmt := top 6
abbrev N_parts_of : List Str := ["value"]
theorem sc_parts_of : FnScope N_parts_of ["value"] (defScope s_parts_of) := ⟨rfl, rfl, rfl, by decide +kernel, rfl, by decide +kernel, by decide +kernel⟩
noncomputable def b_parts_of : FS :=
  (dRet (dIf (dB (dIs [0] [(.own 0)] (dVar 0))) (dTup (aCons (dFld "top" (dVar 0)) (aCons (dFld "bottom" (dVar 0)) aNil))) (dTup (aCons (dVar 0) (aCons (dC (.int 1)) aNil)))))
noncomputable def F_parts_of : FN := runF 1 b_parts_of
abbrev s_Ratio___init__ : Stmt := inClass (top 7) 0
abbrev N_Ratio___init__ : List Str := ["self", "top", "bottom", "by"]
theorem sc_Ratio___init__ : FnScope N_Ratio___init__ ["self", "top", "bottom"] (defScope s_Ratio___init__) := ⟨rfl, rfl, rfl, by decide +kernel, rfl, by decide +kernel, by decide +kernel⟩
noncomputable def b_Ratio___init__ : FS :=
  (dSeq (dIfS (dB (d2 eqD (dVar 2) (dC (.int 0)))) (dRaise 3 (aCons (dC (.str "bottom")) (aCons (dC (.int 0)) aNil))) dNext)
  (dSeq (dSet 3 (dIf (dB (d2 gtI (dVar 2) (dC (.int 0)))) (dCall (lenIs 2 F_divisor_of) [] (aCons (dVar 1) (aCons (dVar 2) aNil))) (d1 negI (dCall (lenIs 2 F_divisor_of) [] (aCons (dVar 1) (aCons (dVar 2) aNil))))))
  (dAsg (dTup (aCons (d2 divI (dVar 1) (dVar 3)) (aCons (d2 divI (dVar 2) (dVar 3)) aNil))) (gTupT 2 (gsCons (gSelf "top") (gsCons (gSelf "bottom") gsNil))))))
noncomputable def F_Ratio___init__ : List D → List MO → R (List D) := runI 0 3 b_Ratio___init__
abbrev s_Ratio___add__ : Stmt := inClass (top 7) 2
abbrev N_Ratio___add__ : List Str := ["self", "other", "top", "bottom"]
theorem sc_Ratio___add__ : FnScope N_Ratio___add__ ["self", "other"] (defScope s_Ratio___add__) := ⟨rfl, rfl, rfl, by decide +kernel, rfl, by decide +kernel, by decide +kernel⟩
noncomputable def b_Ratio___add__ : FS :=
  (dSeq (dAsg (dCall (lenIs 1 F_parts_of) [] (aCons (dVar 1) aNil)) (gTupT 2 (gsCons (gN 2) (gsCons (gN 3) gsNil))))
  (dRet (dMake 0 2 F_Ratio___init__ [] (aCons (d2 addD (d2 mulD (dFld "top" (dVar 0)) (dVar 3)) (d2 mulD (dVar 2) (dFld "bottom" (dVar 0)))) (aCons (d2 mulD (dFld "bottom" (dVar 0)) (dVar 3)) aNil)))))
noncomputable def F_Ratio___add__ : FN := runF 4 b_Ratio___add__
abbrev s_Ratio___sub__ : Stmt := inClass (top 7) 3
abbrev N_Ratio___sub__ : List Str := ["self", "other", "top", "bottom"]
theorem sc_Ratio___sub__ : FnScope N_Ratio___sub__ ["self", "other"] (defScope s_Ratio___sub__) := ⟨rfl, rfl, rfl, by decide +kernel, rfl, by decide +kernel, by decide +kernel⟩
noncomputable def b_Ratio___sub__ : FS :=
  (dSeq (dAsg (dCall (lenIs 1 F_parts_of) [] (aCons (dVar 1) aNil)) (gTupT 2 (gsCons (gN 2) (gsCons (gN 3) gsNil))))
  (dRet (dMake 0 2 F_Ratio___init__ [] (aCons (d2 subI (d2 mulD (dFld "top" (dVar 0)) (dVar 3)) (d2 mulD (dVar 2) (dFld "bottom" (dVar 0)))) (aCons (d2 mulD (dFld "bottom" (dVar 0)) (dVar 3)) aNil)))))
noncomputable def F_Ratio___sub__ : FN := runF 4 b_Ratio___sub__
abbrev s_Ratio___mul__ : Stmt := inClass (top 7) 4
abbrev N_Ratio___mul__ : List Str := ["self", "other", "top", "bottom"]
theorem sc_Ratio___mul__ : FnScope N_Ratio___mul__ ["self", "other"] (defScope s_Ratio___mul__) := ⟨rfl, rfl, rfl, by decide +kernel, rfl, by decide +kernel, by decide +kernel⟩
noncomputable def b_Ratio___mul__ : FS :=
  (dSeq (dAsg (dCall (lenIs 1 F_parts_of) [] (aCons (dVar 1) aNil)) (gTupT 2 (gsCons (gN 2) (gsCons (gN 3) gsNil))))
  (dRet (dMake 0 2 F_Ratio___init__ [] (aCons (d2 mulD (dFld "top" (dVar 0)) (dVar 2)) (aCons (d2 mulD (dFld "bottom" (dVar 0)) (dVar 3)) aNil)))))
noncomputable def F_Ratio___mul__ : FN := runF 4 b_Ratio___mul__
abbrev s_Ratio___neg__ : Stmt := inClass (top 7) 5
abbrev N_Ratio___neg__ : List Str := ["self"]
theorem sc_Ratio___neg__ : FnScope N_Ratio___neg__ ["self"] (defScope s_Ratio___neg__) := ⟨rfl, rfl, rfl, by decide +kernel, rfl, by decide +kernel, by decide +kernel⟩
noncomputable def b_Ratio___neg__ : FS :=
  (dRet (dMake 0 2 F_Ratio___init__ [] (aCons (d1 negI (dFld "top" (dVar 0))) (aCons (dFld "bottom" (dVar 0)) aNil))))
noncomputable def F_Ratio___neg__ : FN := runF 1 b_Ratio___neg__
abbrev s_Ratio_over : Stmt := inClass (top 7) 6
abbrev N_Ratio_over : List Str := ["self", "other", "top", "bottom"]
theorem sc_Ratio_over : FnScope N_Ratio_over ["self", "other"] (defScope s_Ratio_over) := ⟨rfl, rfl, rfl, by decide +kernel, rfl, by decide +kernel, by decide +kernel⟩
noncomputable def b_Ratio_over : FS :=
  (dSeq (dAsg (dCall (lenIs 1 F_parts_of) [] (aCons (dVar 1) aNil)) (gTupT 2 (gsCons (gN 2) (gsCons (gN 3) gsNil))))
  (dRet (dMake 0 2 F_Ratio___init__ [] (aCons (d2 mulD (dFld "top" (dVar 0)) (dVar 3)) (aCons (d2 mulD (dFld "bottom" (dVar 0)) (dVar 2)) aNil)))))
noncomputable def F_Ratio_over : FN := runF 4 b_Ratio_over
abbrev s_Ratio_compared : Stmt := inClass (top 7) 7
abbrev N_Ratio_compared : List Str := ["self", "other", "top", "bottom", "mine", "its"]
theorem sc_Ratio_compared : FnScope N_Ratio_compared ["self", "other"] (defScope s_Ratio_compared) := ⟨rfl, rfl, rfl, by decide +kernel, rfl, by decide +kernel, by decide +kernel⟩
noncomputable def b_Ratio_compared : FS :=
  (dSeq (dAsg (dCall (lenIs 1 F_parts_of) [] (aCons (dVar 1) aNil)) (gTupT 2 (gsCons (gN 2) (gsCons (gN 3) gsNil))))
  (dSeq (dPar 4 5 (aCons (d2 mulD (dFld "top" (dVar 0)) (dVar 3)) (aCons (d2 mulD (dVar 2) (dFld "bottom" (dVar 0))) aNil)))
  (dRet (d2 subI (dCB intD2 (aCons (d2 gtI (dVar 4) (dVar 5)) aNil)) (dCB intD2 (aCons (d2 ltI (dVar 4) (dVar 5)) aNil))))))
noncomputable def F_Ratio_compared : FN := runF 6 b_Ratio_compared
abbrev s_Ratio___eq__ : Stmt := inClass (top 7) 8
abbrev N_Ratio___eq__ : List Str := ["self", "other", "top", "bottom"]
theorem sc_Ratio___eq__ : FnScope N_Ratio___eq__ ["self", "other"] (defScope s_Ratio___eq__) := ⟨rfl, rfl, rfl, by decide +kernel, rfl, by decide +kernel, by decide +kernel⟩
noncomputable def b_Ratio___eq__ : FS :=
  (dSeq (dIfS (dOr (dNot (dB (dIs [0] [(.own 0), .int] (dVar 1)))) (dB (dIs [0] [.bool] (dVar 1)))) (dRet (dC (.bl false))) dNext)
  (dSeq (dAsg (dCall (lenIs 1 F_parts_of) [] (aCons (dVar 1) aNil)) (gTupT 2 (gsCons (gN 2) (gsCons (gN 3) gsNil))))
  (dRet (dAndV (d2 eqD (dFld "top" (dVar 0)) (dVar 2)) (d2 eqD (dFld "bottom" (dVar 0)) (dVar 3))))))
noncomputable def F_Ratio___eq__ : FN := runF 4 b_Ratio___eq__
abbrev s_Ratio_under : Stmt := inClass (top 7) 9
abbrev N_Ratio_under : List Str := ["self", "other"]
theorem sc_Ratio_under : FnScope N_Ratio_under ["self", "other"] (defScope s_Ratio_under) := ⟨rfl, rfl, rfl, by decide +kernel, rfl, by decide +kernel, by decide +kernel⟩
noncomputable def b_Ratio_under : FS :=
  (dRet (d2 ltI (dMethC 0 "compared" (lenIs 2 F_Ratio_compared) [] (dVar 0) (aCons (dVar 1) aNil)) (dC (.int 0))))
noncomputable def F_Ratio_under : FN := runF 2 b_Ratio_under
abbrev s_Ratio_at_most : Stmt := inClass (top 7) 10
abbrev N_Ratio_at_most : List Str := ["self", "other"]
theorem sc_Ratio_at_most : FnScope N_Ratio_at_most ["self", "other"] (defScope s_Ratio_at_most) := ⟨rfl, rfl, rfl, by decide +kernel, rfl, by decide +kernel, by decide +kernel⟩
noncomputable def b_Ratio_at_most : FS :=
  (dRet (d2 leI (dMethC 0 "compared" (lenIs 2 F_Ratio_compared) [] (dVar 0) (aCons (dVar 1) aNil)) (dC (.int 0))))
noncomputable def F_Ratio_at_most : FN := runF 2 b_Ratio_at_most
abbrev s__law_pen : Stmt := top 9
abbrev N__law_pen : List Str := ["_law_script", "_law_fold", "_law_cell"]
theorem sc__law_pen : FnScope N__law_pen ["_law_script"] (defScope s__law_pen) := ⟨rfl, rfl, rfl, by decide +kernel, rfl, by decide +kernel, by decide +kernel⟩
noncomputable def b__law_pen : FS :=
  (dSeq (dSet 1 (dC (.int 0)))
  (dSeq (dFor (iSeq (dVar 0)) (gN 2) (dSet 1 (d2 modI (dCB intD2 (aCons (d2 addD (d2 mulD (dVar 1) (dC (.int 41))) (dVar 2)) aNil)) (dC (.int 1000000007)))))
  (dRet (dDisp ["cells", "at", "digits", "count", "fold"] (aCons (dCB listD (aCons (dVar 0) aNil)) (aCons (dC (.int 0)) (aCons (dC (.int 0)) (aCons (dC (.int 0)) (aCons (dVar 1) aNil)))))))))
noncomputable def F__law_pen : FN := runF 3 b__law_pen
abbrev s__law_draw : Stmt := top 10
abbrev N__law_draw : List Str := ["_law_pen_here", "_law_many", "_law_cell", "_law_digit", "_law_mixed"]
theorem sc__law_draw : FnScope N__law_draw ["_law_pen_here", "_law_many"] (defScope s__law_draw) := ⟨rfl, rfl, rfl, by decide +kernel, rfl, by decide +kernel, by decide +kernel⟩
noncomputable def b__law_draw : FS :=
  (dSeq (dPutK (dVar 0) (dC (.str "count")) (d2 addD (dGetK (dVar 0) (dC (.str "count"))) (dC (.int 1))))
  (dSeq (dIfS (dAnd (dB (d2 eqD (dGetK (dVar 0) (dC (.str "digits"))) (dC (.int 0)))) (dB (d2 ltI (dGetK (dVar 0) (dC (.str "at"))) (dCB lenD (aCons (dGetK (dVar 0) (dC (.str "cells"))) aNil))))) (dSeq (dSet 2 (d2 itemD (dGetK (dVar 0) (dC (.str "cells"))) (dGetK (dVar 0) (dC (.str "at")))))
  (dSeq (dPutK (dVar 0) (dC (.str "at")) (d2 addD (dGetK (dVar 0) (dC (.str "at"))) (dC (.int 1))))
  (dIfS (dB (d2 geI (dVar 2) (d2 powI (dC (.int 10)) (dC (.int 18))))) (dPutK (dVar 0) (dC (.str "digits")) (d2 subI (dVar 2) (d2 powI (dC (.int 10)) (dC (.int 18))))) (dPutK (dVar 0) (dC (.str "fold")) (d2 modI (dCB intD2 (aCons (d2 addD (d2 mulD (dGetK (dVar 0) (dC (.str "fold"))) (dC (.int 69069))) (dVar 2)) aNil)) (dC (.int 2147483587))))))) dNext)
  (dSeq (dIfS (dB (d2 gtI (dGetK (dVar 0) (dC (.str "digits"))) (dC (.int 0)))) (dSeq (dSet 3 (d2 modI (dCB intD2 (aCons (dGetK (dVar 0) (dC (.str "digits"))) aNil)) (dVar 1)))
  (dSeq (dPutK (dVar 0) (dC (.str "digits")) (d2 divI (dGetK (dVar 0) (dC (.str "digits"))) (dVar 1)))
  (dRet (dVar 3)))) dNext)
  (dSeq (dSet 4 (d2 addD (d2 addD (dGetK (dVar 0) (dC (.str "fold"))) (d2 mulD (dGetK (dVar 0) (dC (.str "count"))) (dC (.int 7907)))) (dC (.int 37))))
  (dRet (d2 modI (d2 divI (dCB intD2 (aCons (d2 modI (d2 powI (dVar 4) (dC (.int 17))) (dC (.int 2305843009213693951))) aNil)) (dC (.int 128))) (dVar 1)))))))
noncomputable def F__law_draw : FN := runF 5 b__law_draw
abbrev s__law_gcd : Stmt := top 11
abbrev N__law_gcd : List Str := ["_law_one", "_law_two", "_law_lap"]
theorem sc__law_gcd : FnScope N__law_gcd ["_law_one", "_law_two"] (defScope s__law_gcd) := ⟨rfl, rfl, rfl, by decide +kernel, rfl, by decide +kernel, by decide +kernel⟩
noncomputable def b__law_gcd : FS :=
  (dSeq (dPar 0 1 (aCons (dCB absD (aCons (dVar 0) aNil)) (aCons (dCB absD (aCons (dVar 1) aNil)) aNil)))
  (dSeq (dFor (iRange1 (dC (.int 60000))) (gN 2) (dSeq (dIfS (dB (d2 eqD (dVar 1) (dC (.int 0)))) dBreak dNext)
  (dPar 0 1 (aCons (dVar 1) (aCons (d2 modI (dCB intD2 (aCons (dVar 0) aNil)) (dVar 1)) aNil)))))
  (dRet (dVar 0))))
noncomputable def F__law_gcd : FN := runF 3 b__law_gcd
abbrev s__law_q : Stmt := top 12
abbrev N__law_q : List Str := ["_law_top", "_law_bottom", "_law_by"]
theorem sc__law_q : FnScope N__law_q ["_law_top", "_law_bottom"] (defScope s__law_q) := ⟨rfl, rfl, rfl, by decide +kernel, rfl, by decide +kernel, by decide +kernel⟩
noncomputable def b__law_q : FS :=
  (dSeq (dSet 2 (dCall (lenIs 2 F__law_gcd) [] (aCons (dVar 0) (aCons (dVar 1) aNil))))
  (dSeq (dIfS (dB (d2 ltI (dVar 1) (dC (.int 0)))) (dSet 2 (d1 negI (dVar 2))) dNext)
  (dRet (dTup (aCons (d2 divI (dVar 0) (dVar 2)) (aCons (d2 divI (dVar 1) (dVar 2)) aNil))))))
noncomputable def F__law_q : FN := runF 3 b__law_q
abbrev s__law_plus : Stmt := top 13
abbrev N__law_plus : List Str := ["_law_one", "_law_two"]
theorem sc__law_plus : FnScope N__law_plus ["_law_one", "_law_two"] (defScope s__law_plus) := ⟨rfl, rfl, rfl, by decide +kernel, rfl, by decide +kernel, by decide +kernel⟩
noncomputable def b__law_plus : FS :=
  (dRet (dCall (lenIs 2 F__law_q) [] (aCons (d2 addD (d2 mulD (d2 itemD (dVar 0) (dC (.int 0))) (d2 itemD (dVar 1) (dC (.int 1)))) (d2 mulD (d2 itemD (dVar 1) (dC (.int 0))) (d2 itemD (dVar 0) (dC (.int 1))))) (aCons (d2 mulD (d2 itemD (dVar 0) (dC (.int 1))) (d2 itemD (dVar 1) (dC (.int 1)))) aNil))))
noncomputable def F__law_plus : FN := runF 2 b__law_plus
abbrev s__law_minus : Stmt := top 14
abbrev N__law_minus : List Str := ["_law_one", "_law_two"]
theorem sc__law_minus : FnScope N__law_minus ["_law_one", "_law_two"] (defScope s__law_minus) := ⟨rfl, rfl, rfl, by decide +kernel, rfl, by decide +kernel, by decide +kernel⟩
noncomputable def b__law_minus : FS :=
  (dRet (dCall (lenIs 2 F__law_q) [] (aCons (d2 subI (d2 mulD (d2 itemD (dVar 0) (dC (.int 0))) (d2 itemD (dVar 1) (dC (.int 1)))) (d2 mulD (d2 itemD (dVar 1) (dC (.int 0))) (d2 itemD (dVar 0) (dC (.int 1))))) (aCons (d2 mulD (d2 itemD (dVar 0) (dC (.int 1))) (d2 itemD (dVar 1) (dC (.int 1)))) aNil))))
noncomputable def F__law_minus : FN := runF 2 b__law_minus
abbrev s__law_times : Stmt := top 15
abbrev N__law_times : List Str := ["_law_one", "_law_two"]
theorem sc__law_times : FnScope N__law_times ["_law_one", "_law_two"] (defScope s__law_times) := ⟨rfl, rfl, rfl, by decide +kernel, rfl, by decide +kernel, by decide +kernel⟩
noncomputable def b__law_times : FS :=
  (dRet (dCall (lenIs 2 F__law_q) [] (aCons (d2 mulD (d2 itemD (dVar 0) (dC (.int 0))) (d2 itemD (dVar 1) (dC (.int 0)))) (aCons (d2 mulD (d2 itemD (dVar 0) (dC (.int 1))) (d2 itemD (dVar 1) (dC (.int 1)))) aNil))))
noncomputable def F__law_times : FN := runF 2 b__law_times
abbrev s__law_sign : Stmt := top 16
abbrev N__law_sign : List Str := ["_law_one"]
theorem sc__law_sign : FnScope N__law_sign ["_law_one"] (defScope s__law_sign) := ⟨rfl, rfl, rfl, by decide +kernel, rfl, by decide +kernel, by decide +kernel⟩
noncomputable def b__law_sign : FS :=
  (dRet (d2 subI (dCB intD2 (aCons (d2 gtI (d2 itemD (dVar 0) (dC (.int 0))) (dC (.int 0))) aNil)) (dCB intD2 (aCons (d2 ltI (d2 itemD (dVar 0) (dC (.int 0))) (dC (.int 0))) aNil))))
noncomputable def F__law_sign : FN := runF 1 b__law_sign
abbrev s__law_is_ratio : Stmt := top 17
abbrev N__law_is_ratio : List Str := ["_law_value", "_law_due", "_law_parts", "_law_part"]
theorem sc__law_is_ratio : FnScope N__law_is_ratio ["_law_value", "_law_due"] (defScope s__law_is_ratio) := ⟨rfl, rfl, rfl, by decide +kernel, rfl, by decide +kernel, by decide +kernel⟩
noncomputable def b__law_is_ratio : FS :=
  (dSeq (dIfS (dNot (dB (dIs [0] [(.own 0)] (dVar 0)))) (dRet (dC (.bl false))) dNext)
  (dSeq (dSet 2 (dLst (aCons (dFld "top" (dVar 0)) (aCons (dFld "bottom" (dVar 0)) aNil))))
  (dSeq (dIfS (dB (d2 neD (dL (dComp (iSeq (dVar 2)) [3] (gN 3) (dOr (dNot (dB (dIs [0] [.int] (dVar 3)))) (dB (dIs [0] [.bool] (dVar 3)))) (dVar 3))) (dLst aNil))) (dRet (dC (.bl false))) dNext)
  (dRet (d2 eqD (dTup (aCons (dFld "top" (dVar 0)) (aCons (dFld "bottom" (dVar 0)) aNil))) (dVar 1))))))
noncomputable def F__law_is_ratio : FN := runF 4 b__law_is_ratio
abbrev s__law_integer : Stmt := top 18
abbrev N__law_integer : List Str := ["_law_pen_here"]
theorem sc__law_integer : FnScope N__law_integer ["_law_pen_here"] (defScope s__law_integer) := ⟨rfl, rfl, rfl, by decide +kernel, rfl, by decide +kernel, by decide +kernel⟩
noncomputable def b__law_integer : FS :=
  (dSeq (dIfS (dB (d2 gtI (dCall (lenIs 2 F__law_draw) [] (aCons (dVar 0) (aCons (dC (.int 3)) aNil))) (dC (.int 0)))) (dRet (d2 subI (dCall (lenIs 2 F__law_draw) [] (aCons (dVar 0) (aCons (dC (.int 15)) aNil))) (dC (.int 7)))) dNext)
  (dRet (d2 mulD (d2 addD (d2 mulD (dCall (lenIs 2 F__law_draw) [] (aCons (dVar 0) (aCons (d2 powI (dC (.int 10)) (dC (.int 20))) aNil))) (d2 powI (dC (.int 10)) (dC (.int 20)))) (dCall (lenIs 2 F__law_draw) [] (aCons (dVar 0) (aCons (d2 powI (dC (.int 10)) (dC (.int 20))) aNil)))) (d2 subI (dC (.int 1)) (d2 mulD (dC (.int 2)) (dCall (lenIs 2 F__law_draw) [] (aCons (dVar 0) (aCons (dC (.int 2)) aNil))))))))
noncomputable def F__law_integer : FN := runF 1 b__law_integer
abbrev s__law_made : Stmt := top 19
abbrev N__law_made : List Str := ["_law_pen_here", "_law_pair", "_law_by"]
theorem sc__law_made : FnScope N__law_made ["_law_pen_here", "_law_pair"] (defScope s__law_made) := ⟨rfl, rfl, rfl, by decide +kernel, rfl, by decide +kernel, by decide +kernel⟩
noncomputable def b__law_made : FS :=
  (dSeq (dSet 2 (d2 itemD (dLst (aCons (dC (.int 1)) (aCons (dC (.int 1)) (aCons (dC (.int 2)) (aCons (d1 negI (dC (.int 1))) (aCons (dC (.int 6)) (aCons (d1 negI (dC (.int 3))) aNil))))))) (dCall (lenIs 2 F__law_draw) [] (aCons (dVar 0) (aCons (dC (.int 6)) aNil)))))
  (dRet (dMake 0 2 F_Ratio___init__ [] (aCons (d2 mulD (d2 itemD (dVar 1) (dC (.int 0))) (dVar 2)) (aCons (d2 mulD (d2 itemD (dVar 1) (dC (.int 1))) (dVar 2)) aNil)))))
noncomputable def F__law_made : FN := runF 3 b__law_made
abbrev s__law_bottom_named : Stmt := top 20
abbrev N__law_bottom_named : List Str := ["_law_action", "e"]
theorem sc__law_bottom_named : FnScope N__law_bottom_named ["_law_action"] (defScope s__law_bottom_named) := ⟨rfl, rfl, rfl, by decide +kernel, rfl, by decide +kernel, by decide +kernel⟩
noncomputable def b__law_bottom_named (al : FL) : FS :=
  (dSeq (dTryAs XS 3 1 (dDrop (dAct 0 al))
  (dRet (dAndV (d2 eqD (dTup (aCons (dXf 1 "what") (aCons (dXf 1 "number") aNil))) (dTup (aCons (dC (.str "bottom")) (aCons (dC (.int 0)) aNil)))) (dNotV (dIs [0] [.bool] (dXf 1 "number"))))))
  (dRet (dC (.bl false))))
noncomputable def F__law_bottom_named : FL → FL := runL 2 b__law_bottom_named
abbrev s__law_is_order : Stmt := top 21
abbrev N__law_is_order : List Str := ["_law_one", "_law_other", "_law_due", "_law_told", "_law_answers", "_law_answer"]
theorem sc__law_is_order : FnScope N__law_is_order ["_law_one", "_law_other", "_law_due"] (defScope s__law_is_order) := ⟨rfl, rfl, rfl, by decide +kernel, rfl, by decide +kernel, by decide +kernel⟩
noncomputable def b__law_is_order : FS :=
  (dSeq (dSet 3 (dMethC 0 "compared" (lenIs 2 F_Ratio_compared) [] (dVar 0) (aCons (dVar 1) aNil)))
  (dSeq (dIfS (dOr (dNot (dB (dIs [0] [.int] (dVar 3)))) (dOr (dB (dIs [0] [.bool] (dVar 3))) (dB (d2 neD (dVar 3) (dVar 2))))) (dRet (dC (.bl false))) dNext)
  (dSeq (dSet 4 (dLst (aCons (dMethC 0 "under" (lenIs 2 F_Ratio_under) [] (dVar 0) (aCons (dVar 1) aNil)) (aCons (dMethC 0 "at_most" (lenIs 2 F_Ratio_at_most) [] (dVar 0) (aCons (dVar 1) aNil)) (aCons (d2 (ownCmp [0] 0 F_Ratio___eq__ eqD) (dVar 0) (dVar 1)) aNil)))))
  (dSeq (dIfS (dB (d2 neD (dL (dComp (iSeq (dVar 4)) [5] (gN 5) (dNot (dB (dIs [0] [.bool] (dVar 5)))) (dC (.int 1)))) (dLst aNil))) (dRet (dC (.bl false))) dNext)
  (dRet (d2 (ownCmp [0] 0 F_Ratio___eq__ eqD) (dVar 4) (dLst (aCons (d2 ltI (dVar 2) (dC (.int 0))) (aCons (d2 leI (dVar 2) (dC (.int 0))) (aCons (d2 (ownCmp [0] 0 F_Ratio___eq__ eqD) (dVar 2) (dC (.int 0))) aNil))))))))))
noncomputable def F__law_is_order : FN := runF 6 b__law_is_order
abbrev s__law_with_integer : Stmt := top 22
abbrev N__law_with_integer : List Str := ["_law_one", "_law_pair", "_law_number", "_law_due"]
theorem sc__law_with_integer : FnScope N__law_with_integer ["_law_one", "_law_pair", "_law_number"] (defScope s__law_with_integer) := ⟨rfl, rfl, rfl, by decide +kernel, rfl, by decide +kernel, by decide +kernel⟩
noncomputable def b__law_with_integer : FS :=
  (dSeq (dSet 3 (dTup (aCons (dVar 2) (aCons (dC (.int 1)) aNil))))
  (dSeq (dIfS (dOr (dNot (dB (dCall (lenIs 2 F__law_is_ratio) [] (aCons (d2 (ownOp 0 F_Ratio___add__ addD) (dVar 0) (dVar 2)) (aCons (dCall (lenIs 2 F__law_plus) [] (aCons (dVar 1) (aCons (dVar 3) aNil))) aNil))))) (dNot (dB (dCall (lenIs 2 F__law_is_ratio) [] (aCons (d2 (ownOp 0 F_Ratio___sub__ subI) (dVar 0) (dVar 2)) (aCons (dCall (lenIs 2 F__law_minus) [] (aCons (dVar 1) (aCons (dVar 3) aNil))) aNil)))))) (dRet (dC (.bl false))) dNext)
  (dSeq (dIfS (dNot (dB (dCall (lenIs 2 F__law_is_ratio) [] (aCons (d2 (ownOp 0 F_Ratio___mul__ mulD) (dVar 0) (dVar 2)) (aCons (dCall (lenIs 2 F__law_times) [] (aCons (dVar 1) (aCons (dVar 3) aNil))) aNil))))) (dRet (dC (.bl false))) dNext)
  (dSeq (dIfS (dAnd (dB (d2 neD (dVar 2) (dC (.int 0)))) (dNot (dB (dCall (lenIs 2 F__law_is_ratio) [] (aCons (dMethC 0 "over" (lenIs 2 F_Ratio_over) [] (dVar 0) (aCons (dVar 2) aNil)) (aCons (dCall (lenIs 2 F__law_q) [] (aCons (d2 itemD (dVar 1) (dC (.int 0))) (aCons (d2 (ownOp 0 F_Ratio___mul__ mulD) (d2 itemD (dVar 1) (dC (.int 1))) (dVar 2)) aNil))) aNil)))))) (dRet (dC (.bl false))) dNext)
  (dRet (dCall (lenIs 3 F__law_is_order) [] (aCons (dVar 0) (aCons (dVar 2) (aCons (dCall (lenIs 1 F__law_sign) [] (aCons (dCall (lenIs 2 F__law_minus) [] (aCons (dVar 1) (aCons (dVar 3) aNil))) aNil)) aNil)))))))))
noncomputable def F__law_with_integer : FN := runF 4 b__law_with_integer
abbrev s_law : Stmt := top 23
abbrev N_law : List Str := ["_law_script", "_law_pen_here", "_law_turn", "_law_a", "_law_b", "_law_c", "_law_d", "_law_first", "_law_second", "_law_one", "_law_two", "_law_kept", "_law_k"]
theorem sc_law : FnScope N_law ["_law_script"] (defScope s_law) := ⟨rfl, rfl, rfl, by decide +kernel, rfl, by decide +kernel, by decide +kernel⟩
noncomputable def b_law : FS :=
  (dSeq (dSet 1 (dCall (lenIs 1 F__law_pen) [] (aCons (dVar 0) aNil)))
  (dSeq (dFor (iRange1 (dC (.int 4))) (gN 2) (dSeq (dAsg (dL (dComp (iRange1 (dC (.int 4))) [12] (gN 12) dYes (dCall (lenIs 1 F__law_integer) [] (aCons (dVar 1) aNil)))) (gTupA 4 (gsCons (gN 3) (gsCons (gN 4) (gsCons (gN 5) (gsCons (gN 6) gsNil))))))
  (dSeq (dPar 7 8 (aCons (dCall (lenIs 2 F__law_q) [] (aCons (dVar 3) (aCons (dIf (dB (d2 neD (dVar 4) (dC (.int 0)))) (dVar 4) (dC (.int 1))) aNil))) (aCons (dCall (lenIs 2 F__law_q) [] (aCons (dVar 5) (aCons (dIf (dB (d2 neD (dVar 6) (dC (.int 0)))) (dVar 6) (d1 (ownUn 0 F_Ratio___neg__ negI) (dC (.int 3)))) aNil))) aNil)))
  (dSeq (dIfS (dB (d2 eqD (dCall (lenIs 2 F__law_draw) [] (aCons (dVar 1) (aCons (dC (.int 5)) aNil))) (dC (.int 0)))) (dSet 8 (dVar 7)) dNext)
  (dSeq (dAsg (dTup (aCons (dCall (lenIs 2 F__law_made) [] (aCons (dVar 1) (aCons (dVar 7) aNil))) (aCons (dCall (lenIs 2 F__law_made) [] (aCons (dVar 1) (aCons (dVar 8) aNil))) aNil))) (gTupT 2 (gsCons (gN 9) (gsCons (gN 10) gsNil))))
  (dSeq (dIfS (dOr (dNot (dB (dCall (lenIs 2 F__law_is_ratio) [] (aCons (dVar 9) (aCons (dVar 7) aNil))))) (dNot (dB (dCall (lenIs 2 F__law_is_ratio) [] (aCons (d1 (ownUn 0 F_Ratio___neg__ negI) (dVar 9)) (aCons (dTup (aCons (d1 (ownUn 0 F_Ratio___neg__ negI) (d2 itemD (dVar 7) (dC (.int 0)))) (aCons (d2 itemD (dVar 7) (dC (.int 1))) aNil))) aNil)))))) (dRet (dC (.bl false))) dNext)
  (dSeq (dIfS (dNot (dB (dCall (lenIs 2 F__law_is_ratio) [] (aCons (d2 (ownOp 0 F_Ratio___add__ addD) (dVar 9) (dVar 10)) (aCons (dCall (lenIs 2 F__law_plus) [] (aCons (dVar 7) (aCons (dVar 8) aNil))) aNil))))) (dRet (dC (.bl false))) dNext)
  (dSeq (dIfS (dNot (dB (dCall (lenIs 2 F__law_is_ratio) [] (aCons (d2 (ownOp 0 F_Ratio___sub__ subI) (dVar 9) (dVar 10)) (aCons (dCall (lenIs 2 F__law_minus) [] (aCons (dVar 7) (aCons (dVar 8) aNil))) aNil))))) (dRet (dC (.bl false))) dNext)
  (dSeq (dIfS (dNot (dB (dCall (lenIs 2 F__law_is_ratio) [] (aCons (d2 (ownOp 0 F_Ratio___mul__ mulD) (dVar 9) (dVar 10)) (aCons (dCall (lenIs 2 F__law_times) [] (aCons (dVar 7) (aCons (dVar 8) aNil))) aNil))))) (dRet (dC (.bl false))) dNext)
  (dSeq (dIfS (dB (d2 eqD (d2 itemD (dVar 8) (dC (.int 0))) (dC (.int 0)))) (dIfS (dNot (dB (dLam 0 "law.<locals>.<lambda>" F__law_bottom_named (dMethC 0 "over" (lenIs 2 F_Ratio_over) [] (dVar 9) (aCons (dVar 10) aNil))))) (dRet (dC (.bl false))) dNext) (dIfS (dNot (dB (dCall (lenIs 2 F__law_is_ratio) [] (aCons (dMethC 0 "over" (lenIs 2 F_Ratio_over) [] (dVar 9) (aCons (dVar 10) aNil)) (aCons (dCall (lenIs 2 F__law_q) [] (aCons (d2 (ownOp 0 F_Ratio___mul__ mulD) (d2 itemD (dVar 7) (dC (.int 0))) (d2 itemD (dVar 8) (dC (.int 1)))) (aCons (d2 (ownOp 0 F_Ratio___mul__ mulD) (d2 itemD (dVar 7) (dC (.int 1))) (d2 itemD (dVar 8) (dC (.int 0)))) aNil))) aNil))))) (dRet (dC (.bl false))) dNext))
  (dSeq (dIfS (dNot (dB (dCall (lenIs 3 F__law_is_order) [] (aCons (dVar 9) (aCons (dVar 10) (aCons (dCall (lenIs 1 F__law_sign) [] (aCons (dCall (lenIs 2 F__law_minus) [] (aCons (dVar 7) (aCons (dVar 8) aNil))) aNil)) aNil)))))) (dRet (dC (.bl false))) dNext)
  (dSeq (dIfS (dOr (dNot (dB (dCall (lenIs 3 F__law_with_integer) [] (aCons (dVar 9) (aCons (dVar 7) (aCons (dVar 3) aNil)))))) (dNot (dB (dCall (lenIs 3 F__law_with_integer) [] (aCons (dVar 9) (aCons (dVar 7) (aCons (d2 divI (d2 itemD (dVar 7) (dC (.int 0))) (d2 itemD (dVar 7) (dC (.int 1)))) aNil))))))) (dRet (dC (.bl false))) dNext)
  (dSeq (dIfS (dNot (dB (dLam 0 "law.<locals>.<lambda>" F__law_bottom_named (dMethC 0 "over" (lenIs 2 F_Ratio_over) [] (dVar 9) (aCons (dC (.int 0)) aNil))))) (dRet (dC (.bl false))) dNext)
  (dSeq (dIfS (dNot (dB (dLam 0 "law.<locals>.<lambda>" F__law_bottom_named (dMake 0 2 F_Ratio___init__ [] (aCons (dVar 3) (aCons (dC (.int 0)) aNil)))))) (dRet (dC (.bl false))) dNext)
  (dSeq (dSet 11 (dLst (aCons (d2 (ownCmp [0] 0 F_Ratio___eq__ eqD) (dMake 0 2 F_Ratio___init__ [(.int 1)] (aCons (dVar 3) aNil)) (dVar 3)) (aCons (d2 (ownCmp [0] 0 F_Ratio___eq__ eqD) (dMake 0 2 F_Ratio___init__ [(.int 1)] (aCons (dC (.int 1)) aNil)) (dC (.bl true))) (aCons (d2 (ownCmp [0] 0 F_Ratio___eq__ eqD) (dMake 0 2 F_Ratio___init__ [(.int 1)] (aCons (dC (.int 0)) aNil)) (dC (.bl false))) (aCons (d2 (ownCmp [0] 0 F_Ratio___eq__ eqD) (dVar 9) (dC (.str "1"))) (aCons (d2 (ownCmp [0] 0 F_Ratio___eq__ eqD) (dVar 9) (dC .non)) (aCons (d2 (ownCmp [0] 0 F_Ratio___eq__ eqD) (dVar 9) (dTup (aCons (dVar 3) (aCons (dC (.int 1)) aNil)))) aNil))))))))
  (dSeq (dIfS (dOr (dB (d2 neD (dVar 11) (dLst (aCons (dC (.bl true)) (aCons (dC (.bl false)) (aCons (dC (.bl false)) (aCons (dC (.bl false)) (aCons (dC (.bl false)) (aCons (dC (.bl false)) aNil))))))))) (dNot (dB (dCall (lenIs 2 F__law_is_ratio) [] (aCons (dMake 0 2 F_Ratio___init__ [(.int 1)] (aCons (dVar 3) aNil)) (aCons (dTup (aCons (dVar 3) (aCons (dC (.int 1)) aNil))) aNil)))))) (dRet (dC (.bl false))) dNext)
  (dIfS (dOr (dNot (dB (dCall (lenIs 2 F__law_is_ratio) [] (aCons (dVar 9) (aCons (dVar 7) aNil))))) (dNot (dB (dCall (lenIs 2 F__law_is_ratio) [] (aCons (dVar 10) (aCons (dVar 8) aNil)))))) (dRet (dC (.bl false))) dNext)))))))))))))))))
  (dRet (dC (.bl true)))))
noncomputable def F_law : FN := runF 13 b_law
abbrev s_BadNumber : Stmt := inClass (top 3) 0
theorem ss_BadNumber : ScopeS ["self", "what", "number"] (defScope s_BadNumber) := ⟨rfl, rfl, rfl, by decide +kernel, by decide +kernel, by decide +kernel, by decide +kernel, rfl, rfl⟩
structure TxtB (K : PySem.W.Frag) (mg : Str → Option Value) (Γ : Gam) : Prop where
  hK : Γ.K = K
  gok : GOk Γ
  iok : IsOk Γ K [0]
  b_abs : mg "abs" = none
  b_bool : mg "bool" = none
  b_int : mg "int" = none
  b_isinstance : mg "isinstance" = none
  b_len : mg "len" = none
  b_list : mg "list" = none
  b_range : mg "range" = none
theorem TxtB.wx {K : PySem.W.Frag} {mg : Str → Option Value} {Γ : Gam} (T : TxtB K mg Γ) (a : Addr) (c : Nat) (d : Addr) : TxtB K mg (Γ.wx a c d) := ⟨T.hK, T.gok.wx a c d, T.iok.wx a c d, T.b_abs, T.b_bool, T.b_int, T.b_isinstance, T.b_len, T.b_list, T.b_range⟩
theorem TxtB.wf {K : PySem.W.Frag} {mg : Str → Option Value} {Γ : Gam} (T : TxtB K mg Γ) (f : Addr) (as : List Addr) (G : Hp) : TxtB K mg (Γ.wf f as G) := ⟨T.hK, T.gok.wf f as G, T.iok.wf f as G, T.b_abs, T.b_bool, T.b_int, T.b_isinstance, T.b_len, T.b_list, T.b_range⟩
structure TxtU (base : Heap) (mg : Str → Option Value) (fd : Nat → FuncData) (Γ : Gam) (cO : Str → Addr) : Prop where
  c_law : (fd 28).code = .ref (cO "law.<locals>.<lambda>")
  t_law : LamX.TabB base mg (cO "law.<locals>.<lambda>") (Γ.tb "law.<locals>.<lambda>")
structure Txt (P : Program) (K : PySem.W.Frag) (mg : Str → Option Value) (A : Nat → Addr) (fd : Nat → FuncData) (Γ : Gam) : Prop extends TxtB K mg Γ where
  g_divisor_of : mg "divisor_of" = some (.ref (A 1))
  f_divisor_of : Fn1 K "divisor_of" "divisor_of" s_divisor_of (A 1) (fd 1)
  n_divisor_of : Binds K (fd 1) ["one", "two"] []
  g_parts_of : mg "parts_of" = some (.ref (A 2))
  f_parts_of : Fn1 K "parts_of" "parts_of" s_parts_of (A 2) (fd 2)
  n_parts_of : Binds K (fd 2) ["value"] []
  f_Ratio___init__ : Fn1 K "__init__" "Ratio.__init__" s_Ratio___init__ (A 3) (fd 3)
  n_Ratio___init__ : Binds K (fd 3) ["self", "top", "bottom"] []
  nd1_Ratio___init__ : ∃ ds, Vals ([.int 1] : List V) ds ∧ Binds K (fd 3) ["self", "top", "bottom"] ds
  m_Ratio___add__ : Meth K (Γ.cA 0) "__add__" (A 5)
  f_Ratio___add__ : Fn1 K "__add__" "Ratio.__add__" s_Ratio___add__ (A 5) (fd 5)
  n_Ratio___add__ : Binds K (fd 5) ["self", "other"] []
  o_Ratio___add__ : OwnOp K (Γ.cA 0) (A 5) .Add
  m_Ratio___sub__ : Meth K (Γ.cA 0) "__sub__" (A 6)
  f_Ratio___sub__ : Fn1 K "__sub__" "Ratio.__sub__" s_Ratio___sub__ (A 6) (fd 6)
  n_Ratio___sub__ : Binds K (fd 6) ["self", "other"] []
  o_Ratio___sub__ : OwnOp K (Γ.cA 0) (A 6) .Sub
  m_Ratio___mul__ : Meth K (Γ.cA 0) "__mul__" (A 7)
  f_Ratio___mul__ : Fn1 K "__mul__" "Ratio.__mul__" s_Ratio___mul__ (A 7) (fd 7)
  n_Ratio___mul__ : Binds K (fd 7) ["self", "other"] []
  o_Ratio___mul__ : OwnOp K (Γ.cA 0) (A 7) .Mult
  m_Ratio___neg__ : Meth K (Γ.cA 0) "__neg__" (A 8)
  f_Ratio___neg__ : Fn1 K "__neg__" "Ratio.__neg__" s_Ratio___neg__ (A 8) (fd 8)
  n_Ratio___neg__ : Binds K (fd 8) ["self"] []
  o_Ratio___neg__ : OwnNeg K (Γ.cA 0) (A 8)
  m_Ratio_over : Meth K (Γ.cA 0) "over" (A 9)
  f_Ratio_over : Fn1 K "over" "Ratio.over" s_Ratio_over (A 9) (fd 9)
  n_Ratio_over : Binds K (fd 9) ["self", "other"] []
  m_Ratio_compared : Meth K (Γ.cA 0) "compared" (A 10)
  f_Ratio_compared : Fn1 K "compared" "Ratio.compared" s_Ratio_compared (A 10) (fd 10)
  n_Ratio_compared : Binds K (fd 10) ["self", "other"] []
  m_Ratio___eq__ : Meth K (Γ.cA 0) "__eq__" (A 11)
  f_Ratio___eq__ : Fn1 K "__eq__" "Ratio.__eq__" s_Ratio___eq__ (A 11) (fd 11)
  n_Ratio___eq__ : Binds K (fd 11) ["self", "other"] []
  o_Ratio___eq__ : OwnCmp Γ K [0] (Γ.cA 0) (A 11) .Eq
  m_Ratio_under : Meth K (Γ.cA 0) "under" (A 12)
  f_Ratio_under : Fn1 K "under" "Ratio.under" s_Ratio_under (A 12) (fd 12)
  n_Ratio_under : Binds K (fd 12) ["self", "other"] []
  m_Ratio_at_most : Meth K (Γ.cA 0) "at_most" (A 13)
  f_Ratio_at_most : Fn1 K "at_most" "Ratio.at_most" s_Ratio_at_most (A 13) (fd 13)
  n_Ratio_at_most : Binds K (fd 13) ["self", "other"] []
  g__law_pen : mg "_law_pen" = some (.ref (A 14))
  f__law_pen : Fn1 K "_law_pen" "_law_pen" s__law_pen (A 14) (fd 14)
  n__law_pen : Binds K (fd 14) ["_law_script"] []
  g__law_draw : mg "_law_draw" = some (.ref (A 15))
  f__law_draw : Fn1 K "_law_draw" "_law_draw" s__law_draw (A 15) (fd 15)
  n__law_draw : Binds K (fd 15) ["_law_pen_here", "_law_many"] []
  g__law_gcd : mg "_law_gcd" = some (.ref (A 16))
  f__law_gcd : Fn1 K "_law_gcd" "_law_gcd" s__law_gcd (A 16) (fd 16)
  n__law_gcd : Binds K (fd 16) ["_law_one", "_law_two"] []
  g__law_q : mg "_law_q" = some (.ref (A 17))
  f__law_q : Fn1 K "_law_q" "_law_q" s__law_q (A 17) (fd 17)
  n__law_q : Binds K (fd 17) ["_law_top", "_law_bottom"] []
  g__law_plus : mg "_law_plus" = some (.ref (A 18))
  f__law_plus : Fn1 K "_law_plus" "_law_plus" s__law_plus (A 18) (fd 18)
  n__law_plus : Binds K (fd 18) ["_law_one", "_law_two"] []
  g__law_minus : mg "_law_minus" = some (.ref (A 19))
  f__law_minus : Fn1 K "_law_minus" "_law_minus" s__law_minus (A 19) (fd 19)
  n__law_minus : Binds K (fd 19) ["_law_one", "_law_two"] []
  g__law_times : mg "_law_times" = some (.ref (A 20))
  f__law_times : Fn1 K "_law_times" "_law_times" s__law_times (A 20) (fd 20)
  n__law_times : Binds K (fd 20) ["_law_one", "_law_two"] []
  g__law_sign : mg "_law_sign" = some (.ref (A 21))
  f__law_sign : Fn1 K "_law_sign" "_law_sign" s__law_sign (A 21) (fd 21)
  n__law_sign : Binds K (fd 21) ["_law_one"] []
  g__law_is_ratio : mg "_law_is_ratio" = some (.ref (A 22))
  f__law_is_ratio : Fn1 K "_law_is_ratio" "_law_is_ratio" s__law_is_ratio (A 22) (fd 22)
  n__law_is_ratio : Binds K (fd 22) ["_law_value", "_law_due"] []
  g__law_integer : mg "_law_integer" = some (.ref (A 23))
  f__law_integer : Fn1 K "_law_integer" "_law_integer" s__law_integer (A 23) (fd 23)
  n__law_integer : Binds K (fd 23) ["_law_pen_here"] []
  g__law_made : mg "_law_made" = some (.ref (A 24))
  f__law_made : Fn1 K "_law_made" "_law_made" s__law_made (A 24) (fd 24)
  n__law_made : Binds K (fd 24) ["_law_pen_here", "_law_pair"] []
  g__law_bottom_named : mg "_law_bottom_named" = some (.ref (A 25))
  f__law_bottom_named : Fn1 K "_law_bottom_named" "_law_bottom_named" s__law_bottom_named (A 25) (fd 25)
  n__law_bottom_named : Binds K (fd 25) ["_law_action"] []
  g__law_is_order : mg "_law_is_order" = some (.ref (A 26))
  f__law_is_order : Fn1 K "_law_is_order" "_law_is_order" s__law_is_order (A 26) (fd 26)
  n__law_is_order : Binds K (fd 26) ["_law_one", "_law_other", "_law_due"] []
  g__law_with_integer : mg "_law_with_integer" = some (.ref (A 27))
  f__law_with_integer : Fn1 K "_law_with_integer" "_law_with_integer" s__law_with_integer (A 27) (fd 27)
  n__law_with_integer : Binds K (fd 27) ["_law_one", "_law_pair", "_law_number"] []
  g_law : mg "law" = some (.ref (A 28))
  f_law : Fn1 K "law" "law" s_law (A 28) (fd 28)
  n_law : Binds K (fd 28) ["_law_script"] []
  c_Ratio : mg "Ratio" = some (.ref (Γ.cA 0))
  mk_Ratio : Mk K (Γ.cA 0) (A 3)
  g_BadNumber : mg "BadNumber" = some (.ref (Γ.eA 3))
  ek_BadNumber : ErrK P K mg (Γ.eA 3) (A 29) "__init__" "BadNumber.__init__" (defArgs s_BadNumber) (defBody s_BadNumber) (defScope s_BadNumber) (fd 29)
  oi_BadNumber : PySem.W.findIn K (.ref (Γ.eA 3)) "__init__" = some (some (.ref (A 29)))
  ot_BadNumber : PySem.W.typeIn K (.ref (A 29)) = some (.type "function")
  on_BadNumber : Binds K (fd 29) ["self", "what", "number"] []
  xf_BadNumber : XfC K (Γ.eA 3)
  of_BadNumber_number : PySem.W.findIn K (.ref (Γ.eA 3)) "number" = some none
  of_BadNumber_what : PySem.W.findIn K (.ref (Γ.eA 3)) "what" = some none
  xm : XmOk Γ K XS
section
variable {P : Program} {w : World} {K : PySem.W.Frag} {mg : Str → Option Value} {base : Heap} {A : Nat → Addr} {fd : Nat → FuncData} {Γ : Gam}
theorem eok_BadNumber (T : Txt P K mg A fd Γ) : EOk Γ P w K mg base 3 (A 29) (fd 29) ["self", "what", "number"] := ⟨T.ek_BadNumber.T, T.oi_BadNumber, T.ot_BadNumber, T.on_BadNumber, (err_ok (k := 0) T.ek_BadNumber ss_BadNumber rfl rfl (fun _ _ _ _ _ _ _ => (pa_cons (pe_var (i := 1) rfl (.inl rfl)) (pa_cons (pe_var (i := 2) rfl (.inl rfl)) pa_nil))) (hta2 rfl) (fun _ _ _ _ _ _ _ => pss_one (ps_asg (pe_tup (pa_cons (pe_var (i := 1) rfl (.inl rfl)) (pa_cons (pe_var (i := 2) rfl (.inl rfl)) pa_nil))) (pg_tup rfl (pgs_cons (pg_ost (pe_var (i := 0) rfl (.inl rfl))) (pgs_cons (pg_ost (pe_var (i := 0) rfl (.inl rfl))) pgs_nil))))) (fun _ _ _ => rfl) (fun _ _ _ => rfl) (fun _ _ _ => rfl)).imp fun vs H Q E s => spx2 T.ek_BadNumber.T T.of_BadNumber_what T.of_BadNumber_number rfl s⟩
theorem ok_divisor_of (T : Txt P K mg A fd Γ) : FnOk P w K mg base (L2.CX P w) 1 (A 1) (fd 1) ["one", "two"] (spF Γ 2 F_divisor_of) := fn_ok T.f_divisor_of sc_divisor_of fun cdv A' outer s H E hr tk => by
  exact (q_seq (q_par (ps_par (i := 0) (j := 1) rfl sc_divisor_of.nd rfl rfl (by decide) rfl rfl (qa_cons (q_callB call_abs ka_abs rfl T.b_abs (by decide +kernel) (qa_cons (q_var (pv 0)) qa_nil)) (qa_cons (q_callB call_abs ka_abs rfl T.b_abs (by decide +kernel) (qa_cons (q_var (pv 1)) qa_nil)) qa_nil)) rfl))
  (q_seq (q_while (passes_of rfl) (q_cmpT (op_neD hr.units) (k_neD T.hK) (q_var (pv 1)) q_int (nomark _)) (q_one (q_par (ps_par (i := 0) (j := 1) rfl sc_divisor_of.nd rfl rfl (by decide) rfl rfl (qa_cons (q_var (pv 1)) (qa_cons (q_op op_modN k_modI (q_var (pv 0)) (q_var (pv 1))) qa_nil)) rfl))))
  (q_one (q_ret (q_var (pv 0))))))
theorem ok_parts_of (T : Txt P K mg A fd Γ) : FnOk P w K mg base (L2.CX P w) 1 (A 2) (fd 2) ["value"] (spF Γ 1 F_parts_of) := fn_ok T.f_parts_of sc_parts_of fun cdv A' outer s H E hr tk => by
  exact (q_one (q_ret (q_if (q_val (q_is1 (cl := (.own 0)) T.iok T.hK rfl T.b_isinstance (q_var (pv 0)) (pe_glob rfl T.c_Ratio rfl))) (q_tup (qa_cons (q_fld T.gok T.hK (q_var (pv 0))) (qa_cons (q_fld T.gok T.hK (q_var (pv 0))) qa_nil))) (q_tup (qa_cons (q_var (pv 0)) (qa_cons q_int qa_nil))))))
theorem ok_Ratio___init__ (T : Txt P K mg A fd Γ) : FnOk P w K mg base (L2.CX P w) 3 (A 3) (fd 3) ["self", "top", "bottom"] (spI Γ 0 2 F_Ratio___init__) := init_ok T.f_Ratio___init__ sc_Ratio___init__ fun cdv A' outer s H E hr tk => by
  exact (q_seq (q_ifS (q_cmpT (op_eqD hr.units) (k_eqD T.hK) (q_var (pv 2)) q_int (nomark _)) (q_one (q_raise (eok_BadNumber T) rfl tk (hr.mono (by decide)) rfl T.g_BadNumber (qa_cons q_str (qa_cons q_int qa_nil)))) q_nil)
  (q_seq (q_set (ps_set (i := 3) sc_Ratio___init__.nd rfl (Or.inl rfl) (q_if (q_cmpT op_gt k_gtI (q_var (pv 2)) q_int (nomark _)) (q_call (ok_divisor_of T) (hr.mono (by decide)) rfl T.g_divisor_of T.f_divisor_of.kp T.n_divisor_of .nil (fun _ _ => RepL.nil) tk (qa_cons (q_var (pv 1)) (qa_cons (q_var (pv 2)) qa_nil))) (q_neg (q_call (ok_divisor_of T) (hr.mono (by decide)) rfl T.g_divisor_of T.f_divisor_of.kp T.n_divisor_of .nil (fun _ _ => RepL.nil) tk (qa_cons (q_var (pv 1)) (qa_cons (q_var (pv 2)) qa_nil)))))))
  (q_one (q_asg (q_tup (qa_cons (q_op op_divO k_divI (q_var (pv 1)) (q_var (pv 3))) (qa_cons (q_op op_divO k_divI (q_var (pv 2)) (q_var (pv 3))) qa_nil))) (qg_tup T.hK rfl (qgs_cons (qg_self T.gok T.hK (pv 0)) (qgs_cons (qg_self T.gok T.hK (pv 0)) qgs_nil)))))))
theorem ok_Ratio___add__ (T : Txt P K mg A fd Γ) : FnOk P w K mg base (L2.CX P w) 5 (A 5) (fd 5) ["self", "other"] (spF Γ 2 F_Ratio___add__) := fn_ok T.f_Ratio___add__ sc_Ratio___add__ fun cdv A' outer s H E hr tk => by
  exact (q_seq (q_asg (q_call (ok_parts_of T) (hr.mono (by decide)) rfl T.g_parts_of T.f_parts_of.kp T.n_parts_of .nil (fun _ _ => RepL.nil) tk (qa_cons (q_var (pv 1)) qa_nil)) (qg_tup T.hK rfl (qgs_cons (qg_name (pg_name (i := 2) sc_Ratio___add__.nd rfl (Or.inl rfl))) (qgs_cons (qg_name (pg_name (i := 3) sc_Ratio___add__.nd rfl (Or.inl rfl))) qgs_nil))))
  (q_one (q_ret (q_make T.mk_Ratio (ok_Ratio___init__ T) (hr.mono (by decide)) rfl T.c_Ratio T.n_Ratio___init__ .nil (fun _ _ => RepL.nil) tk (qa_cons (q_op op_addAll (k_addAll T.hK) (q_op op_mulAll (k_mulAll T.hK) (q_fld T.gok T.hK (q_var (pv 0))) (q_var (pv 3))) (q_op op_mulAll (k_mulAll T.hK) (q_var (pv 2)) (q_fld T.gok T.hK (q_var (pv 0))))) (qa_cons (q_op op_mulAll (k_mulAll T.hK) (q_fld T.gok T.hK (q_var (pv 0))) (q_var (pv 3))) qa_nil))))))
theorem ok_Ratio___sub__ (T : Txt P K mg A fd Γ) : FnOk P w K mg base (L2.CX P w) 5 (A 6) (fd 6) ["self", "other"] (spF Γ 2 F_Ratio___sub__) := fn_ok T.f_Ratio___sub__ sc_Ratio___sub__ fun cdv A' outer s H E hr tk => by
  exact (q_seq (q_asg (q_call (ok_parts_of T) (hr.mono (by decide)) rfl T.g_parts_of T.f_parts_of.kp T.n_parts_of .nil (fun _ _ => RepL.nil) tk (qa_cons (q_var (pv 1)) qa_nil)) (qg_tup T.hK rfl (qgs_cons (qg_name (pg_name (i := 2) sc_Ratio___sub__.nd rfl (Or.inl rfl))) (qgs_cons (qg_name (pg_name (i := 3) sc_Ratio___sub__.nd rfl (Or.inl rfl))) qgs_nil))))
  (q_one (q_ret (q_make T.mk_Ratio (ok_Ratio___init__ T) (hr.mono (by decide)) rfl T.c_Ratio T.n_Ratio___init__ .nil (fun _ _ => RepL.nil) tk (qa_cons (q_op op_sub k_subI (q_op op_mulAll (k_mulAll T.hK) (q_fld T.gok T.hK (q_var (pv 0))) (q_var (pv 3))) (q_op op_mulAll (k_mulAll T.hK) (q_var (pv 2)) (q_fld T.gok T.hK (q_var (pv 0))))) (qa_cons (q_op op_mulAll (k_mulAll T.hK) (q_fld T.gok T.hK (q_var (pv 0))) (q_var (pv 3))) qa_nil))))))
theorem ok_Ratio___mul__ (T : Txt P K mg A fd Γ) : FnOk P w K mg base (L2.CX P w) 5 (A 7) (fd 7) ["self", "other"] (spF Γ 2 F_Ratio___mul__) := fn_ok T.f_Ratio___mul__ sc_Ratio___mul__ fun cdv A' outer s H E hr tk => by
  exact (q_seq (q_asg (q_call (ok_parts_of T) (hr.mono (by decide)) rfl T.g_parts_of T.f_parts_of.kp T.n_parts_of .nil (fun _ _ => RepL.nil) tk (qa_cons (q_var (pv 1)) qa_nil)) (qg_tup T.hK rfl (qgs_cons (qg_name (pg_name (i := 2) sc_Ratio___mul__.nd rfl (Or.inl rfl))) (qgs_cons (qg_name (pg_name (i := 3) sc_Ratio___mul__.nd rfl (Or.inl rfl))) qgs_nil))))
  (q_one (q_ret (q_make T.mk_Ratio (ok_Ratio___init__ T) (hr.mono (by decide)) rfl T.c_Ratio T.n_Ratio___init__ .nil (fun _ _ => RepL.nil) tk (qa_cons (q_op op_mulAll (k_mulAll T.hK) (q_fld T.gok T.hK (q_var (pv 0))) (q_var (pv 2))) (qa_cons (q_op op_mulAll (k_mulAll T.hK) (q_fld T.gok T.hK (q_var (pv 0))) (q_var (pv 3))) qa_nil))))))
theorem ok_Ratio___neg__ (T : Txt P K mg A fd Γ) : FnOk P w K mg base (L2.CX P w) 5 (A 8) (fd 8) ["self"] (spF Γ 1 F_Ratio___neg__) := fn_ok T.f_Ratio___neg__ sc_Ratio___neg__ fun cdv A' outer s H E hr tk => by
  exact (q_one (q_ret (q_make T.mk_Ratio (ok_Ratio___init__ T) (hr.mono (by decide)) rfl T.c_Ratio T.n_Ratio___init__ .nil (fun _ _ => RepL.nil) tk (qa_cons (q_neg (q_fld T.gok T.hK (q_var (pv 0)))) (qa_cons (q_fld T.gok T.hK (q_var (pv 0))) qa_nil)))))
theorem ok_Ratio_over (T : Txt P K mg A fd Γ) : FnOk P w K mg base (L2.CX P w) 5 (A 9) (fd 9) ["self", "other"] (spF Γ 2 F_Ratio_over) := fn_ok T.f_Ratio_over sc_Ratio_over fun cdv A' outer s H E hr tk => by
  exact (q_seq (q_asg (q_call (ok_parts_of T) (hr.mono (by decide)) rfl T.g_parts_of T.f_parts_of.kp T.n_parts_of .nil (fun _ _ => RepL.nil) tk (qa_cons (q_var (pv 1)) qa_nil)) (qg_tup T.hK rfl (qgs_cons (qg_name (pg_name (i := 2) sc_Ratio_over.nd rfl (Or.inl rfl))) (qgs_cons (qg_name (pg_name (i := 3) sc_Ratio_over.nd rfl (Or.inl rfl))) qgs_nil))))
  (q_one (q_ret (q_make T.mk_Ratio (ok_Ratio___init__ T) (hr.mono (by decide)) rfl T.c_Ratio T.n_Ratio___init__ .nil (fun _ _ => RepL.nil) tk (qa_cons (q_op op_mulAll (k_mulAll T.hK) (q_fld T.gok T.hK (q_var (pv 0))) (q_var (pv 3))) (qa_cons (q_op op_mulAll (k_mulAll T.hK) (q_fld T.gok T.hK (q_var (pv 0))) (q_var (pv 2))) qa_nil))))))
theorem ok_Ratio_compared (T : Txt P K mg A fd Γ) : FnOk P w K mg base (L2.CX P w) 2 (A 10) (fd 10) ["self", "other"] (spF Γ 2 F_Ratio_compared) := fn_ok T.f_Ratio_compared sc_Ratio_compared fun cdv A' outer s H E hr tk => by
  exact (q_seq (q_asg (q_call (ok_parts_of T) (hr.mono (by decide)) rfl T.g_parts_of T.f_parts_of.kp T.n_parts_of .nil (fun _ _ => RepL.nil) tk (qa_cons (q_var (pv 1)) qa_nil)) (qg_tup T.hK rfl (qgs_cons (qg_name (pg_name (i := 2) sc_Ratio_compared.nd rfl (Or.inl rfl))) (qgs_cons (qg_name (pg_name (i := 3) sc_Ratio_compared.nd rfl (Or.inl rfl))) qgs_nil))))
  (q_seq (q_par (ps_par (i := 4) (j := 5) rfl sc_Ratio_compared.nd rfl rfl (by decide) rfl rfl (qa_cons (q_op op_mulAll (k_mulAll T.hK) (q_fld T.gok T.hK (q_var (pv 0))) (q_var (pv 3))) (qa_cons (q_op op_mulAll (k_mulAll T.hK) (q_var (pv 2)) (q_fld T.gok T.hK (q_var (pv 0)))) qa_nil)) rfl))
  (q_one (q_ret (q_op op_sub k_subI (q_callTy call_intAll ka_intAll rfl T.b_int (by decide +kernel) (qa_cons (q_cmp op_gt k_gtI (q_var (pv 4)) (q_var (pv 5)) (nomark _)) qa_nil)) (q_callTy call_intAll ka_intAll rfl T.b_int (by decide +kernel) (qa_cons (q_cmp op_lt k_ltI (q_var (pv 4)) (q_var (pv 5)) (nomark _)) qa_nil)))))))
theorem ok_Ratio___eq__ (T : Txt P K mg A fd Γ) : FnOk P w K mg base (L2.CX P w) 2 (A 11) (fd 11) ["self", "other"] (spF Γ 2 F_Ratio___eq__) := fn_ok T.f_Ratio___eq__ sc_Ratio___eq__ fun cdv A' outer s H E hr tk => by
  exact (q_seq (q_ifS (PW.pt (q_or (q_not (q_val (q_isT (cls := [(.own 0), .int]) T.iok T.hK rfl T.b_isinstance (q_var (pv 1)) (pcs_cons (pe_glob rfl T.c_Ratio rfl) (pcs_cons (pe_tyI "int" "int" rfl T.b_int (by decide +kernel)) pcs_nil))))) (q_or1 (q_val (q_is1 (cl := .bool) T.iok T.hK rfl T.b_isinstance (q_var (pv 1)) (pe_tyI "bool" "bool" rfl T.b_bool (by decide +kernel))))))) (q_one (q_ret q_bl)) q_nil)
  (q_seq (q_asg (q_call (ok_parts_of T) (hr.mono (by decide)) rfl T.g_parts_of T.f_parts_of.kp T.n_parts_of .nil (fun _ _ => RepL.nil) tk (qa_cons (q_var (pv 1)) qa_nil)) (qg_tup T.hK rfl (qgs_cons (qg_name (pg_name (i := 2) sc_Ratio___eq__.nd rfl (Or.inl rfl))) (qgs_cons (qg_name (pg_name (i := 3) sc_Ratio___eq__.nd rfl (Or.inl rfl))) qgs_nil))))
  (q_one (q_ret (q_andV (q_cmp (op_eqD hr.units) (k_eqD T.hK) (q_fld T.gok T.hK (q_var (pv 0))) (q_var (pv 2)) (nomark _)) (q_oneV (q_cmp (op_eqD hr.units) (k_eqD T.hK) (q_fld T.gok T.hK (q_var (pv 0))) (q_var (pv 3)) (nomark _))))))))
theorem ok_Ratio_under (T : Txt P K mg A fd Γ) : FnOk P w K mg base (L2.CX P w) 3 (A 12) (fd 12) ["self", "other"] (spF Γ 2 F_Ratio_under) := fn_ok T.f_Ratio_under sc_Ratio_under fun cdv A' outer s H E hr tk => by
  exact (q_one (q_ret (q_cmp op_lt k_ltI (q_meth (q_var (pv 0)) (T.iok.cl 0 rfl) T.m_Ratio_compared (ok_Ratio_compared T) (hr.mono (by decide)) T.n_Ratio_compared .nil (fun _ _ => RepL.nil) tk (qa_cons (q_var (pv 1)) qa_nil)) q_int (nomark _))))
theorem ok_Ratio_at_most (T : Txt P K mg A fd Γ) : FnOk P w K mg base (L2.CX P w) 3 (A 13) (fd 13) ["self", "other"] (spF Γ 2 F_Ratio_at_most) := fn_ok T.f_Ratio_at_most sc_Ratio_at_most fun cdv A' outer s H E hr tk => by
  exact (q_one (q_ret (q_cmp op_le k_leI (q_meth (q_var (pv 0)) (T.iok.cl 0 rfl) T.m_Ratio_compared (ok_Ratio_compared T) (hr.mono (by decide)) T.n_Ratio_compared .nil (fun _ _ => RepL.nil) tk (qa_cons (q_var (pv 1)) qa_nil)) q_int (nomark _))))
theorem ok__law_pen (T : Txt P K mg A fd Γ) : FnOk P w K mg base (L2.CX P w) 1 (A 14) (fd 14) ["_law_script"] (spF Γ 1 F__law_pen) := fn_ok T.f__law_pen sc__law_pen fun cdv A' outer s H E hr tk => by
  exact (q_seq (q_set (ps_set (i := 1) sc__law_pen.nd rfl (Or.inl rfl) q_int))
  (q_seq (q_for (passes_of rfl) rfl (qi_seq T.hK (q_var (pv 0))) (qg_name (pg_name (i := 2) sc__law_pen.nd rfl (Or.inl rfl))) (q_one (q_set (ps_set (i := 1) sc__law_pen.nd rfl (Or.inl rfl) (q_op op_modN k_modI (q_callTy call_intAll ka_intAll rfl T.b_int (by decide +kernel) (qa_cons (q_op op_addAll (k_addAll T.hK) (q_op op_mulAll (k_mulAll T.hK) (q_var (pv 1)) q_int) (q_var (pv 2))) qa_nil)) q_int)))))
  (q_one (q_ret (q_disp (qd_cons (q_callTy call_list_of (ka_list T.hK) rfl T.b_list (by decide +kernel) (qa_cons (q_var (pv 0)) qa_nil)) (qd_cons q_int (qd_cons q_int (qd_cons q_int (qd_cons (q_var (pv 1)) qd_nil))))) rfl rfl (fun z => nomatch z) (by decide))))))
theorem ok__law_draw (T : Txt P K mg A fd Γ) : FnOk P w K mg base (L2.CX P w) 1 (A 15) (fd 15) ["_law_pen_here", "_law_many"] (spF Γ 2 F__law_draw) := fn_ok T.f__law_draw sc__law_draw fun cdv A' outer s H E hr tk => by
  exact (q_seq (q_putK (ps_dput (hu_of hr) (q_var (pv 0)) q_str (q_op op_addAll (k_addAll T.hK) (q_getK (hu_of hr) (q_var (pv 0)) q_str (fun _ _ => rfl)) q_int) rfl))
  (q_seq (q_ifS (PW.pt (q_and (q_cmpT (op_eqD hr.units) (k_eqD T.hK) (q_getK (hu_of hr) (q_var (pv 0)) q_str (fun _ _ => rfl)) q_int (nomark _)) (q_and1 (q_cmpT op_lt k_ltI (q_getK (hu_of hr) (q_var (pv 0)) q_str (fun _ _ => rfl)) (q_callB call_lenK (ka_len T.hK) rfl T.b_len (by decide +kernel) (qa_cons (q_getK (hu_of hr) (q_var (pv 0)) q_str (fun _ _ => rfl)) qa_nil)) (nomark _))))) (q_seq (q_set (ps_set (i := 2) sc__law_draw.nd rfl (Or.inl rfl) (q_ix T.hK (q_getK (hu_of hr) (q_var (pv 0)) q_str (fun _ _ => rfl)) (q_getK (hu_of hr) (q_var (pv 0)) q_str (fun _ _ => rfl)) (fun _ _ => rfl))))
  (q_seq (q_putK (ps_dput (hu_of hr) (q_var (pv 0)) q_str (q_op op_addAll (k_addAll T.hK) (q_getK (hu_of hr) (q_var (pv 0)) q_str (fun _ _ => rfl)) q_int) rfl))
  (q_one (q_ifS (q_cmpT op_ge k_geI (q_var (pv 2)) (q_op op_pow k_powI q_int q_int) (nomark _)) (q_one (q_putK (ps_dput (hu_of hr) (q_var (pv 0)) q_str (q_op op_sub k_subI (q_var (pv 2)) (q_op op_pow k_powI q_int q_int)) rfl))) (q_one (q_putK (ps_dput (hu_of hr) (q_var (pv 0)) q_str (q_op op_modN k_modI (q_callTy call_intAll ka_intAll rfl T.b_int (by decide +kernel) (qa_cons (q_op op_addAll (k_addAll T.hK) (q_op op_mulAll (k_mulAll T.hK) (q_getK (hu_of hr) (q_var (pv 0)) q_str (fun _ _ => rfl)) q_int) (q_var (pv 2))) qa_nil)) q_int) rfl))))))) q_nil)
  (q_seq (q_ifS (q_cmpT op_gt k_gtI (q_getK (hu_of hr) (q_var (pv 0)) q_str (fun _ _ => rfl)) q_int (nomark _)) (q_seq (q_set (ps_set (i := 3) sc__law_draw.nd rfl (Or.inl rfl) (q_op op_modN k_modI (q_callTy call_intAll ka_intAll rfl T.b_int (by decide +kernel) (qa_cons (q_getK (hu_of hr) (q_var (pv 0)) q_str (fun _ _ => rfl)) qa_nil)) (q_var (pv 1)))))
  (q_seq (q_putK (ps_dput (hu_of hr) (q_var (pv 0)) q_str (q_op op_divO k_divI (q_getK (hu_of hr) (q_var (pv 0)) q_str (fun _ _ => rfl)) (q_var (pv 1))) rfl))
  (q_one (q_ret (q_var (pv 3)))))) q_nil)
  (q_seq (q_set (ps_set (i := 4) sc__law_draw.nd rfl (Or.inl rfl) (q_op op_addAll (k_addAll T.hK) (q_op op_addAll (k_addAll T.hK) (q_getK (hu_of hr) (q_var (pv 0)) q_str (fun _ _ => rfl)) (q_op op_mulAll (k_mulAll T.hK) (q_getK (hu_of hr) (q_var (pv 0)) q_str (fun _ _ => rfl)) q_int)) q_int)))
  (q_one (q_ret (q_op op_modN k_modI (q_op op_divO k_divI (q_callTy call_intAll ka_intAll rfl T.b_int (by decide +kernel) (qa_cons (q_op op_modN k_modI (q_op op_pow k_powI (q_var (pv 4)) q_int) q_int) qa_nil)) q_int) (q_var (pv 1)))))))))
theorem ok__law_gcd (T : Txt P K mg A fd Γ) : FnOk P w K mg base (L2.CX P w) 1 (A 16) (fd 16) ["_law_one", "_law_two"] (spF Γ 2 F__law_gcd) := fn_ok T.f__law_gcd sc__law_gcd fun cdv A' outer s H E hr tk => by
  exact (q_seq (q_par (ps_par (i := 0) (j := 1) rfl sc__law_gcd.nd rfl rfl (by decide) rfl rfl (qa_cons (q_callB call_abs ka_abs rfl T.b_abs (by decide +kernel) (qa_cons (q_var (pv 0)) qa_nil)) (qa_cons (q_callB call_abs ka_abs rfl T.b_abs (by decide +kernel) (qa_cons (q_var (pv 1)) qa_nil)) qa_nil)) rfl))
  (q_seq (q_for (passes_of rfl) rfl (qi_range1 rfl T.b_range q_int) (qg_name (pg_name (i := 2) sc__law_gcd.nd rfl (Or.inl rfl))) (q_seq (q_ifS (q_cmpT (op_eqD hr.units) (k_eqD T.hK) (q_var (pv 1)) q_int (nomark _)) (q_one q_break) q_nil)
  (q_one (q_par (ps_par (i := 0) (j := 1) rfl sc__law_gcd.nd rfl rfl (by decide) rfl rfl (qa_cons (q_var (pv 1)) (qa_cons (q_op op_modN k_modI (q_callTy call_intAll ka_intAll rfl T.b_int (by decide +kernel) (qa_cons (q_var (pv 0)) qa_nil)) (q_var (pv 1))) qa_nil)) rfl)))))
  (q_one (q_ret (q_var (pv 0))))))
theorem ok__law_q (T : Txt P K mg A fd Γ) : FnOk P w K mg base (L2.CX P w) 2 (A 17) (fd 17) ["_law_top", "_law_bottom"] (spF Γ 2 F__law_q) := fn_ok T.f__law_q sc__law_q fun cdv A' outer s H E hr tk => by
  exact (q_seq (q_set (ps_set (i := 2) sc__law_q.nd rfl (Or.inl rfl) (q_call (ok__law_gcd T) (hr.mono (by decide)) rfl T.g__law_gcd T.f__law_gcd.kp T.n__law_gcd .nil (fun _ _ => RepL.nil) tk (qa_cons (q_var (pv 0)) (qa_cons (q_var (pv 1)) qa_nil)))))
  (q_seq (q_ifS (q_cmpT op_lt k_ltI (q_var (pv 1)) q_int (nomark _)) (q_one (q_set (ps_set (i := 2) sc__law_q.nd rfl (Or.inl rfl) (q_neg (q_var (pv 2)))))) q_nil)
  (q_one (q_ret (q_tup (qa_cons (q_op op_divO k_divI (q_var (pv 0)) (q_var (pv 2))) (qa_cons (q_op op_divO k_divI (q_var (pv 1)) (q_var (pv 2))) qa_nil)))))))
theorem ok__law_plus (T : Txt P K mg A fd Γ) : FnOk P w K mg base (L2.CX P w) 3 (A 18) (fd 18) ["_law_one", "_law_two"] (spF Γ 2 F__law_plus) := fn_ok T.f__law_plus sc__law_plus fun cdv A' outer s H E hr tk => by
  exact (q_one (q_ret (q_call (ok__law_q T) (hr.mono (by decide)) rfl T.g__law_q T.f__law_q.kp T.n__law_q .nil (fun _ _ => RepL.nil) tk (qa_cons (q_op op_addAll (k_addAll T.hK) (q_op op_mulAll (k_mulAll T.hK) (q_ix T.hK (q_var (pv 0)) q_int (fun _ _ => rfl)) (q_ix T.hK (q_var (pv 1)) q_int (fun _ _ => rfl))) (q_op op_mulAll (k_mulAll T.hK) (q_ix T.hK (q_var (pv 1)) q_int (fun _ _ => rfl)) (q_ix T.hK (q_var (pv 0)) q_int (fun _ _ => rfl)))) (qa_cons (q_op op_mulAll (k_mulAll T.hK) (q_ix T.hK (q_var (pv 0)) q_int (fun _ _ => rfl)) (q_ix T.hK (q_var (pv 1)) q_int (fun _ _ => rfl))) qa_nil)))))
theorem ok__law_minus (T : Txt P K mg A fd Γ) : FnOk P w K mg base (L2.CX P w) 3 (A 19) (fd 19) ["_law_one", "_law_two"] (spF Γ 2 F__law_minus) := fn_ok T.f__law_minus sc__law_minus fun cdv A' outer s H E hr tk => by
  exact (q_one (q_ret (q_call (ok__law_q T) (hr.mono (by decide)) rfl T.g__law_q T.f__law_q.kp T.n__law_q .nil (fun _ _ => RepL.nil) tk (qa_cons (q_op op_sub k_subI (q_op op_mulAll (k_mulAll T.hK) (q_ix T.hK (q_var (pv 0)) q_int (fun _ _ => rfl)) (q_ix T.hK (q_var (pv 1)) q_int (fun _ _ => rfl))) (q_op op_mulAll (k_mulAll T.hK) (q_ix T.hK (q_var (pv 1)) q_int (fun _ _ => rfl)) (q_ix T.hK (q_var (pv 0)) q_int (fun _ _ => rfl)))) (qa_cons (q_op op_mulAll (k_mulAll T.hK) (q_ix T.hK (q_var (pv 0)) q_int (fun _ _ => rfl)) (q_ix T.hK (q_var (pv 1)) q_int (fun _ _ => rfl))) qa_nil)))))
theorem ok__law_times (T : Txt P K mg A fd Γ) : FnOk P w K mg base (L2.CX P w) 3 (A 20) (fd 20) ["_law_one", "_law_two"] (spF Γ 2 F__law_times) := fn_ok T.f__law_times sc__law_times fun cdv A' outer s H E hr tk => by
  exact (q_one (q_ret (q_call (ok__law_q T) (hr.mono (by decide)) rfl T.g__law_q T.f__law_q.kp T.n__law_q .nil (fun _ _ => RepL.nil) tk (qa_cons (q_op op_mulAll (k_mulAll T.hK) (q_ix T.hK (q_var (pv 0)) q_int (fun _ _ => rfl)) (q_ix T.hK (q_var (pv 1)) q_int (fun _ _ => rfl))) (qa_cons (q_op op_mulAll (k_mulAll T.hK) (q_ix T.hK (q_var (pv 0)) q_int (fun _ _ => rfl)) (q_ix T.hK (q_var (pv 1)) q_int (fun _ _ => rfl))) qa_nil)))))
theorem ok__law_sign (T : Txt P K mg A fd Γ) : FnOk P w K mg base (L2.CX P w) 1 (A 21) (fd 21) ["_law_one"] (spF Γ 1 F__law_sign) := fn_ok T.f__law_sign sc__law_sign fun cdv A' outer s H E hr tk => by
  exact (q_one (q_ret (q_op op_sub k_subI (q_callTy call_intAll ka_intAll rfl T.b_int (by decide +kernel) (qa_cons (q_cmp op_gt k_gtI (q_ix T.hK (q_var (pv 0)) q_int (fun _ _ => rfl)) q_int (nomark _)) qa_nil)) (q_callTy call_intAll ka_intAll rfl T.b_int (by decide +kernel) (qa_cons (q_cmp op_lt k_ltI (q_ix T.hK (q_var (pv 0)) q_int (fun _ _ => rfl)) q_int (nomark _)) qa_nil)))))
theorem ok__law_is_ratio (T : Txt P K mg A fd Γ) : FnOk P w K mg base (L2.CX P w) 1 (A 22) (fd 22) ["_law_value", "_law_due"] (spF Γ 2 F__law_is_ratio) := fn_ok T.f__law_is_ratio sc__law_is_ratio fun cdv A' outer s H E hr tk => by
  exact (q_seq (q_ifS (q_not (q_val (q_is1 (cl := (.own 0)) T.iok T.hK rfl T.b_isinstance (q_var (pv 0)) (pe_glob rfl T.c_Ratio rfl)))) (q_one (q_ret q_bl)) q_nil)
  (q_seq (q_set (ps_set (i := 2) sc__law_is_ratio.nd rfl (Or.inl rfl) (q_lst (qa_cons (q_fld T.gok T.hK (q_var (pv 0))) (qa_cons (q_fld T.gok T.hK (q_var (pv 0))) qa_nil)))))
  (q_seq (q_ifS (q_cmpT (op_neD hr.units) (k_neD T.hK) (q_ofO (qo_comp (own := [("_law_part", 3)]) (pure_gN 3) rfl sc__law_is_ratio.nd (qi_seq T.hK (q_var (pv 2))) (blkOk_by (own := [("_law_part", 3)]) (N := N__law_is_ratio) (sc := defScope s__law_is_ratio) (by decide +kernel)) (fun _ _ _ _ _ => qv_name (by decide) (pg_name (i := 3) sc__law_is_ratio.nd rfl (Or.inl rfl))) (fun _ _ _ _ _ => (pts_one (PW.pt (q_or (q_not (q_val (q_is1 (cl := .int) T.iok T.hK rfl T.b_isinstance (q_var (pv 3)) (pe_tyI "int" "int" rfl T.b_int (by decide +kernel))))) (q_or1 (q_val (q_is1 (cl := .bool) T.iok T.hK rfl T.b_isinstance (q_var (pv 3)) (pe_tyI "bool" "bool" rfl T.b_bool (by decide +kernel))))))))) (fun _ _ _ _ _ => (q_var (pv 3))))) (q_lst qa_nil) (nomark _)) (q_one (q_ret q_bl)) q_nil)
  (q_one (q_ret (q_cmp (op_eqD hr.units) (k_eqD T.hK) (q_tup (qa_cons (q_fld T.gok T.hK (q_var (pv 0))) (qa_cons (q_fld T.gok T.hK (q_var (pv 0))) qa_nil))) (q_var (pv 1)) (nomark _)))))))
theorem ok__law_integer (T : Txt P K mg A fd Γ) : FnOk P w K mg base (L2.CX P w) 2 (A 23) (fd 23) ["_law_pen_here"] (spF Γ 1 F__law_integer) := fn_ok T.f__law_integer sc__law_integer fun cdv A' outer s H E hr tk => by
  exact (q_seq (q_ifS (q_cmpT op_gt k_gtI (q_call (ok__law_draw T) (hr.mono (by decide)) rfl T.g__law_draw T.f__law_draw.kp T.n__law_draw .nil (fun _ _ => RepL.nil) tk (qa_cons (q_var (pv 0)) (qa_cons q_int qa_nil))) q_int (nomark _)) (q_one (q_ret (q_op op_sub k_subI (q_call (ok__law_draw T) (hr.mono (by decide)) rfl T.g__law_draw T.f__law_draw.kp T.n__law_draw .nil (fun _ _ => RepL.nil) tk (qa_cons (q_var (pv 0)) (qa_cons q_int qa_nil))) q_int))) q_nil)
  (q_one (q_ret (q_op op_mulAll (k_mulAll T.hK) (q_op op_addAll (k_addAll T.hK) (q_op op_mulAll (k_mulAll T.hK) (q_call (ok__law_draw T) (hr.mono (by decide)) rfl T.g__law_draw T.f__law_draw.kp T.n__law_draw .nil (fun _ _ => RepL.nil) tk (qa_cons (q_var (pv 0)) (qa_cons (q_op op_pow k_powI q_int q_int) qa_nil))) (q_op op_pow k_powI q_int q_int)) (q_call (ok__law_draw T) (hr.mono (by decide)) rfl T.g__law_draw T.f__law_draw.kp T.n__law_draw .nil (fun _ _ => RepL.nil) tk (qa_cons (q_var (pv 0)) (qa_cons (q_op op_pow k_powI q_int q_int) qa_nil)))) (q_op op_sub k_subI q_int (q_op op_mulAll (k_mulAll T.hK) q_int (q_call (ok__law_draw T) (hr.mono (by decide)) rfl T.g__law_draw T.f__law_draw.kp T.n__law_draw .nil (fun _ _ => RepL.nil) tk (qa_cons (q_var (pv 0)) (qa_cons q_int qa_nil)))))))))
theorem ok__law_made (T : Txt P K mg A fd Γ) : FnOk P w K mg base (L2.CX P w) 5 (A 24) (fd 24) ["_law_pen_here", "_law_pair"] (spF Γ 2 F__law_made) := fn_ok T.f__law_made sc__law_made fun cdv A' outer s H E hr tk => by
  exact (q_seq (q_set (ps_set (i := 2) sc__law_made.nd rfl (Or.inl rfl) (q_ix T.hK (q_lst (qa_cons q_int (qa_cons q_int (qa_cons q_int (qa_cons (q_neg q_int) (qa_cons q_int (qa_cons (q_neg q_int) qa_nil))))))) (q_call (ok__law_draw T) (hr.mono (by decide)) rfl T.g__law_draw T.f__law_draw.kp T.n__law_draw .nil (fun _ _ => RepL.nil) tk (qa_cons (q_var (pv 0)) (qa_cons q_int qa_nil))) (fun _ _ => rfl))))
  (q_one (q_ret (q_make T.mk_Ratio (ok_Ratio___init__ T) (hr.mono (by decide)) rfl T.c_Ratio T.n_Ratio___init__ .nil (fun _ _ => RepL.nil) tk (qa_cons (q_op op_mulAll (k_mulAll T.hK) (q_ix T.hK (q_var (pv 1)) q_int (fun _ _ => rfl)) (q_var (pv 2))) (qa_cons (q_op op_mulAll (k_mulAll T.hK) (q_ix T.hK (q_var (pv 1)) q_int (fun _ _ => rfl)) (q_var (pv 2))) qa_nil))))))
theorem ok__law_bottom_named (T : Txt P K mg A fd Γ) (al : FL) (f : Addr) (as1 : List Addr) (G1 : Hp) (cdv : Value) (A' : Around) (outer : List Env) (s : Shared) (H : Hp) (E : XK) {kk : Nat} (hr : Room kk (A'.deeper (envOfC "_law_bottom_named" (defScope s__law_bottom_named) s.heap.objs.size (A 25) cdv))) (tk : Takes (cxOf (L2.CX P w) P w K mg base N__law_bottom_named "_law_bottom_named" (defScope s__law_bottom_named) (A 25) cdv A' outer s H E) (fun cls d _ H => E cls d H)) (act : ∀ (V0 : WX) (pn : List (Addr × Obj)) (xe : Value → Shared → Prop) (p1 p2 : Pos), Takes ((cxOf (L2.CX P w) P w K mg base N__law_bottom_named "_law_bottom_named" (defScope s__law_bottom_named) (A 25) cdv A' outer s H E).tr pn xe) V0 → PE ((cxOf (L2.CX P w) P w K mg base N__law_bottom_named "_law_bottom_named" (defScope s__law_bottom_named) (A 25) cdv A' outer s H E).tr pn xe) (.Call (.Name "_law_action" p1) [] [] p2) (tE (Γ.wf f as1 G1) V0 (dAct 0 al))) : PSs (cxOf (L2.CX P w) P w K mg base N__law_bottom_named "_law_bottom_named" (defScope s__law_bottom_named) (A 25) cdv A' outer s H E) (defBody s__law_bottom_named) (tS (Γ.wf f as1 G1) (fun cls d _ H => E cls d H) (b__law_bottom_named al)) := by
  have T1 := T.toTxtB.wf f as1 G1
  exact (q_seq (q_tryAs (i := 1) T.xm rfl rfl sc__law_bottom_named.nd rfl rfl ⟨rfl, by decide, .inl T.g_BadNumber⟩ tk (fun W' pn xe tk' hp' => (q_one (q_expr (act _ _ _ _ _ tk')))) (fun a oe cls d pn hz hf => q_sui fun d' ed ec => (by
  have T0 := T1.wx a 3 d'
  exact (q_one (q_ret (q_andV (q_cmp (op_eqD hr.units) (k_eqD T0.hK) (q_tup (qa_cons (q_xf T.xf_BadNumber T.of_BadNumber_what hz hf ed ec (pv 1)) (qa_cons (q_xf T.xf_BadNumber T.of_BadNumber_number hz hf ed ec (pv 1)) qa_nil))) (q_tup (qa_cons q_str (qa_cons q_int qa_nil))) (nomark _)) (q_oneV (q_notV (q_is1 (cl := .bool) T0.iok T0.hK rfl T0.b_isinstance (q_xf T.xf_BadNumber T.of_BadNumber_number hz hf ed ec (pv 1)) (pe_tyI "bool" "bool" rfl T0.b_bool (by decide +kernel)))))))))))
  (q_one (q_ret q_bl)))
theorem ok__law_is_order (T : Txt P K mg A fd Γ) : FnOk P w K mg base (L2.CX P w) 4 (A 26) (fd 26) ["_law_one", "_law_other", "_law_due"] (spF Γ 3 F__law_is_order) := fn_ok T.f__law_is_order sc__law_is_order fun cdv A' outer s H E hr tk => by
  exact (q_seq (q_set (ps_set (i := 3) sc__law_is_order.nd rfl (Or.inl rfl) (q_meth (q_var (pv 0)) (T.iok.cl 0 rfl) T.m_Ratio_compared (ok_Ratio_compared T) (hr.mono (by decide)) T.n_Ratio_compared .nil (fun _ _ => RepL.nil) tk (qa_cons (q_var (pv 1)) qa_nil))))
  (q_seq (q_ifS (PW.pt (q_or (q_not (q_val (q_is1 (cl := .int) T.iok T.hK rfl T.b_isinstance (q_var (pv 3)) (pe_tyI "int" "int" rfl T.b_int (by decide +kernel))))) (q_or (q_val (q_is1 (cl := .bool) T.iok T.hK rfl T.b_isinstance (q_var (pv 3)) (pe_tyI "bool" "bool" rfl T.b_bool (by decide +kernel)))) (q_or1 (q_cmpT (op_neD hr.units) (k_neD T.hK) (q_var (pv 3)) (q_var (pv 2)) (nomark _)))))) (q_one (q_ret q_bl)) q_nil)
  (q_seq (q_set (ps_set (i := 4) sc__law_is_order.nd rfl (Or.inl rfl) (q_lst (qa_cons (q_meth (q_var (pv 0)) (T.iok.cl 0 rfl) T.m_Ratio_under (ok_Ratio_under T) (hr.mono (by decide)) T.n_Ratio_under .nil (fun _ _ => RepL.nil) tk (qa_cons (q_var (pv 1)) qa_nil)) (qa_cons (q_meth (q_var (pv 0)) (T.iok.cl 0 rfl) T.m_Ratio_at_most (ok_Ratio_at_most T) (hr.mono (by decide)) T.n_Ratio_at_most .nil (fun _ _ => RepL.nil) tk (qa_cons (q_var (pv 1)) qa_nil)) (qa_cons (q_cmpS (OpS.orS (OpS.of (op_eqD hr.units)) (op_ownC (fun _ _ => rfl) T.o_Ratio___eq__.at_ T.o_Ratio___eq__.fn (ok_Ratio___eq__ T) (hr.mono (by decide)) T.n_Ratio___eq__ (fun σ => passAt tk σ))) (k_ownCmp T.iok T.hK T.o_Ratio___eq__ (k_eqD T.hK)) (q_var (pv 0)) (q_var (pv 1)) (nomark _)) qa_nil))))))
  (q_seq (q_ifS (q_cmpT (op_neD hr.units) (k_neD T.hK) (q_ofO (qo_comp (own := [("_law_answer", 5)]) (pure_gN 5) rfl sc__law_is_order.nd (qi_seq T.hK (q_var (pv 4))) (blkOk_by (own := [("_law_answer", 5)]) (N := N__law_is_order) (sc := defScope s__law_is_order) (by decide +kernel)) (fun _ _ _ _ _ => qv_name (by decide) (pg_name (i := 5) sc__law_is_order.nd rfl (Or.inl rfl))) (fun _ _ _ _ _ => (pts_one (q_not (q_val (q_is1 (cl := .bool) T.iok T.hK rfl T.b_isinstance (q_var (pv 5)) (pe_tyI "bool" "bool" rfl T.b_bool (by decide +kernel))))))) (fun _ _ _ _ _ => q_int))) (q_lst qa_nil) (nomark _)) (q_one (q_ret q_bl)) q_nil)
  (q_one (q_ret (q_cmpS (OpS.orS (OpS.of (op_eqD hr.units)) (op_ownC (fun _ _ => rfl) T.o_Ratio___eq__.at_ T.o_Ratio___eq__.fn (ok_Ratio___eq__ T) (hr.mono (by decide)) T.n_Ratio___eq__ (fun σ => passAt tk σ))) (k_ownCmp T.iok T.hK T.o_Ratio___eq__ (k_eqD T.hK)) (q_var (pv 4)) (q_lst (qa_cons (q_cmp op_lt k_ltI (q_var (pv 2)) q_int (nomark _)) (qa_cons (q_cmp op_le k_leI (q_var (pv 2)) q_int (nomark _)) (qa_cons (q_cmpS (OpS.orS (OpS.of (op_eqD hr.units)) (op_ownC (fun _ _ => rfl) T.o_Ratio___eq__.at_ T.o_Ratio___eq__.fn (ok_Ratio___eq__ T) (hr.mono (by decide)) T.n_Ratio___eq__ (fun σ => passAt tk σ))) (k_ownCmp T.iok T.hK T.o_Ratio___eq__ (k_eqD T.hK)) (q_var (pv 2)) q_int (nomark _)) qa_nil)))) (nomark _))))))))
theorem ok__law_with_integer (T : Txt P K mg A fd Γ) : FnOk P w K mg base (L2.CX P w) 6 (A 27) (fd 27) ["_law_one", "_law_pair", "_law_number"] (spF Γ 3 F__law_with_integer) := fn_ok T.f__law_with_integer sc__law_with_integer fun cdv A' outer s H E hr tk => by
  exact (q_seq (q_set (ps_set (i := 3) sc__law_with_integer.nd rfl (Or.inl rfl) (q_tup (qa_cons (q_var (pv 2)) (qa_cons q_int qa_nil)))))
  (q_seq (q_ifS (PW.pt (q_or (q_not (q_val (q_call (ok__law_is_ratio T) (hr.mono (by decide)) rfl T.g__law_is_ratio T.f__law_is_ratio.kp T.n__law_is_ratio .nil (fun _ _ => RepL.nil) tk (qa_cons (q_opS (OpS.orS (OpS.of op_addAll) (op_ownB (T.o_Ratio___add__) (ok_Ratio___add__ T) (hr.mono (by decide)) T.n_Ratio___add__ (fun σ => passAt tk σ))) (k_ownOp (k_addAll T.hK)) (q_var (pv 0)) (q_var (pv 2))) (qa_cons (q_call (ok__law_plus T) (hr.mono (by decide)) rfl T.g__law_plus T.f__law_plus.kp T.n__law_plus .nil (fun _ _ => RepL.nil) tk (qa_cons (q_var (pv 1)) (qa_cons (q_var (pv 3)) qa_nil))) qa_nil))))) (q_or1 (q_not (q_val (q_call (ok__law_is_ratio T) (hr.mono (by decide)) rfl T.g__law_is_ratio T.f__law_is_ratio.kp T.n__law_is_ratio .nil (fun _ _ => RepL.nil) tk (qa_cons (q_opS (OpS.orS (OpS.of op_sub) (op_ownB (T.o_Ratio___sub__) (ok_Ratio___sub__ T) (hr.mono (by decide)) T.n_Ratio___sub__ (fun σ => passAt tk σ))) (k_ownOp k_subI) (q_var (pv 0)) (q_var (pv 2))) (qa_cons (q_call (ok__law_minus T) (hr.mono (by decide)) rfl T.g__law_minus T.f__law_minus.kp T.n__law_minus .nil (fun _ _ => RepL.nil) tk (qa_cons (q_var (pv 1)) (qa_cons (q_var (pv 3)) qa_nil))) qa_nil)))))))) (q_one (q_ret q_bl)) q_nil)
  (q_seq (q_ifS (q_not (q_val (q_call (ok__law_is_ratio T) (hr.mono (by decide)) rfl T.g__law_is_ratio T.f__law_is_ratio.kp T.n__law_is_ratio .nil (fun _ _ => RepL.nil) tk (qa_cons (q_opS (OpS.orS (OpS.of op_mulAll) (op_ownB (T.o_Ratio___mul__) (ok_Ratio___mul__ T) (hr.mono (by decide)) T.n_Ratio___mul__ (fun σ => passAt tk σ))) (k_ownOp (k_mulAll T.hK)) (q_var (pv 0)) (q_var (pv 2))) (qa_cons (q_call (ok__law_times T) (hr.mono (by decide)) rfl T.g__law_times T.f__law_times.kp T.n__law_times .nil (fun _ _ => RepL.nil) tk (qa_cons (q_var (pv 1)) (qa_cons (q_var (pv 3)) qa_nil))) qa_nil))))) (q_one (q_ret q_bl)) q_nil)
  (q_seq (q_ifS (PW.pt (q_and (q_cmpT (op_neD hr.units) (k_neD T.hK) (q_var (pv 2)) q_int (nomark _)) (q_and1 (q_not (q_val (q_call (ok__law_is_ratio T) (hr.mono (by decide)) rfl T.g__law_is_ratio T.f__law_is_ratio.kp T.n__law_is_ratio .nil (fun _ _ => RepL.nil) tk (qa_cons (q_meth (q_var (pv 0)) (T.iok.cl 0 rfl) T.m_Ratio_over (ok_Ratio_over T) (hr.mono (by decide)) T.n_Ratio_over .nil (fun _ _ => RepL.nil) tk (qa_cons (q_var (pv 2)) qa_nil)) (qa_cons (q_call (ok__law_q T) (hr.mono (by decide)) rfl T.g__law_q T.f__law_q.kp T.n__law_q .nil (fun _ _ => RepL.nil) tk (qa_cons (q_ix T.hK (q_var (pv 1)) q_int (fun _ _ => rfl)) (qa_cons (q_opS (OpS.orS (OpS.of op_mulAll) (op_ownB (T.o_Ratio___mul__) (ok_Ratio___mul__ T) (hr.mono (by decide)) T.n_Ratio___mul__ (fun σ => passAt tk σ))) (k_ownOp (k_mulAll T.hK)) (q_ix T.hK (q_var (pv 1)) q_int (fun _ _ => rfl)) (q_var (pv 2))) qa_nil))) qa_nil)))))))) (q_one (q_ret q_bl)) q_nil)
  (q_one (q_ret (q_call (ok__law_is_order T) (hr.mono (by decide)) rfl T.g__law_is_order T.f__law_is_order.kp T.n__law_is_order .nil (fun _ _ => RepL.nil) tk (qa_cons (q_var (pv 0)) (qa_cons (q_var (pv 2)) (qa_cons (q_call (ok__law_sign T) (hr.mono (by decide)) rfl T.g__law_sign T.f__law_sign.kp T.n__law_sign .nil (fun _ _ => RepL.nil) tk (qa_cons (q_call (ok__law_minus T) (hr.mono (by decide)) rfl T.g__law_minus T.f__law_minus.kp T.n__law_minus .nil (fun _ _ => RepL.nil) tk (qa_cons (q_var (pv 1)) (qa_cons (q_var (pv 3)) qa_nil))) qa_nil)) qa_nil))))))))))
theorem ok_law (T : Txt P K mg A fd Γ) {cO : Str → Addr} (U : TxtU base mg fd Γ cO) : FnOk P w K mg base (L2.CX P w) 8 (A 28) (fd 28) ["_law_script"] (spF Γ 1 F_law) := fn_okC U.c_law T.f_law sc_law fun A' outer s H E hr tk => by
  exact (q_seq (q_set (ps_set (i := 1) sc_law.nd rfl (Or.inr rfl) (q_call (ok__law_pen T) (hr.mono (by decide)) rfl T.g__law_pen T.f__law_pen.kp T.n__law_pen .nil (fun _ _ => RepL.nil) tk (qa_cons (q_var (pv 0)) qa_nil))))
  (q_seq (q_for (passes_of rfl) rfl (qi_range1 rfl T.b_range q_int) (qg_name (pg_name (i := 2) sc_law.nd rfl (Or.inl rfl))) (q_seq (q_asg (q_ofO (qo_comp (own := [("_law_k", 12)]) (pure_gN 12) rfl sc_law.nd (qi_range1 rfl T.b_range q_int) (blkOk_by (own := [("_law_k", 12)]) (N := N_law) (sc := defScope s_law) (by decide +kernel)) (fun _ _ _ _ _ => qv_name (by decide) (pg_name (i := 12) sc_law.nd rfl (Or.inl rfl))) (fun _ _ _ _ _ => qts_nil) (fun _ _ _ _ _ => (q_call (ok__law_integer T) (hr.mono (by decide)) rfl T.g__law_integer T.f__law_integer.kp T.n__law_integer .nil (fun _ _ => RepL.nil) takes0 (qa_cons (q_var (pv 1)) qa_nil))))) (qg_tupA T.hK rfl (qgs_cons (qg_name (pg_name (i := 3) sc_law.nd rfl (Or.inr rfl))) (qgs_cons (qg_name (pg_name (i := 4) sc_law.nd rfl (Or.inl rfl))) (qgs_cons (qg_name (pg_name (i := 5) sc_law.nd rfl (Or.inl rfl))) (qgs_cons (qg_name (pg_name (i := 6) sc_law.nd rfl (Or.inl rfl))) qgs_nil))))))
  (q_seq (q_par (ps_par (i := 7) (j := 8) rfl sc_law.nd rfl rfl (by decide) rfl rfl (qa_cons (q_call (ok__law_q T) (hr.mono (by decide)) rfl T.g__law_q T.f__law_q.kp T.n__law_q .nil (fun _ _ => RepL.nil) tk (qa_cons (q_var (pv 3)) (qa_cons (q_if (q_cmpT (op_neD hr.units) (k_neD T.hK) (q_var (pv 4)) q_int (nomark _)) (q_var (pv 4)) q_int) qa_nil))) (qa_cons (q_call (ok__law_q T) (hr.mono (by decide)) rfl T.g__law_q T.f__law_q.kp T.n__law_q .nil (fun _ _ => RepL.nil) tk (qa_cons (q_var (pv 5)) (qa_cons (q_if (q_cmpT (op_neD hr.units) (k_neD T.hK) (q_var (pv 6)) q_int (nomark _)) (q_var (pv 6)) (q_unS (UnS.or (UnS.of un_neg) (un_ownN (T.o_Ratio___neg__) (ok_Ratio___neg__ T) (hr.mono (by decide)) T.n_Ratio___neg__ (fun σ => passAt tk σ))) (k_ownUn k_negI) q_int)) qa_nil))) qa_nil)) rfl))
  (q_seq (q_ifS (q_cmpT (op_eqD hr.units) (k_eqD T.hK) (q_call (ok__law_draw T) (hr.mono (by decide)) rfl T.g__law_draw T.f__law_draw.kp T.n__law_draw .nil (fun _ _ => RepL.nil) tk (qa_cons (q_var (pv 1)) (qa_cons q_int qa_nil))) q_int (nomark _)) (q_one (q_set (ps_set (i := 8) sc_law.nd rfl (Or.inl rfl) (q_var (pv 7))))) q_nil)
  (q_seq (q_asg (q_tup (qa_cons (q_call (ok__law_made T) (hr.mono (by decide)) rfl T.g__law_made T.f__law_made.kp T.n__law_made .nil (fun _ _ => RepL.nil) tk (qa_cons (q_var (pv 1)) (qa_cons (q_var (pv 7)) qa_nil))) (qa_cons (q_call (ok__law_made T) (hr.mono (by decide)) rfl T.g__law_made T.f__law_made.kp T.n__law_made .nil (fun _ _ => RepL.nil) tk (qa_cons (q_var (pv 1)) (qa_cons (q_var (pv 8)) qa_nil))) qa_nil))) (qg_tup T.hK rfl (qgs_cons (qg_name (pg_name (i := 9) sc_law.nd rfl (Or.inr rfl))) (qgs_cons (qg_name (pg_name (i := 10) sc_law.nd rfl (Or.inr rfl))) qgs_nil))))
  (q_seq (q_ifS (PW.pt (q_or (q_not (q_val (q_call (ok__law_is_ratio T) (hr.mono (by decide)) rfl T.g__law_is_ratio T.f__law_is_ratio.kp T.n__law_is_ratio .nil (fun _ _ => RepL.nil) tk (qa_cons (q_var (pv 9)) (qa_cons (q_var (pv 7)) qa_nil))))) (q_or1 (q_not (q_val (q_call (ok__law_is_ratio T) (hr.mono (by decide)) rfl T.g__law_is_ratio T.f__law_is_ratio.kp T.n__law_is_ratio .nil (fun _ _ => RepL.nil) tk (qa_cons (q_unS (UnS.or (UnS.of un_neg) (un_ownN (T.o_Ratio___neg__) (ok_Ratio___neg__ T) (hr.mono (by decide)) T.n_Ratio___neg__ (fun σ => passAt tk σ))) (k_ownUn k_negI) (q_var (pv 9))) (qa_cons (q_tup (qa_cons (q_unS (UnS.or (UnS.of un_neg) (un_ownN (T.o_Ratio___neg__) (ok_Ratio___neg__ T) (hr.mono (by decide)) T.n_Ratio___neg__ (fun σ => passAt tk σ))) (k_ownUn k_negI) (q_ix T.hK (q_var (pv 7)) q_int (fun _ _ => rfl))) (qa_cons (q_ix T.hK (q_var (pv 7)) q_int (fun _ _ => rfl)) qa_nil))) qa_nil)))))))) (q_one (q_ret q_bl)) q_nil)
  (q_seq (q_ifS (q_not (q_val (q_call (ok__law_is_ratio T) (hr.mono (by decide)) rfl T.g__law_is_ratio T.f__law_is_ratio.kp T.n__law_is_ratio .nil (fun _ _ => RepL.nil) tk (qa_cons (q_opS (OpS.orS (OpS.of op_addAll) (op_ownB (T.o_Ratio___add__) (ok_Ratio___add__ T) (hr.mono (by decide)) T.n_Ratio___add__ (fun σ => passAt tk σ))) (k_ownOp (k_addAll T.hK)) (q_var (pv 9)) (q_var (pv 10))) (qa_cons (q_call (ok__law_plus T) (hr.mono (by decide)) rfl T.g__law_plus T.f__law_plus.kp T.n__law_plus .nil (fun _ _ => RepL.nil) tk (qa_cons (q_var (pv 7)) (qa_cons (q_var (pv 8)) qa_nil))) qa_nil))))) (q_one (q_ret q_bl)) q_nil)
  (q_seq (q_ifS (q_not (q_val (q_call (ok__law_is_ratio T) (hr.mono (by decide)) rfl T.g__law_is_ratio T.f__law_is_ratio.kp T.n__law_is_ratio .nil (fun _ _ => RepL.nil) tk (qa_cons (q_opS (OpS.orS (OpS.of op_sub) (op_ownB (T.o_Ratio___sub__) (ok_Ratio___sub__ T) (hr.mono (by decide)) T.n_Ratio___sub__ (fun σ => passAt tk σ))) (k_ownOp k_subI) (q_var (pv 9)) (q_var (pv 10))) (qa_cons (q_call (ok__law_minus T) (hr.mono (by decide)) rfl T.g__law_minus T.f__law_minus.kp T.n__law_minus .nil (fun _ _ => RepL.nil) tk (qa_cons (q_var (pv 7)) (qa_cons (q_var (pv 8)) qa_nil))) qa_nil))))) (q_one (q_ret q_bl)) q_nil)
  (q_seq (q_ifS (q_not (q_val (q_call (ok__law_is_ratio T) (hr.mono (by decide)) rfl T.g__law_is_ratio T.f__law_is_ratio.kp T.n__law_is_ratio .nil (fun _ _ => RepL.nil) tk (qa_cons (q_opS (OpS.orS (OpS.of op_mulAll) (op_ownB (T.o_Ratio___mul__) (ok_Ratio___mul__ T) (hr.mono (by decide)) T.n_Ratio___mul__ (fun σ => passAt tk σ))) (k_ownOp (k_mulAll T.hK)) (q_var (pv 9)) (q_var (pv 10))) (qa_cons (q_call (ok__law_times T) (hr.mono (by decide)) rfl T.g__law_times T.f__law_times.kp T.n__law_times .nil (fun _ _ => RepL.nil) tk (qa_cons (q_var (pv 7)) (qa_cons (q_var (pv 8)) qa_nil))) qa_nil))))) (q_one (q_ret q_bl)) q_nil)
  (q_seq (q_ifS (q_cmpT (op_eqD hr.units) (k_eqD T.hK) (q_ix T.hK (q_var (pv 8)) q_int (fun _ _ => rfl)) q_int (nomark _)) (q_one (q_ifS (q_not (q_val (q_lam (n := 0) (k := 5) (q := "law.<locals>.<lambda>") (by rfl) T.g__law_bottom_named T.f__law_bottom_named T.n__law_bottom_named sc__law_bottom_named rfl (Or.inl rfl) (by decide) (by decide) (fun al f as1 G1 cdv A1 o1 s1 H1 E1 hr1 tk1 act1 => ok__law_bottom_named T al f as1 G1 cdv A1 o1 s1 H1 E1 hr1 tk1 act1) T.hK U.t_law (by rfl) (by rfl) tk (hr.mono (by decide)) (show LamX.LamS (defScope s_law) _ from LamX.lamS_by (by decide +kernel)) (by rfl) (fun _ _ _ _ _ => by rfl) (fun A' outer s H E f z hr tk => (q_meth (q_var (pv 9)) (T.iok.cl 0 rfl) T.m_Ratio_over (ok_Ratio_over T) (hr.mono (by decide)) T.n_Ratio_over .nil (fun _ _ => RepL.nil) tk (qa_cons (q_var (pv 10)) qa_nil)))))) (q_one (q_ret q_bl)) q_nil)) (q_one (q_ifS (q_not (q_val (q_call (ok__law_is_ratio T) (hr.mono (by decide)) rfl T.g__law_is_ratio T.f__law_is_ratio.kp T.n__law_is_ratio .nil (fun _ _ => RepL.nil) tk (qa_cons (q_meth (q_var (pv 9)) (T.iok.cl 0 rfl) T.m_Ratio_over (ok_Ratio_over T) (hr.mono (by decide)) T.n_Ratio_over .nil (fun _ _ => RepL.nil) tk (qa_cons (q_var (pv 10)) qa_nil)) (qa_cons (q_call (ok__law_q T) (hr.mono (by decide)) rfl T.g__law_q T.f__law_q.kp T.n__law_q .nil (fun _ _ => RepL.nil) tk (qa_cons (q_opS (OpS.orS (OpS.of op_mulAll) (op_ownB (T.o_Ratio___mul__) (ok_Ratio___mul__ T) (hr.mono (by decide)) T.n_Ratio___mul__ (fun σ => passAt tk σ))) (k_ownOp (k_mulAll T.hK)) (q_ix T.hK (q_var (pv 7)) q_int (fun _ _ => rfl)) (q_ix T.hK (q_var (pv 8)) q_int (fun _ _ => rfl))) (qa_cons (q_opS (OpS.orS (OpS.of op_mulAll) (op_ownB (T.o_Ratio___mul__) (ok_Ratio___mul__ T) (hr.mono (by decide)) T.n_Ratio___mul__ (fun σ => passAt tk σ))) (k_ownOp (k_mulAll T.hK)) (q_ix T.hK (q_var (pv 7)) q_int (fun _ _ => rfl)) (q_ix T.hK (q_var (pv 8)) q_int (fun _ _ => rfl))) qa_nil))) qa_nil))))) (q_one (q_ret q_bl)) q_nil)))
  (q_seq (q_ifS (q_not (q_val (q_call (ok__law_is_order T) (hr.mono (by decide)) rfl T.g__law_is_order T.f__law_is_order.kp T.n__law_is_order .nil (fun _ _ => RepL.nil) tk (qa_cons (q_var (pv 9)) (qa_cons (q_var (pv 10)) (qa_cons (q_call (ok__law_sign T) (hr.mono (by decide)) rfl T.g__law_sign T.f__law_sign.kp T.n__law_sign .nil (fun _ _ => RepL.nil) tk (qa_cons (q_call (ok__law_minus T) (hr.mono (by decide)) rfl T.g__law_minus T.f__law_minus.kp T.n__law_minus .nil (fun _ _ => RepL.nil) tk (qa_cons (q_var (pv 7)) (qa_cons (q_var (pv 8)) qa_nil))) qa_nil)) qa_nil)))))) (q_one (q_ret q_bl)) q_nil)
  (q_seq (q_ifS (PW.pt (q_or (q_not (q_val (q_call (ok__law_with_integer T) (hr.mono (by decide)) rfl T.g__law_with_integer T.f__law_with_integer.kp T.n__law_with_integer .nil (fun _ _ => RepL.nil) tk (qa_cons (q_var (pv 9)) (qa_cons (q_var (pv 7)) (qa_cons (q_var (pv 3)) qa_nil)))))) (q_or1 (q_not (q_val (q_call (ok__law_with_integer T) (hr.mono (by decide)) rfl T.g__law_with_integer T.f__law_with_integer.kp T.n__law_with_integer .nil (fun _ _ => RepL.nil) tk (qa_cons (q_var (pv 9)) (qa_cons (q_var (pv 7)) (qa_cons (q_op op_divO k_divI (q_ix T.hK (q_var (pv 7)) q_int (fun _ _ => rfl)) (q_ix T.hK (q_var (pv 7)) q_int (fun _ _ => rfl))) qa_nil))))))))) (q_one (q_ret q_bl)) q_nil)
  (q_seq (q_ifS (q_not (q_val (q_lam (n := 0) (k := 5) (q := "law.<locals>.<lambda>") (by rfl) T.g__law_bottom_named T.f__law_bottom_named T.n__law_bottom_named sc__law_bottom_named rfl (Or.inl rfl) (by decide) (by decide) (fun al f as1 G1 cdv A1 o1 s1 H1 E1 hr1 tk1 act1 => ok__law_bottom_named T al f as1 G1 cdv A1 o1 s1 H1 E1 hr1 tk1 act1) T.hK U.t_law (by rfl) (by rfl) tk (hr.mono (by decide)) (show LamX.LamS (defScope s_law) _ from LamX.lamS_by (by decide +kernel)) (by rfl) (fun _ _ _ _ _ => by rfl) (fun A' outer s H E f z hr tk => (q_meth (q_var (pv 9)) (T.iok.cl 0 rfl) T.m_Ratio_over (ok_Ratio_over T) (hr.mono (by decide)) T.n_Ratio_over .nil (fun _ _ => RepL.nil) tk (qa_cons q_int qa_nil)))))) (q_one (q_ret q_bl)) q_nil)
  (q_seq (q_ifS (q_not (q_val (q_lam (n := 0) (k := 5) (q := "law.<locals>.<lambda>") (by rfl) T.g__law_bottom_named T.f__law_bottom_named T.n__law_bottom_named sc__law_bottom_named rfl (Or.inl rfl) (by decide) (by decide) (fun al f as1 G1 cdv A1 o1 s1 H1 E1 hr1 tk1 act1 => ok__law_bottom_named T al f as1 G1 cdv A1 o1 s1 H1 E1 hr1 tk1 act1) T.hK U.t_law (by rfl) (by rfl) tk (hr.mono (by decide)) (show LamX.LamS (defScope s_law) _ from LamX.lamS_by (by decide +kernel)) (by rfl) (fun _ _ _ _ _ => by rfl) (fun A' outer s H E f z hr tk => (q_make T.mk_Ratio (ok_Ratio___init__ T) (hr.mono (by decide)) rfl T.c_Ratio T.n_Ratio___init__ .nil (fun _ _ => RepL.nil) tk (qa_cons (q_var (pv 3)) (qa_cons q_int qa_nil))))))) (q_one (q_ret q_bl)) q_nil)
  (q_seq (q_set (ps_set (i := 11) sc_law.nd rfl (Or.inl rfl) (q_lst (qa_cons (q_cmpS (OpS.orS (OpS.of (op_eqD hr.units)) (op_ownC (fun _ _ => rfl) T.o_Ratio___eq__.at_ T.o_Ratio___eq__.fn (ok_Ratio___eq__ T) (hr.mono (by decide)) T.n_Ratio___eq__ (fun σ => passAt tk σ))) (k_ownCmp T.iok T.hK T.o_Ratio___eq__ (k_eqD T.hK)) (q_make T.mk_Ratio (ok_Ratio___init__ T) (hr.mono (by decide)) rfl T.c_Ratio (T.nd1_Ratio___init__).choose_spec.2 (T.nd1_Ratio___init__).choose_spec.1 (fun _ _ => (RepL.cons rfl RepL.nil)) tk (qa_cons (q_var (pv 3)) qa_nil)) (q_var (pv 3)) (nomark _)) (qa_cons (q_cmpS (OpS.orS (OpS.of (op_eqD hr.units)) (op_ownC (fun _ _ => rfl) T.o_Ratio___eq__.at_ T.o_Ratio___eq__.fn (ok_Ratio___eq__ T) (hr.mono (by decide)) T.n_Ratio___eq__ (fun σ => passAt tk σ))) (k_ownCmp T.iok T.hK T.o_Ratio___eq__ (k_eqD T.hK)) (q_make T.mk_Ratio (ok_Ratio___init__ T) (hr.mono (by decide)) rfl T.c_Ratio (T.nd1_Ratio___init__).choose_spec.2 (T.nd1_Ratio___init__).choose_spec.1 (fun _ _ => (RepL.cons rfl RepL.nil)) tk (qa_cons q_int qa_nil)) q_bl (nomark _)) (qa_cons (q_cmpS (OpS.orS (OpS.of (op_eqD hr.units)) (op_ownC (fun _ _ => rfl) T.o_Ratio___eq__.at_ T.o_Ratio___eq__.fn (ok_Ratio___eq__ T) (hr.mono (by decide)) T.n_Ratio___eq__ (fun σ => passAt tk σ))) (k_ownCmp T.iok T.hK T.o_Ratio___eq__ (k_eqD T.hK)) (q_make T.mk_Ratio (ok_Ratio___init__ T) (hr.mono (by decide)) rfl T.c_Ratio (T.nd1_Ratio___init__).choose_spec.2 (T.nd1_Ratio___init__).choose_spec.1 (fun _ _ => (RepL.cons rfl RepL.nil)) tk (qa_cons q_int qa_nil)) q_bl (nomark _)) (qa_cons (q_cmpS (OpS.orS (OpS.of (op_eqD hr.units)) (op_ownC (fun _ _ => rfl) T.o_Ratio___eq__.at_ T.o_Ratio___eq__.fn (ok_Ratio___eq__ T) (hr.mono (by decide)) T.n_Ratio___eq__ (fun σ => passAt tk σ))) (k_ownCmp T.iok T.hK T.o_Ratio___eq__ (k_eqD T.hK)) (q_var (pv 9)) q_str (nomark _)) (qa_cons (q_cmpS (OpS.orS (OpS.of (op_eqD hr.units)) (op_ownC (fun _ _ => rfl) T.o_Ratio___eq__.at_ T.o_Ratio___eq__.fn (ok_Ratio___eq__ T) (hr.mono (by decide)) T.n_Ratio___eq__ (fun σ => passAt tk σ))) (k_ownCmp T.iok T.hK T.o_Ratio___eq__ (k_eqD T.hK)) (q_var (pv 9)) q_non (nomark _)) (qa_cons (q_cmpS (OpS.orS (OpS.of (op_eqD hr.units)) (op_ownC (fun _ _ => rfl) T.o_Ratio___eq__.at_ T.o_Ratio___eq__.fn (ok_Ratio___eq__ T) (hr.mono (by decide)) T.n_Ratio___eq__ (fun σ => passAt tk σ))) (k_ownCmp T.iok T.hK T.o_Ratio___eq__ (k_eqD T.hK)) (q_var (pv 9)) (q_tup (qa_cons (q_var (pv 3)) (qa_cons q_int qa_nil))) (nomark _)) qa_nil)))))))))
  (q_seq (q_ifS (PW.pt (q_or (q_cmpT (op_neD hr.units) (k_neD T.hK) (q_var (pv 11)) (q_lst (qa_cons q_bl (qa_cons q_bl (qa_cons q_bl (qa_cons q_bl (qa_cons q_bl (qa_cons q_bl qa_nil))))))) (nomark _)) (q_or1 (q_not (q_val (q_call (ok__law_is_ratio T) (hr.mono (by decide)) rfl T.g__law_is_ratio T.f__law_is_ratio.kp T.n__law_is_ratio .nil (fun _ _ => RepL.nil) tk (qa_cons (q_make T.mk_Ratio (ok_Ratio___init__ T) (hr.mono (by decide)) rfl T.c_Ratio (T.nd1_Ratio___init__).choose_spec.2 (T.nd1_Ratio___init__).choose_spec.1 (fun _ _ => (RepL.cons rfl RepL.nil)) tk (qa_cons (q_var (pv 3)) qa_nil)) (qa_cons (q_tup (qa_cons (q_var (pv 3)) (qa_cons q_int qa_nil))) qa_nil)))))))) (q_one (q_ret q_bl)) q_nil)
  (q_one (q_ifS (PW.pt (q_or (q_not (q_val (q_call (ok__law_is_ratio T) (hr.mono (by decide)) rfl T.g__law_is_ratio T.f__law_is_ratio.kp T.n__law_is_ratio .nil (fun _ _ => RepL.nil) tk (qa_cons (q_var (pv 9)) (qa_cons (q_var (pv 7)) qa_nil))))) (q_or1 (q_not (q_val (q_call (ok__law_is_ratio T) (hr.mono (by decide)) rfl T.g__law_is_ratio T.f__law_is_ratio.kp T.n__law_is_ratio .nil (fun _ _ => RepL.nil) tk (qa_cons (q_var (pv 10)) (qa_cons (q_var (pv 8)) qa_nil)))))))) (q_one (q_ret q_bl)) q_nil))))))))))))))))))
  (q_one (q_ret q_bl))))
end
end LW
set_option maxRecDepth 100000
namespace LW
open PySem L2 DL
theorem e_div : F_divisor_of = rDiv := rfl
theorem e_init : F_Ratio___init__ = rInit := rfl
theorem e_parts : F_parts_of = rParts [0] := rfl
theorem e_add : F_Ratio___add__ = rAdd [0] := rfl
theorem e_sub : F_Ratio___sub__ = rSub [0] := rfl
theorem e_mul : F_Ratio___mul__ = rMul [0] := rfl
theorem e_neg : F_Ratio___neg__ = rNeg := rfl
theorem e_over : F_Ratio_over = rOver [0] := rfl
theorem e_cmp : F_Ratio_compared = rCmp [0] := rfl
theorem e_eq : F_Ratio___eq__ = rEq [0] := rfl
theorem e_q : F__law_q = lQ := rfl
theorem e_plus : F__law_plus = lPlus := rfl
theorem e_minus : F__law_minus = lMinus := rfl
theorem e_times : F__law_times = lTimes := rfl
theorem e_sign : F__law_sign = lSign := rfl
theorem e_isr : F__law_is_ratio = lIsR [0] := rfl
theorem e_draw : F__law_draw = runF 5 pDraw := rfl
theorem e_pen : F__law_pen = runF 3 pPen := rfl
end LW
set_option maxRecDepth 100000
namespace LW
open PySem L2 DL
section
variable {M : List MO}
theorem hc0 : 0 ∈ [0] := by decide
theorem isr (q r : Rat) : F__law_is_ratio [ra q, pr r] M = .ok (.bl (decide (q = r))) M := by rw [e_isr]; exact lIsR_is hc0 q r
theorem isr_t (q : Rat) : F__law_is_ratio [ra q, pr q] M = .ok (.bl true) M := by rw [isr, decide_eq_true rfl]
theorem plus {q r : Rat} (s1 : Sm 4000 q) (s2 : Sm 4000 r) : F__law_plus [pr q, pr r] M = .ok (pr (q + r)) M := by rw [e_plus]; exact lPlus_is s1 s2
theorem minus {q r : Rat} (s1 : Sm 4000 q) (s2 : Sm 4000 r) : F__law_minus [pr q, pr r] M = .ok (pr (q - r)) M := by rw [e_minus]; exact lMinus_is s1 s2
theorem times {q r : Rat} (s1 : Sm 4000 q) (s2 : Sm 4000 r) : F__law_times [pr q, pr r] M = .ok (pr (q * r)) M := by rw [e_times]; exact lTimes_is s1 s2
theorem sign (q : Rat) : F__law_sign [pr q] M = .ok (.int (sgn q.num)) M := by rw [e_sign]; exact lSign_is q
theorem qq (t b : Int) (hb : b ≠ 0) (hs : Sz 9000 b) : F__law_q [.int t, .int b] M = .ok (pr (Rat.divInt t b)) M := by rw [e_q]; exact lQ_is t b hb hs
theorem radd {d : D} {q r : Rat} (h : Num d r) (s1 : Sm 4000 q) (s2 : Sm 4000 r) : ownOp 0 F_Ratio___add__ addD (ra q) d M = .ok (ra (q + r)) M := by rw [ownOp_ra (h.ok (c := 0)), e_add]; exact rAdd_is hc0 h s1 s2
theorem rsub {d : D} {q r : Rat} (h : Num d r) (s1 : Sm 4000 q) (s2 : Sm 4000 r) : ownOp 0 F_Ratio___sub__ subI (ra q) d M = .ok (ra (q - r)) M := by rw [ownOp_ra (h.ok (c := 0)), e_sub]; exact rSub_is hc0 h s1 s2
theorem rmul {d : D} {q r : Rat} (h : Num d r) (s1 : Sm 4000 q) (s2 : Sm 4000 r) : ownOp 0 F_Ratio___mul__ mulD (ra q) d M = .ok (ra (q * r)) M := by rw [ownOp_ra (h.ok (c := 0)), e_mul]; exact rMul_is hc0 h s1 s2
theorem rneg {q : Rat} (s1 : Sm 4000 q) : ownUn 0 F_Ratio___neg__ negI (ra q) M = .ok (ra (-q)) M := by rw [ownUn_ra, e_neg]; exact rNeg_is s1
theorem reqq {d : D} {q r : Rat} (h : Num d r) : ownCmp [0] 0 F_Ratio___eq__ eqD (ra q) d M = .ok (.bl (decide (q = r))) M := by
  obtain ⟨τ, h1, h2⟩ := h.tag (M := M) hc0
  rw [ownCmp_ra h1 h2, e_eq]; exact rEq_num hc0 h
theorem reqno {d : D} {q : Rat} {τ : Ty} (h : tagOf M d = some τ) (ho : okTy [0] τ = true) (hn : ([Cl.own 0, Cl.int].any (isA τ)) = false ∨ isA τ .bool = true) : ownCmp [0] 0 F_Ratio___eq__ eqD (ra q) d M = .ok (.bl false) M := by
  rw [ownCmp_ra h ho, e_eq]; exact rEq_no hc0 h ho hn
theorem ldraw {n : Nat} {m : Int} (P : PenP 1 n M) (hn : n + 1 ≤ 1000000) (hm : 0 < m) (hm2 : m.natAbs < 2 ^ 9000) : ∃ r M', F__law_draw [.cel 1, .int m] M = .ok (.int r) M' ∧ 0 ≤ r ∧ r < m ∧ PenP 1 (n + 1) M' ∧ Dr 1 M M' := by
  rw [e_draw]; exact drawP P hn hm hm2
/-! ### the order -/
theorem under_is {d : D} {q r : Rat} (h : Num d r) (s1 : Sm 4000 q) (s2 : Sm 4000 r) : F_Ratio_under [ra q, d] M = .ok (.bl (decide (sgn (q.num * r.den - r.num * q.den) < 0))) M := by
  unfold F_Ratio_under runF b_Ratio_under
  rw [show start0 2 [ra q, d] = [.d (ra q), .d d] from rfl]
  rw [ret_of ((d2_of ((meth1_ev (x := ra q) (d := d) (M1 := M) (M2 := M) rfl rfl rfl).trans (by rw [e_cmp]; exact rCmp_is hc0 h s1 s2)) rfl).trans (ltI_int _ _))]
theorem at_most_is {d : D} {q r : Rat} (h : Num d r) (s1 : Sm 4000 q) (s2 : Sm 4000 r) : F_Ratio_at_most [ra q, d] M = .ok (.bl (decide (sgn (q.num * r.den - r.num * q.den) ≤ 0))) M := by
  unfold F_Ratio_at_most runF b_Ratio_at_most
  rw [show start0 2 [ra q, d] = [.d (ra q), .d d] from rfl]
  rw [ret_of (x := .bl (decide (sgn (q.num * r.den - r.num * q.den) ≤ 0))) (M1 := M) ((d2_of ((meth1_ev (x := ra q) (d := d) (M1 := M) (M2 := M) rfl rfl rfl).trans (by rw [e_cmp]; exact rCmp_is hc0 h s1 s2)) rfl).trans rfl)]
theorem order_is {d : D} {q r : Rat} (h : Num d r) (s1 : Sm 1000 q) (s2 : Sm 1000 r) : F__law_is_order [ra q, d, .int (sgn (q - r).num)] M = .ok (.bl true) M := by
  have t1 := s1.mono (j := 4000) (by decide)
  have t2 := s2.mono (j := 4000) (by decide)
  rw [sgn_sub]
  unfold F__law_is_order runF b__law_is_order
  generalize hX : sgn (q.num * (r.den : Int) - r.num * q.den) = X
  have z : X = 0 ↔ q = r := by rw [← hX]; exact sgn_zero q r
  rw [show start0 6 [ra q, d, .int X] = [.d (ra q), .d d, .d (.int X), .mt, .mt, .mt] from rfl]
  have e1 : (dSet 3 (dMethC 0 "compared" (lenIs 2 F_Ratio_compared) [] (dVar 0) (aCons (dVar 1) aNil))) [.d (ra q), .d d, .d (.int X), .mt, .mt, .mt] M = .nx [.d (ra q), .d d, .d (.int X), .d (.int X), .mt, .mt] M := by
    refine (set_of (x := .int X) (M1 := M) ((meth1_ev (x := ra q) (d := d) (M1 := M) (M2 := M) rfl rfl rfl).trans ?_)).trans rfl
    rw [e_cmp, rCmp_is hc0 h t1 t2, hX]
  rw [seq_nx e1]
  have e2 : (dIfS (dOr (dNot (dB (dIs [0] [.int] (dVar 3)))) (dOr (dB (dIs [0] [.bool] (dVar 3))) (dB (d2 neD (dVar 3) (dVar 2))))) (dRet (dC (.bl false))) dNext) [.d (ra q), .d d, .d (.int X), .d (.int X), .mt, .mt] M = .nx [.d (ra q), .d d, .d (.int X), .d (.int X), .mt, .mt] M := by
    refine chk (nor (M1 := M) rfl (nor (M1 := M) rfl (dB_of ((d2_of rfl rfl).trans ((neD_int _ _).trans ?_)))))
    rw [decide_eq_true rfl]; rfl
  rw [seq_nx e2]
  have e3 : (dSet 4 (dLst (aCons (dMethC 0 "under" (lenIs 2 F_Ratio_under) [] (dVar 0) (aCons (dVar 1) aNil)) (aCons (dMethC 0 "at_most" (lenIs 2 F_Ratio_at_most) [] (dVar 0) (aCons (dVar 1) aNil)) (aCons (d2 (ownCmp [0] 0 F_Ratio___eq__ eqD) (dVar 0) (dVar 1)) aNil))))) [.d (ra q), .d d, .d (.int X), .d (.int X), .mt, .mt] M = .nx [.d (ra q), .d d, .d (.int X), .d (.int X), .d (.lst [.bl (decide (X < 0)), .bl (decide (X ≤ 0)), .bl (decide (X = 0))]), .mt] M := by
    refine (set_of (x := .lst [.bl (decide (X < 0)), .bl (decide (X ≤ 0)), .bl (decide (X = 0))]) (M1 := M) ?_).trans rfl
    have a1 : (dMethC 0 "under" (lenIs 2 F_Ratio_under) [] (dVar 0) (aCons (dVar 1) aNil)) [.d (ra q), .d d, .d (.int X), .d (.int X), .mt, .mt] M = .ok (.bl (decide (X < 0))) M := (meth1_ev (x := ra q) (d := d) (M1 := M) (M2 := M) rfl rfl rfl).trans (by rw [under_is h t1 t2, hX])
    have a2 : (dMethC 0 "at_most" (lenIs 2 F_Ratio_at_most) [] (dVar 0) (aCons (dVar 1) aNil)) [.d (ra q), .d d, .d (.int X), .d (.int X), .mt, .mt] M = .ok (.bl (decide (X ≤ 0))) M := (meth1_ev (x := ra q) (d := d) (M1 := M) (M2 := M) rfl rfl rfl).trans (by rw [at_most_is h t1 t2, hX])
    have a3 : (d2 (ownCmp [0] 0 F_Ratio___eq__ eqD) (dVar 0) (dVar 1)) [.d (ra q), .d d, .d (.int X), .d (.int X), .mt, .mt] M = .ok (.bl (decide (X = 0))) M := (d2_of (x := ra q) (y := d) (M1 := M) (M2 := M) rfl rfl).trans (by rw [reqq h]; congr 2; exact decide_eq_decide.mpr z.symm)
    exact lst_ev (ac a1 (ac a2 (ac a3 an))) rfl
  rw [seq_nx e3]
  have e4 : (dIfS (dB (d2 neD (dL (dComp (iSeq (dVar 4)) [5] (gN 5) (dNot (dB (dIs [0] [.bool] (dVar 5)))) (dC (.int 1)))) (dLst aNil))) (dRet (dC (.bl false))) dNext) [.d (ra q), .d d, .d (.int X), .d (.int X), .d (.lst [.bl (decide (X < 0)), .bl (decide (X ≤ 0)), .bl (decide (X = 0))]), .mt] M = .nx [.d (ra q), .d d, .d (.int X), .d (.int X), .d (.lst [.bl (decide (X < 0)), .bl (decide (X ≤ 0)), .bl (decide (X = 0))]), .mt] M := by
    exact chk (dB_of ((d2_of (x := .lst []) (y := .lst []) (M1 := M) (M2 := M) rfl rfl).trans ne_nil))
  rw [seq_nx e4]
  have e5 : (d2 (ownCmp [0] 0 F_Ratio___eq__ eqD) (dVar 4) (dLst (aCons (d2 ltI (dVar 2) (dC (.int 0))) (aCons (d2 leI (dVar 2) (dC (.int 0))) (aCons (d2 (ownCmp [0] 0 F_Ratio___eq__ eqD) (dVar 2) (dC (.int 0))) aNil))))) [.d (ra q), .d d, .d (.int X), .d (.int X), .d (.lst [.bl (decide (X < 0)), .bl (decide (X ≤ 0)), .bl (decide (X = 0))]), .mt] M = .ok (.bl true) M := by
    refine (d2_of (x := .lst [.bl (decide (X < 0)), .bl (decide (X ≤ 0)), .bl (decide (X = 0))]) (y := .lst [.bl (decide (X < 0)), .bl (decide (X ≤ 0)), .bl (decide (X = 0))]) (M1 := M) (M2 := M) rfl ?_).trans (lst3_eq _ _ _)
    have a3 : (d2 (ownCmp [0] 0 F_Ratio___eq__ eqD) (dVar 2) (dC (.int 0))) [.d (ra q), .d d, .d (.int X), .d (.int X), .d (.lst [.bl (decide (X < 0)), .bl (decide (X ≤ 0)), .bl (decide (X = 0))]), .mt] M = .ok (.bl (decide (X = 0))) M := (d2_of (x := .int X) (y := .int 0) (M1 := M) (M2 := M) rfl rfl).trans (eqD_int _ _)
    have a1 : (d2 ltI (dVar 2) (dC (.int 0))) [.d (ra q), .d d, .d (.int X), .d (.int X), .d (.lst [.bl (decide (X < 0)), .bl (decide (X ≤ 0)), .bl (decide (X = 0))]), .mt] M = .ok (.bl (decide (X < 0))) M := rfl
    have a2 : (d2 leI (dVar 2) (dC (.int 0))) [.d (ra q), .d d, .d (.int X), .d (.int X), .d (.lst [.bl (decide (X < 0)), .bl (decide (X ≤ 0)), .bl (decide (X = 0))]), .mt] M = .ok (.bl (decide (X ≤ 0))) M := rfl
    exact lst_ev (ac a1 (ac a2 (ac a3 an))) rfl
  rw [ret_of e5]
end
end LW
set_option maxRecDepth 100000
namespace LW
open PySem L2 DL
section
variable {M : List MO}
theorem ov {d : D} {q r : Rat} {fo fa : FE} {ρ : List Sl} (h1 : fo ρ M = .ok (ra q) M) (h2 : fa ρ M = .ok d M) (h : Num d r) (hr : r.num ≠ 0) (s1 : Sm 4000 q) (s2 : Sm 4000 r) : dMethC 0 "over" (lenIs 2 F_Ratio_over) [] fo (aCons fa aNil) ρ M = .ok (ra (q / r)) M := by
  rw [meth1_ev h1 rfl h2, e_over]; exact rOver_is hc0 h hr s1 s2
theorem ov0 {d : D} {q r : Rat} {fo fa : FE} {ρ : List Sl} (h1 : fo ρ M = .ok (ra q) M) (h2 : fa ρ M = .ok d M) (h : Num d r) (hr : r.num = 0) (s1 : Sm 4000 q) (s2 : Sm 4000 r) : dMethC 0 "over" (lenIs 2 F_Ratio_over) [] fo (aCons fa aNil) ρ M = .ex 3 [.int 0, .str "bottom"] M := by
  rw [meth1_ev h1 rfl h2, e_over]; exact rOver_zero hc0 h hr s1 s2
theorem prI (n : Int) : pr (n : Rat) = .tup [.int n, .int 1] := by unfold pr; rw [Rat.num_intCast, Rat.den_intCast]; rfl
theorem with_is {q : Rat} {n : Int} (s1 : Sm 1000 q) (s2 : Sz 1000 n) : F__law_with_integer [ra q, pr q, .int n] M = .ok (.bl true) M := by
  have t1 := s1.mono (j := 4000) (by decide)
  have u2 : Sm 1000 (n : Rat) := Sm.int s2 (by decide)
  have t2 := u2.mono (j := 4000) (by decide)
  have N : Num (.int n) (n : Rat) := .int n
  unfold F__law_with_integer b__law_with_integer
  refine fn_rt ?_
  rw [show start0 4 [ra q, pr q, .int n] = [.d (ra q), .d (pr q), .d (.int n), .mt] from rfl]
  have e1 : (dSet 3 (dTup (aCons (dVar 2) (aCons (dC (.int 1)) aNil)))) [.d (ra q), .d (pr q), .d (.int n), .mt] M = .nx [.d (ra q), .d (pr q), .d (.int n), .d (pr (n : Rat))] M := by rw [prI]; rfl
  rw [seq_nx e1]
  refine (seq_nx (chk (nor (nt ((call2_ev ((d2_of (x := ra q) (y := .int n) (M1 := M) (M2 := M) rfl rfl).trans (radd N t1 t2)) ((call2_ev (x := pr q) (y := pr (n : Rat)) (M1 := M) (M2 := M) rfl rfl).trans (plus t1 t2))).trans (isr_t _)))
    (nt ((call2_ev ((d2_of (x := ra q) (y := .int n) (M1 := M) (M2 := M) rfl rfl).trans (rsub N t1 t2)) ((call2_ev (x := pr q) (y := pr (n : Rat)) (M1 := M) (M2 := M) rfl rfl).trans (minus t1 t2))).trans (isr_t _)))))).trans ?_
  refine (seq_nx (chk (nt ((call2_ev ((d2_of (x := ra q) (y := .int n) (M1 := M) (M2 := M) rfl rfl).trans (rmul N t1 t2)) ((call2_ev (x := pr q) (y := pr (n : Rat)) (M1 := M) (M2 := M) rfl rfl).trans (times t1 t2))).trans (isr_t _))))).trans ?_
  have nz : (dB (d2 neD (dVar 2) (dC (.int 0)))) [.d (ra q), .d (pr q), .d (.int n), .d (pr (n : Rat))] M = .ok (!decide (n = 0)) M := dB_of ((d2_of (x := .int n) (y := .int 0) (M1 := M) (M2 := M) rfl rfl).trans (neD_int _ _))
  have e4 : (dIfS (dAnd (dB (d2 neD (dVar 2) (dC (.int 0)))) (dNot (dB (dCall (lenIs 2 F__law_is_ratio) [] (aCons (dMethC 0 "over" (lenIs 2 F_Ratio_over) [] (dVar 0) (aCons (dVar 2) aNil)) (aCons (dCall (lenIs 2 F__law_q) [] (aCons (d2 itemD (dVar 1) (dC (.int 0))) (aCons (d2 (ownOp 0 F_Ratio___mul__ mulD) (d2 itemD (dVar 1) (dC (.int 1))) (dVar 2)) aNil))) aNil)))))) (dRet (dC (.bl false))) dNext) [.d (ra q), .d (pr q), .d (.int n), .d (pr (n : Rat))] M = .nx [.d (ra q), .d (pr q), .d (.int n), .d (pr (n : Rat))] M := by
    by_cases h0 : n = 0
    · rw [decide_eq_true h0] at nz
      exact chk (and_f nz)
    · rw [decide_eq_false h0] at nz
      refine chk (and_t nz (nt ?_))
      have nn : (n : Rat).num ≠ 0 := h0
      have dn : (q.den : Int) * n ≠ 0 := Int.mul_ne_zero (den_ne q) h0
      have sz : Sz 9000 ((q.den : Int) * n) := (s1.2.mul s2).mono (by decide)
      have eq : Rat.divInt q.num ((q.den : Int) * n) = q / (n : Rat) := by
        have := rat_over q (n : Rat) nn
        rw [← this, Rat.num_intCast, Rat.den_intCast]
        simp
      have m1 : (d2 (ownOp 0 F_Ratio___mul__ mulD) (d2 itemD (dVar 1) (dC (.int 1))) (dVar 2)) [.d (ra q), .d (pr q), .d (.int n), .d (pr (n : Rat))] M = .ok (.int (q.den * n)) M := (d2_of (x := .int q.den) (y := .int n) (M1 := M) (M2 := M) rfl rfl).trans (mulD_int (s1.2.ok s2 (by decide)))
      refine (call2_ev (ov (fo := dVar 0) (fa := dVar 2) rfl rfl N nn t1 t2) ((call2_ev (x := .int q.num) (M1 := M) rfl m1).trans ((qq _ _ dn sz).trans (by rw [eq])))).trans (isr_t _)
  refine (seq_nx e4).trans ?_
  exact ret_of ((call3_ev (x := ra q) (y := .int n) (M1 := M) (M2 := M) rfl rfl ((call1_ev ((call2_ev (x := pr q) (y := pr (n : Rat)) (M1 := M) (M2 := M) rfl rfl).trans (minus t1 t2))).trans (sign _))).trans (order_is N s1 u2))
/-! ### the refusal -/
theorem named_is {al : FL} (h : al M = .ex 3 [.int 0, .str "bottom"] M) : F__law_bottom_named al M = .ok (.bl true) M := by
  unfold F__law_bottom_named runL b__law_bottom_named
  have e : (dTryAs XS 3 1 (dDrop (dAct 0 al)) (dRet (dAndV (d2 eqD (dTup (aCons (dXf 1 "what") (aCons (dXf 1 "number") aNil))) (dTup (aCons (dC (.str "bottom")) (aCons (dC (.int 0)) aNil)))) (dNotV (dIs [0] [.bool] (dXf 1 "number")))))) (.lam :: List.replicate (2 - 1) .mt) M = .rt (.bl true) M := by
    unfold dTryAs
    have a : dDrop (dAct 0 al) (.lam :: List.replicate (2 - 1) .mt) M = .ex 3 [.int 0, .str "bottom"] (.lam :: List.replicate (2 - 1) .mt) M := by
      unfold dDrop
      have : dAct 0 al (.lam :: List.replicate (2 - 1) .mt) M = .ex 3 [.int 0, .str "bottom"] M := h
      rw [this]
      rfl
    rw [a]
    have b : (dRet (dAndV (d2 eqD (dTup (aCons (dXf 1 "what") (aCons (dXf 1 "number") aNil))) (dTup (aCons (dC (.str "bottom")) (aCons (dC (.int 0)) aNil)))) (dNotV (dIs [0] [.bool] (dXf 1 "number"))))) [.lam, .exn 3 [.int 0, .str "bottom"]] M = .rt (.bl true) M := by
      refine ret_of ?_
      have c : (d2 eqD (dTup (aCons (dXf 1 "what") (aCons (dXf 1 "number") aNil))) (dTup (aCons (dC (.str "bottom")) (aCons (dC (.int 0)) aNil)))) [.lam, .exn 3 [.int 0, .str "bottom"]] M = .ok (.bl true) M :=
        (d2_of (x := .tup [.str "bottom", .int 0]) (y := .tup [.str "bottom", .int 0]) (M1 := M) (M2 := M) rfl rfl).trans (eqD_of (k := true) ((pyEq_of rfl rfl (by decide +kernel) (by decide +kernel)).trans (by decide +kernel)))
      unfold dAndV
      rw [c]
      rfl
    show (if (XS.contains 3 && XS.contains 3 && _) = true then _ else _) = _
    rw [if_pos (by decide)]
    show unX 1 ((dRet _) [.lam, .exn 3 [.int 0, .str "bottom"]] M) = _
    rw [b]
    rfl
  rw [seq_rt e]
theorem lam_is {fe : FE} {ρ : List Sl} (h0 : M[0]? = some (.tab "law.<locals>.<lambda>")) (h : fe (ρ.map Sl.mask) M = .ex 3 [.int 0, .str "bottom"] M) : dLam 0 "law.<locals>.<lambda>" F__law_bottom_named fe ρ M = .ok (.bl true) M := by
  unfold dLam
  rw [h0]
  dsimp only
  rw [if_pos rfl]
  exact named_is h
/-! ### draws -/
theorem int_is {n : Nat} (P : PenP 1 n M) (hn : n + 4 ≤ 1000000) : ∃ i M', F__law_integer [.cel 1] M = .ok (.int i) M' ∧ Sz 140 i ∧ PenP 1 (n + 4) M' ∧ Dr 1 M M' := by
  unfold F__law_integer runF b__law_integer
  rw [show start0 1 [.cel 1] = [.d (.cel 1)] from rfl]
  obtain ⟨w, M1, e1, _, _, P1, D1⟩ := ldraw (m := 3) P (by omega) (by decide) (by decide)
  have c1 : (dB (d2 gtI (dCall (lenIs 2 F__law_draw) [] (aCons (dVar 0) (aCons (dC (.int 3)) aNil))) (dC (.int 0)))) [.d (.cel 1)] M = .ok (decide (0 < w)) M1 := dB_of ((d2_of ((call2_ev (x := .cel 1) (y := .int 3) (M1 := M) (M2 := M) rfl rfl).trans e1) rfl).trans (gtI_int _ _))
  by_cases h : 0 < w
  · rw [decide_eq_true h] at c1
    obtain ⟨z, M2, e2, z0, z1, P2, D2⟩ := ldraw (m := 15) P1 (by omega) (by decide) (by decide)
    refine ⟨z - 7, M2, ?_, by unfold Sz; have : (2:Nat)^4 ≤ 2^140 := Nat.pow_le_pow_right (by decide) (by decide); omega, P2.mono (by omega), D1.trans D2⟩
    rw [seq_rt ((if_t c1).trans (ret_of ((d2_of ((call2_ev (x := .cel 1) (y := .int 15) (M1 := M1) (M2 := M1) rfl rfl).trans e2) rfl).trans (subI_int _ _))))]
  · rw [decide_eq_false h] at c1
    rw [seq_nx (chk c1)]
    obtain ⟨x, M2, e2, x0, x1, P2, D2⟩ := ldraw (m := 10 ^ 20) P1 (by omega) (by decide) (by decide +kernel)
    obtain ⟨y, M3, e3, y0, y1, P3, D3⟩ := ldraw (m := 10 ^ 20) P2 (by omega) (by decide) (by decide +kernel)
    obtain ⟨s, M4, e4, s0, s1, P4, D4⟩ := ldraw (m := 2) P3 (by omega) (by decide) (by decide)
    have sx : Sz 67 x := by unfold Sz; have : (10:Int)^20 < 2^67 := by decide
                            omega
    have sy : Sz 134 y := by unfold Sz; have : (10:Int)^20 < 2^134 := by decide
                             omega
    have sp : Sz 67 ((10:Int)^20) := by unfold Sz; decide
    have ss : Sz 2 s := by unfold Sz; omega
    have s2 : Sz 3 ((1:Int) - 2 * s) := by unfold Sz; omega
    have sxy := (sx.mul sp).add sy
    refine ⟨(x * 10 ^ 20 + y) * (1 - 2 * s), M4, ?_, (sxy.mul s2).mono (by decide), P4.mono (by omega), (D1.trans D2).trans (D3.trans D4)⟩
    have p20 : ∀ M, (d2 powI (dC (.int 10)) (dC (.int 20))) [.d (.cel 1)] M = .ok (.int (10 ^ 20)) M := fun M => rfl
    have a1 : (d2 mulD (dCall (lenIs 2 F__law_draw) [] (aCons (dVar 0) (aCons (d2 powI (dC (.int 10)) (dC (.int 20))) aNil))) (d2 powI (dC (.int 10)) (dC (.int 20)))) [.d (.cel 1)] M1 = .ok (.int (x * 10 ^ 20)) M2 :=
      (d2_of ((call2_ev (x := .cel 1) (M1 := M1) rfl (p20 M1)).trans e2) (p20 M2)).trans (mulD_int (sx.ok sp (by decide)))
    have a2 : (dCall (lenIs 2 F__law_draw) [] (aCons (dVar 0) (aCons (d2 powI (dC (.int 10)) (dC (.int 20))) aNil))) [.d (.cel 1)] M2 = .ok (.int y) M3 := (call2_ev (x := .cel 1) (M1 := M2) rfl (p20 M2)).trans e3
    have a3 : (d2 subI (dC (.int 1)) (d2 mulD (dC (.int 2)) (dCall (lenIs 2 F__law_draw) [] (aCons (dVar 0) (aCons (dC (.int 2)) aNil))))) [.d (.cel 1)] M3 = .ok (.int (1 - 2 * s)) M4 :=
      (d2_of (x := .int 1) (M1 := M3) rfl ((d2_of (x := .int 2) (M1 := M3) rfl ((call2_ev (x := .cel 1) (y := .int 2) (M1 := M3) (M2 := M3) rfl rfl).trans e4)).trans (mulD_int ((show Sz 2 (2:Int) by unfold Sz; decide).ok ss (by decide))))).trans (subI_int _ _)
    rw [ret_of ((d2_of ((d2_of a1 a2).trans (addD_int _ _)) a3).trans (mulD_int (sxy.ok s2 (by decide))))]
theorem made_is {n : Nat} {q : Rat} (P : PenP 1 n M) (hn : n + 1 ≤ 1000000) (s : Sm 1000 q) : ∃ M', F__law_made [.cel 1, pr q] M = .ok (ra q) M' ∧ PenP 1 (n + 1) M' ∧ Dr 1 M M' := by
  unfold F__law_made b__law_made
  obtain ⟨w, M1, e1, w0, w1, P1, D1⟩ := ldraw (m := 6) P (by omega) (by decide) (by decide)
  refine ⟨M1, ?_, P1, D1⟩
  have key : ∃ b : Int, itemD (.lst [.int 1, .int 1, .int 2, .int (-1), .int 6, .int (-3)]) (.int w) M1 = .ok (.int b) M1 ∧ b ≠ 0 ∧ Sz 4 b := by
    have : w = 0 ∨ w = 1 ∨ w = 2 ∨ w = 3 ∨ w = 4 ∨ w = 5 := by omega
    rcases this with rfl | rfl | rfl | rfl | rfl | rfl
    · exact ⟨1, rfl, by decide, by unfold Sz; decide⟩
    · exact ⟨1, rfl, by decide, by unfold Sz; decide⟩
    · exact ⟨2, rfl, by decide, by unfold Sz; decide⟩
    · exact ⟨-1, rfl, by decide, by unfold Sz; decide⟩
    · exact ⟨6, rfl, by decide, by unfold Sz; decide⟩
    · exact ⟨-3, rfl, by decide, by unfold Sz; decide⟩
  obtain ⟨b, eb, b0, sb⟩ := key
  refine fn_rt ?_
  rw [show start0 3 [.cel 1, pr q] = [.d (.cel 1), .d (pr q), .mt] from rfl]
  refine (seq_nx (ρ1 := [.d (.cel 1), .d (pr q), .d (.int b)]) (M1 := M1) ((set_of (x := .int b) (M1 := M1) ((d2_of (x := .lst [.int 1, .int 1, .int 2, .int (-1), .int 6, .int (-3)]) (y := .int w) (M1 := M) (M2 := M1) rfl ((call2_ev (x := .cel 1) (y := .int 6) (M1 := M) (M2 := M) rfl rfl).trans e1)).trans eb)).trans rfl)).trans ?_
  have hq : Rat.divInt (q.num * b) (q.den * b) = q := by
    conv => rhs; rw [← Rat.num_divInt_den q]
    rw [Rat.divInt_eq_divInt_iff (Int.mul_ne_zero (den_ne q) b0) (den_ne q)]
    rw [Int.mul_assoc, Int.mul_comm b]
  rw [e_init]
  refine ret_of ((make_ra (fa := _) (t := q.num * b) (b := q.den * b) ((d2_of (x := .int q.num) (y := .int b) (M1 := M1) (M2 := M1) rfl rfl).trans (mulD_int (s.1.ok sb (by decide)))) ((d2_of (x := .int q.den) (y := .int b) (M1 := M1) (M2 := M1) rfl rfl).trans (mulD_int (s.2.ok sb (by decide)))) (Int.mul_ne_zero (den_ne q) b0) ((s.2.mul sb).mono (by decide))).trans (by rw [hq]))
end
end LW
set_option maxRecDepth 100000
namespace LW
open PySem L2 DL
noncomputable abbrev p0 : FS := (dAsg (dL (dComp (iRange1 (dC (.int 4))) [12] (gN 12) dYes (dCall (lenIs 1 F__law_integer) [] (aCons (dVar 1) aNil)))) (gTupA 4 (gsCons (gN 3) (gsCons (gN 4) (gsCons (gN 5) (gsCons (gN 6) gsNil))))))
noncomputable abbrev p1 : FS := (dPar 7 8 (aCons (dCall (lenIs 2 F__law_q) [] (aCons (dVar 3) (aCons (dIf (dB (d2 neD (dVar 4) (dC (.int 0)))) (dVar 4) (dC (.int 1))) aNil))) (aCons (dCall (lenIs 2 F__law_q) [] (aCons (dVar 5) (aCons (dIf (dB (d2 neD (dVar 6) (dC (.int 0)))) (dVar 6) (d1 (ownUn 0 F_Ratio___neg__ negI) (dC (.int 3)))) aNil))) aNil)))
noncomputable abbrev p2 : FS := (dIfS (dB (d2 eqD (dCall (lenIs 2 F__law_draw) [] (aCons (dVar 1) (aCons (dC (.int 5)) aNil))) (dC (.int 0)))) (dSet 8 (dVar 7)) dNext)
noncomputable abbrev p3 : FS := (dAsg (dTup (aCons (dCall (lenIs 2 F__law_made) [] (aCons (dVar 1) (aCons (dVar 7) aNil))) (aCons (dCall (lenIs 2 F__law_made) [] (aCons (dVar 1) (aCons (dVar 8) aNil))) aNil))) (gTupT 2 (gsCons (gN 9) (gsCons (gN 10) gsNil))))
noncomputable abbrev p4 : FS := (dIfS (dOr (dNot (dB (dCall (lenIs 2 F__law_is_ratio) [] (aCons (dVar 9) (aCons (dVar 7) aNil))))) (dNot (dB (dCall (lenIs 2 F__law_is_ratio) [] (aCons (d1 (ownUn 0 F_Ratio___neg__ negI) (dVar 9)) (aCons (dTup (aCons (d1 (ownUn 0 F_Ratio___neg__ negI) (d2 itemD (dVar 7) (dC (.int 0)))) (aCons (d2 itemD (dVar 7) (dC (.int 1))) aNil))) aNil)))))) (dRet (dC (.bl false))) dNext)
noncomputable abbrev p5 : FS := (dIfS (dNot (dB (dCall (lenIs 2 F__law_is_ratio) [] (aCons (d2 (ownOp 0 F_Ratio___add__ addD) (dVar 9) (dVar 10)) (aCons (dCall (lenIs 2 F__law_plus) [] (aCons (dVar 7) (aCons (dVar 8) aNil))) aNil))))) (dRet (dC (.bl false))) dNext)
noncomputable abbrev p6 : FS := (dIfS (dNot (dB (dCall (lenIs 2 F__law_is_ratio) [] (aCons (d2 (ownOp 0 F_Ratio___sub__ subI) (dVar 9) (dVar 10)) (aCons (dCall (lenIs 2 F__law_minus) [] (aCons (dVar 7) (aCons (dVar 8) aNil))) aNil))))) (dRet (dC (.bl false))) dNext)
noncomputable abbrev p7 : FS := (dIfS (dNot (dB (dCall (lenIs 2 F__law_is_ratio) [] (aCons (d2 (ownOp 0 F_Ratio___mul__ mulD) (dVar 9) (dVar 10)) (aCons (dCall (lenIs 2 F__law_times) [] (aCons (dVar 7) (aCons (dVar 8) aNil))) aNil))))) (dRet (dC (.bl false))) dNext)
noncomputable abbrev p8 : FS := (dIfS (dB (d2 eqD (d2 itemD (dVar 8) (dC (.int 0))) (dC (.int 0)))) (dIfS (dNot (dB (dLam 0 "law.<locals>.<lambda>" F__law_bottom_named (dMethC 0 "over" (lenIs 2 F_Ratio_over) [] (dVar 9) (aCons (dVar 10) aNil))))) (dRet (dC (.bl false))) dNext) (dIfS (dNot (dB (dCall (lenIs 2 F__law_is_ratio) [] (aCons (dMethC 0 "over" (lenIs 2 F_Ratio_over) [] (dVar 9) (aCons (dVar 10) aNil)) (aCons (dCall (lenIs 2 F__law_q) [] (aCons (d2 (ownOp 0 F_Ratio___mul__ mulD) (d2 itemD (dVar 7) (dC (.int 0))) (d2 itemD (dVar 8) (dC (.int 1)))) (aCons (d2 (ownOp 0 F_Ratio___mul__ mulD) (d2 itemD (dVar 7) (dC (.int 1))) (d2 itemD (dVar 8) (dC (.int 0)))) aNil))) aNil))))) (dRet (dC (.bl false))) dNext))
noncomputable abbrev p9 : FS := (dIfS (dNot (dB (dCall (lenIs 3 F__law_is_order) [] (aCons (dVar 9) (aCons (dVar 10) (aCons (dCall (lenIs 1 F__law_sign) [] (aCons (dCall (lenIs 2 F__law_minus) [] (aCons (dVar 7) (aCons (dVar 8) aNil))) aNil)) aNil)))))) (dRet (dC (.bl false))) dNext)
noncomputable abbrev p10 : FS := (dIfS (dOr (dNot (dB (dCall (lenIs 3 F__law_with_integer) [] (aCons (dVar 9) (aCons (dVar 7) (aCons (dVar 3) aNil)))))) (dNot (dB (dCall (lenIs 3 F__law_with_integer) [] (aCons (dVar 9) (aCons (dVar 7) (aCons (d2 divI (d2 itemD (dVar 7) (dC (.int 0))) (d2 itemD (dVar 7) (dC (.int 1)))) aNil))))))) (dRet (dC (.bl false))) dNext)
noncomputable abbrev p11 : FS := (dIfS (dNot (dB (dLam 0 "law.<locals>.<lambda>" F__law_bottom_named (dMethC 0 "over" (lenIs 2 F_Ratio_over) [] (dVar 9) (aCons (dC (.int 0)) aNil))))) (dRet (dC (.bl false))) dNext)
noncomputable abbrev p12 : FS := (dIfS (dNot (dB (dLam 0 "law.<locals>.<lambda>" F__law_bottom_named (dMake 0 2 F_Ratio___init__ [] (aCons (dVar 3) (aCons (dC (.int 0)) aNil)))))) (dRet (dC (.bl false))) dNext)
noncomputable abbrev p13 : FS := (dSet 11 (dLst (aCons (d2 (ownCmp [0] 0 F_Ratio___eq__ eqD) (dMake 0 2 F_Ratio___init__ [(.int 1)] (aCons (dVar 3) aNil)) (dVar 3)) (aCons (d2 (ownCmp [0] 0 F_Ratio___eq__ eqD) (dMake 0 2 F_Ratio___init__ [(.int 1)] (aCons (dC (.int 1)) aNil)) (dC (.bl true))) (aCons (d2 (ownCmp [0] 0 F_Ratio___eq__ eqD) (dMake 0 2 F_Ratio___init__ [(.int 1)] (aCons (dC (.int 0)) aNil)) (dC (.bl false))) (aCons (d2 (ownCmp [0] 0 F_Ratio___eq__ eqD) (dVar 9) (dC (.str "1"))) (aCons (d2 (ownCmp [0] 0 F_Ratio___eq__ eqD) (dVar 9) (dC .non)) (aCons (d2 (ownCmp [0] 0 F_Ratio___eq__ eqD) (dVar 9) (dTup (aCons (dVar 3) (aCons (dC (.int 1)) aNil)))) aNil))))))))
noncomputable abbrev p14 : FS := (dIfS (dOr (dB (d2 neD (dVar 11) (dLst (aCons (dC (.bl true)) (aCons (dC (.bl false)) (aCons (dC (.bl false)) (aCons (dC (.bl false)) (aCons (dC (.bl false)) (aCons (dC (.bl false)) aNil))))))))) (dNot (dB (dCall (lenIs 2 F__law_is_ratio) [] (aCons (dMake 0 2 F_Ratio___init__ [(.int 1)] (aCons (dVar 3) aNil)) (aCons (dTup (aCons (dVar 3) (aCons (dC (.int 1)) aNil))) aNil)))))) (dRet (dC (.bl false))) dNext)
noncomputable abbrev p15 : FS := (dIfS (dOr (dNot (dB (dCall (lenIs 2 F__law_is_ratio) [] (aCons (dVar 9) (aCons (dVar 7) aNil))))) (dNot (dB (dCall (lenIs 2 F__law_is_ratio) [] (aCons (dVar 10) (aCons (dVar 8) aNil)))))) (dRet (dC (.bl false))) dNext)
noncomputable abbrev turnB : FS := (dSeq p0 (dSeq p1 (dSeq p2 (dSeq p3 (dSeq p4 (dSeq p5 (dSeq p6 (dSeq p7 (dSeq p8 (dSeq p9 (dSeq p10 (dSeq p11 (dSeq p12 (dSeq p13 (dSeq p14 p15)))))))))))))))
section
variable {M : List MO}
theorem comp_step {ρ : List Sl} {M1 : List MO} {k : D} {ds : List D} {i : Int} (h : dVar 1 ((hide [12] ρ).set 12 (.d k)) M = .ok (.cel 1) M) (e : F__law_integer [.cel 1] M = .ok (.int i) M1) :
    compL [12] (gN 12) dYes (dCall (lenIs 1 F__law_integer) [] (aCons (dVar 1) aNil)) (k :: ds) ρ M = (compL [12] (gN 12) dYes (dCall (lenIs 1 F__law_integer) [] (aCons (dVar 1) aNil)) ds ρ M1).bind fun xs M => .ok (.int i :: xs) M := by
  rw [compL]
  show (R.noex (dYes ((hide [12] ρ).set 12 (.d k)) M)).bind _ = _
  simp only [dYes, R.noex_ok, R.bind_ok, if_true]
  rw [call1_ev h, e]
  rfl
theorem p0_is {n : Nat} (P : PenP 1 n M) (hn : n + 16 ≤ 1000000) (sc t s3 s4 s5 s6 s7 s8 s9 s10 s11 s12 : Sl) :
    ∃ a b c d M', p0 [sc, .d (.cel 1), t, s3, s4, s5, s6, s7, s8, s9, s10, s11, s12] M = .nx [sc, .d (.cel 1), t, .d (.int a), .d (.int b), .d (.int c), .d (.int d), s7, s8, s9, s10, s11, s12] M' ∧ Sz 140 a ∧ Sz 140 b ∧ Sz 140 c ∧ Sz 140 d ∧ PenP 1 (n + 16) M' ∧ Dr 1 M M' := by
  obtain ⟨a, M1, e1, z1, P1, D1⟩ := int_is P (by omega)
  obtain ⟨b, M2, e2, z2, P2, D2⟩ := int_is P1 (by omega)
  obtain ⟨c, M3, e3, z3, P3, D3⟩ := int_is P2 (by omega)
  obtain ⟨d, M4, e4, z4, P4, D4⟩ := int_is P3 (by omega)
  refine ⟨a, b, c, d, M4, ?_, z1, z2, z3, z4, P4.mono (by omega), (D1.trans D2).trans (D3.trans D4)⟩
  have hc : (dComp (iRange1 (dC (.int 4))) [12] (gN 12) dYes (dCall (lenIs 1 F__law_integer) [] (aCons (dVar 1) aNil))) [sc, .d (.cel 1), t, s3, s4, s5, s6, s7, s8, s9, s10, s11, s12] M = .ok [.int a, .int b, .int c, .int d] M4 := by
    show compL [12] (gN 12) dYes (dCall (lenIs 1 F__law_integer) [] (aCons (dVar 1) aNil)) [.int 0, .int 1, .int 2, .int 3] [sc, .d (.cel 1), t, s3, s4, s5, s6, s7, s8, s9, s10, s11, s12] M = _
    rw [comp_step rfl e1, comp_step rfl e2, comp_step rfl e3, comp_step rfl e4]
    rfl
  refine asg_ev (d := .lst [.int a, .int b, .int c, .int d]) (M1 := M4) ?_ rfl
  unfold dL
  rw [hc]
  rfl
theorem q_of {t b : Int} {d : Int} (h1 : Sz 140 t) (h2 : Sz 140 b) (hd : d ≠ 0) (h3 : Sz 140 d) : ∃ b', b' = (if b = 0 then d else b) ∧ b' ≠ 0 ∧ Sz 140 b' ∧ Sm 140 (Rat.divInt t b') := by
  refine ⟨_, rfl, ?_, ?_, ?_⟩
  · split <;> assumption
  · split <;> assumption
  · exact Sm.divInt (by split <;> assumption) h1 (by split <;> assumption)
/-- the tail of a turn: all is asked of first and second -/
theorem tail_is {q r : Rat} {a : Int} {sc t s4 s5 s6 s11 s12 : Sl} (h0 : M[0]? = some (.tab "law.<locals>.<lambda>")) (sq : Sm 140 q) (sr : Sm 140 r) (sa : Sz 140 a) :
    (dSeq p4 (dSeq p5 (dSeq p6 (dSeq p7 (dSeq p8 (dSeq p9 (dSeq p10 (dSeq p11 (dSeq p12 (dSeq p13 (dSeq p14 p15))))))))))) [sc, .d (.cel 1), t, .d (.int a), s4, s5, s6, .d (pr q), .d (pr r), .d (ra q), .d (ra r), s11, s12] M =
      .nx [sc, .d (.cel 1), t, .d (.int a), s4, s5, s6, .d (pr q), .d (pr r), .d (ra q), .d (ra r), .d (.lst [.bl true, .bl false, .bl false, .bl false, .bl false, .bl false]), s12] M := by
  have tq := sq.mono (j := 4000) (by decide)
  have tr := sr.mono (j := 4000) (by decide)
  have uq := sq.mono (j := 1000) (by decide)
  have ur := sr.mono (j := 1000) (by decide)
  have Nr : Num (ra r) r := .ra r
  refine (seq_nx (chk (nor (nt ((call2_ev (x := ra q) (y := pr q) (M1 := M) (M2 := M) rfl rfl).trans (isr_t _))) (nt ((call2_ev (y := pr (-q)) (M2 := M) (((d1_ev (x := ra q) (M1 := M) rfl)).trans (rneg tq)) (tup_ev (ac (d := .int (-q).num) (M1 := M) ?_ (ac (d := .int (-q).den) (M1 := M) ?_ an)) rfl)).trans (isr_t _)))))).trans ?_
  · rw [Rat.neg_num]; rfl
  · rw [Rat.neg_den]; rfl
  refine (seq_nx (chk (nt ((call2_ev ((d2_of (x := ra q) (y := ra r) (M1 := M) (M2 := M) rfl rfl).trans (radd Nr tq tr)) ((call2_ev (x := pr q) (y := pr r) (M1 := M) (M2 := M) rfl rfl).trans (plus tq tr))).trans (isr_t _))))).trans ?_
  refine (seq_nx (chk (nt ((call2_ev ((d2_of (x := ra q) (y := ra r) (M1 := M) (M2 := M) rfl rfl).trans (rsub Nr tq tr)) ((call2_ev (x := pr q) (y := pr r) (M1 := M) (M2 := M) rfl rfl).trans (minus tq tr))).trans (isr_t _))))).trans ?_
  refine (seq_nx (chk (nt ((call2_ev ((d2_of (x := ra q) (y := ra r) (M1 := M) (M2 := M) rfl rfl).trans (rmul Nr tq tr)) ((call2_ev (x := pr q) (y := pr r) (M1 := M) (M2 := M) rfl rfl).trans (times tq tr))).trans (isr_t _))))).trans ?_
  have e8 : p8 [sc, .d (.cel 1), t, .d (.int a), s4, s5, s6, .d (pr q), .d (pr r), .d (ra q), .d (ra r), s11, s12] M = .nx [sc, .d (.cel 1), t, .d (.int a), s4, s5, s6, .d (pr q), .d (pr r), .d (ra q), .d (ra r), s11, s12] M := by
    have c : (dB (d2 eqD (d2 itemD (dVar 8) (dC (.int 0))) (dC (.int 0)))) [sc, .d (.cel 1), t, .d (.int a), s4, s5, s6, .d (pr q), .d (pr r), .d (ra q), .d (ra r), s11, s12] M = .ok (decide (r.num = 0)) M := dB_of ((d2_of (x := .int r.num) (y := .int 0) (M1 := M) (M2 := M) rfl rfl).trans (eqD_int _ _))
    by_cases h : r.num = 0
    · rw [decide_eq_true h] at c
      refine (if_t c).trans (chk (nt (lam_is h0 ?_)))
      exact ov0 (q := q) (r := r) (d := ra r) rfl rfl Nr h tq tr
    · rw [decide_eq_false h] at c
      refine (if_f c).trans (chk (nt ?_))
      have dn : (q.den : Int) * r.num ≠ 0 := Int.mul_ne_zero (den_ne q) h
      have m1 : (d2 (ownOp 0 F_Ratio___mul__ mulD) (d2 itemD (dVar 7) (dC (.int 0))) (d2 itemD (dVar 8) (dC (.int 1)))) [sc, .d (.cel 1), t, .d (.int a), s4, s5, s6, .d (pr q), .d (pr r), .d (ra q), .d (ra r), s11, s12] M = .ok (.int (q.num * r.den)) M := (d2_of (x := .int q.num) (y := .int r.den) (M1 := M) (M2 := M) rfl rfl).trans (mulD_int (sq.1.ok sr.2 (by decide)))
      have m2 : (d2 (ownOp 0 F_Ratio___mul__ mulD) (d2 itemD (dVar 7) (dC (.int 1))) (d2 itemD (dVar 8) (dC (.int 0)))) [sc, .d (.cel 1), t, .d (.int a), s4, s5, s6, .d (pr q), .d (pr r), .d (ra q), .d (ra r), s11, s12] M = .ok (.int (q.den * r.num)) M := (d2_of (x := .int q.den) (y := .int r.num) (M1 := M) (M2 := M) rfl rfl).trans (mulD_int (sq.2.ok sr.1 (by decide)))
      exact (call2_ev (ov (q := q) (d := ra r) (fo := dVar 9) (fa := dVar 10) rfl rfl Nr h tq tr) ((call2_ev m1 m2).trans ((qq _ _ dn ((sq.2.mul sr.1).mono (by decide))).trans (by rw [rat_over q r h])))).trans (isr_t _)
  refine (seq_nx e8).trans ?_
  refine (seq_nx (chk (nt ((call3_ev (x := ra q) (y := ra r) (M1 := M) (M2 := M) rfl rfl ((call1_ev ((call2_ev (x := pr q) (y := pr r) (M1 := M) (M2 := M) rfl rfl).trans (minus tq tr))).trans (sign _))).trans (order_is Nr uq ur))))).trans ?_
  have fd : (d2 divI (d2 itemD (dVar 7) (dC (.int 0))) (d2 itemD (dVar 7) (dC (.int 1)))) [sc, .d (.cel 1), t, .d (.int a), s4, s5, s6, .d (pr q), .d (pr r), .d (ra q), .d (ra r), s11, s12] M = .ok (.int (q.num.fdiv q.den)) M := (d2_of (x := .int q.num) (y := .int q.den) (M1 := M) (M2 := M) rfl rfl).trans (divI_big (den_ne q) (sq.2.mono (j := 9000) (by decide)))
  have fs : Sz 1000 (q.num.fdiv q.den) := by
    rw [Int.fdiv_eq_ediv_of_nonneg _ (by omega)]
    have := Int.natAbs_ediv_le_natAbs q.num (q.den : Int)
    exact Nat.lt_of_le_of_lt this uq.1
  refine (seq_nx (chk (nor (nt ((call3_ev (x := ra q) (y := pr q) (z := .int a) (M1 := M) (M2 := M) (M3 := M) rfl rfl rfl).trans (with_is uq (sa.mono (by decide))))) (nt ((call3_ev (x := ra q) (y := pr q) (M1 := M) (M2 := M) rfl rfl fd).trans (with_is uq fs)))))).trans ?_
  refine (seq_nx (chk (nt (lam_is h0 ?_)))).trans ?_
  · exact ov0 (q := q) (r := ((0 : Int) : Rat)) (d := .int 0) rfl rfl (.int 0) rfl tq (Sm.int (by unfold Sz; exact Nat.two_pow_pos _) (by decide))
  refine (seq_nx (chk (nt (lam_is h0 ?_)))).trans ?_
  · rw [e_init]
    exact make_zero (t := a) rfl rfl
  have mk : ∀ (f : FE) (ρ : List Sl) (i : Int), f ρ M = .ok (.int i) M → (dMake 0 2 F_Ratio___init__ [(.int 1)] (aCons f aNil)) ρ M = .ok (ra (i : Rat)) M := fun f ρ i h => by
    unfold dMake
    rw [ac h an]
    show (F_Ratio___init__ [.int i, .int 1] M).bind (fun xs M => R.ok (D.ins 0 xs) M) = _
    rw [e_init, rInit_is i 1 (by decide) (by unfold Sz; exact Nat.one_lt_two_pow (by decide))]
    have : Rat.divInt i 1 = (i : Rat) := by
      have z := Rat.num_divInt_den (i : Rat)
      rw [Rat.num_intCast, Rat.den_intCast] at z
      exact z
    rw [this]
    rfl
  have e13 : p13 [sc, .d (.cel 1), t, .d (.int a), s4, s5, s6, .d (pr q), .d (pr r), .d (ra q), .d (ra r), s11, s12] M = .nx [sc, .d (.cel 1), t, .d (.int a), s4, s5, s6, .d (pr q), .d (pr r), .d (ra q), .d (ra r), .d (.lst [.bl true, .bl false, .bl false, .bl false, .bl false, .bl false]), s12] M := by
   refine (set_of (x := .lst [.bl true, .bl false, .bl false, .bl false, .bl false, .bl false]) (M1 := M) (lst_ev (ac (M1 := M) ?_ (ac (M1 := M) ?_ (ac (M1 := M) ?_ (ac (M1 := M) ?_ (ac (M1 := M) ?_ (ac (M1 := M) ?_ an)))))) rfl)).trans rfl
   · exact (d2_of (y := .int a) (M2 := M) (mk _ _ a rfl) rfl).trans ((reqq (.int a)).trans (by rw [decide_eq_true rfl]))
   · exact (d2_of (y := .bl true) (M2 := M) (mk _ _ 1 rfl) rfl).trans (reqno (τ := .bool) rfl rfl (.inr rfl))
   · exact (d2_of (y := .bl false) (M2 := M) (mk _ _ 0 rfl) rfl).trans (reqno (τ := .bool) rfl rfl (.inr rfl))
   · exact (d2_of (x := ra q) (y := .str "1") (M1 := M) (M2 := M) rfl rfl).trans (reqno (τ := .str) rfl rfl (.inl rfl))
   · exact (d2_of (x := ra q) (y := .non) (M1 := M) (M2 := M) rfl rfl).trans (reqno (τ := .non) rfl rfl (.inl rfl))
   · exact (d2_of (x := ra q) (y := .tup [.int a, .int 1]) (M1 := M) (M2 := M) rfl rfl).trans (reqno (τ := .tup) rfl rfl (.inl rfl))
  refine (seq_nx e13).trans ?_
  refine (seq_nx (M1 := M) (chk (nor (M1 := M) (dB_of ((d2_of (x := .lst [.bl true, .bl false, .bl false, .bl false, .bl false, .bl false]) (y := .lst [.bl true, .bl false, .bl false, .bl false, .bl false, .bl false]) (M1 := M) (M2 := M) rfl rfl).trans (neD_of (k := true) ((pyEq_of rfl rfl rfl rfl).trans rfl)))) (nt ((call2_ev (mk _ _ a rfl) (tup_ev (ac (d := .int a) (M1 := M) rfl (ac (d := .int 1) (M1 := M) rfl an)) rfl)).trans ?_))))).trans ?_
  · rw [← prI]; exact isr_t _
  exact chk (nor (nt ((call2_ev (x := ra q) (y := pr q) (M1 := M) (M2 := M) rfl rfl).trans (isr_t _))) (nt ((call2_ev (x := ra r) (y := pr r) (M1 := M) (M2 := M) rfl rfl).trans (isr_t _))))
theorem turn_is {n : Nat} (P : PenP 1 n M) (h0 : M[0]? = some (.tab "law.<locals>.<lambda>")) (hn : n + 19 ≤ 1000000) (sc t s3 s4 s5 s6 s7 s8 s9 s10 s11 s12 : Sl) :
    ∃ a b c d f s o w k M', turnB [sc, .d (.cel 1), t, s3, s4, s5, s6, s7, s8, s9, s10, s11, s12] M = .nx [sc, .d (.cel 1), t, a, b, c, d, f, s, o, w, k, s12] M' ∧ PenP 1 (n + 19) M' ∧ M'[0]? = some (.tab "law.<locals>.<lambda>") := by
  obtain ⟨a, b, c, d, M1, e1, za, zb, zc, zd, P1, D1⟩ := p0_is P (by omega) sc t s3 s4 s5 s6 s7 s8 s9 s10 s11 s12
  obtain ⟨b', eb, nb, zb', sq⟩ := q_of (d := 1) za zb (by decide) (by unfold Sz; exact Nat.one_lt_two_pow (by decide))
  obtain ⟨d', ed, nd, zd', sr0⟩ := q_of (d := -3) zc zd (by decide) (by unfold Sz; exact Nat.lt_of_lt_of_le (show 3 < 2 ^ 2 by decide) (Nat.pow_le_pow_right (by decide) (by decide)))
  obtain ⟨w, M2, e2, _, _, P2, D2⟩ := ldraw (m := 5) P1 (by omega) (by decide) (by decide)
  have x1 : p1 [sc, .d (.cel 1), t, .d (.int a), .d (.int b), .d (.int c), .d (.int d), s7, s8, s9, s10, s11, s12] M1 = .nx [sc, .d (.cel 1), t, .d (.int a), .d (.int b), .d (.int c), .d (.int d), .d (pr (Rat.divInt a b')), .d (pr (Rat.divInt c d')), s9, s10, s11, s12] M1 := by
    refine (par_ev (ac ((call2_ev (x := .int a) (y := .int b') (M1 := M1) (M2 := M1) rfl ?_).trans (qq _ _ nb (zb'.mono (by decide)))) (ac ((call2_ev (x := .int c) (y := .int d') (M1 := M1) (M2 := M1) rfl ?_).trans (qq _ _ nd (zd'.mono (by decide)))) an))).trans rfl
    · rw [if_ev (b := !decide (b = 0)) (M1 := M1) (dB_of ((d2_of (x := .int b) (y := .int 0) (M1 := M1) (M2 := M1) rfl rfl).trans (neD_int _ _))), eb]
      by_cases h : b = 0
      · rw [if_pos h, decide_eq_true h]; rfl
      · rw [if_neg h, decide_eq_false h]; rfl
    · rw [if_ev (b := !decide (d = 0)) (M1 := M1) (dB_of ((d2_of (x := .int d) (y := .int 0) (M1 := M1) (M2 := M1) rfl rfl).trans (neD_int _ _))), ed]
      by_cases h : d = 0
      · rw [if_pos h, decide_eq_true h]; rfl
      · rw [if_neg h, decide_eq_false h]; rfl
  have x2 : ∃ r, Sm 140 r ∧ p2 [sc, .d (.cel 1), t, .d (.int a), .d (.int b), .d (.int c), .d (.int d), .d (pr (Rat.divInt a b')), .d (pr (Rat.divInt c d')), s9, s10, s11, s12] M1 = .nx [sc, .d (.cel 1), t, .d (.int a), .d (.int b), .d (.int c), .d (.int d), .d (pr (Rat.divInt a b')), .d (pr r), s9, s10, s11, s12] M2 := by
    have cnd : (dB (d2 eqD (dCall (lenIs 2 F__law_draw) [] (aCons (dVar 1) (aCons (dC (.int 5)) aNil))) (dC (.int 0)))) [sc, .d (.cel 1), t, .d (.int a), .d (.int b), .d (.int c), .d (.int d), .d (pr (Rat.divInt a b')), .d (pr (Rat.divInt c d')), s9, s10, s11, s12] M1 = .ok (decide (w = 0)) M2 := dB_of ((d2_of ((call2_ev (x := .cel 1) (y := .int 5) (M1 := M1) (M2 := M1) rfl rfl).trans e2) rfl).trans (eqD_int _ _))
    by_cases h : w = 0
    · rw [decide_eq_true h] at cnd
      exact ⟨_, sq, (if_t cnd).trans rfl⟩
    · rw [decide_eq_false h] at cnd
      exact ⟨_, sr0, chk cnd⟩
  obtain ⟨r, sr, x2⟩ := x2
  obtain ⟨M3, e3, P3, D3⟩ := made_is P2 (by omega) (sq.mono (j := 1000) (by decide))
  obtain ⟨M4, e4, P4, D4⟩ := made_is P3 (by omega) (sr.mono (j := 1000) (by decide))
  have h4 : M4[0]? = some (.tab "law.<locals>.<lambda>") := by rw [((D1.trans D2).trans (D3.trans D4)).2 0 (by decide)]; exact h0
  have x3 : p3 [sc, .d (.cel 1), t, .d (.int a), .d (.int b), .d (.int c), .d (.int d), .d (pr (Rat.divInt a b')), .d (pr r), s9, s10, s11, s12] M2 = .nx [sc, .d (.cel 1), t, .d (.int a), .d (.int b), .d (.int c), .d (.int d), .d (pr (Rat.divInt a b')), .d (pr r), .d (ra (Rat.divInt a b')), .d (ra r), s11, s12] M4 :=
    asg_ev (tup_ev (ac ((call2_ev (x := .cel 1) (y := pr (Rat.divInt a b')) (M1 := M2) (M2 := M2) rfl rfl).trans e3) (ac ((call2_ev (x := .cel 1) (y := pr r) (M1 := M3) (M2 := M3) rfl rfl).trans e4) an)) rfl) rfl
  exact ⟨_, _, _, _, _, _, _, _, _, M4, (seq_nx e1).trans ((seq_nx x1).trans ((seq_nx x2).trans ((seq_nx x3).trans (tail_is h4 sq sr za)))), P4.mono (by omega), h4⟩
theorem turns_is : ∀ (ds : List D) {n : Nat} {M : List MO} (P : PenP 1 n M) (h0 : M[0]? = some (.tab "law.<locals>.<lambda>")) (hn : n + 19 * ds.length ≤ 1000000) (sc t s3 s4 s5 s6 s7 s8 s9 s10 s11 s12 : Sl),
    ∃ ρ' M', forL (gN 2) turnB ds [sc, .d (.cel 1), t, s3, s4, s5, s6, s7, s8, s9, s10, s11, s12] M = .nx ρ' M'
  | [], n, M, P, h0, hn, sc, t, s3, s4, s5, s6, s7, s8, s9, s10, s11, s12 => ⟨_, _, forL_nil⟩
  | z :: ds, n, M, P, h0, hn, sc, t, s3, s4, s5, s6, s7, s8, s9, s10, s11, s12 => by
    rw [List.length_cons] at hn
    obtain ⟨a, b, c, d, f, s, o, w, k, M1, e, P1, h1⟩ := turn_is P h0 (by omega) sc (.d z) s3 s4 s5 s6 s7 s8 s9 s10 s11 s12
    obtain ⟨ρ', M', e2⟩ := turns_is ds P1 h1 (by omega) sc (.d z) a b c d f s o w k s12
    exact ⟨ρ', M', (forL_nx rfl e).trans e2⟩
theorem math : DL.LawOkU "law.<locals>.<lambda>" F_law := fun ns hl hb => by
  obtain ⟨M, e, P, h0⟩ := pen_isT "law.<locals>.<lambda>" ns
  obtain ⟨ρ', M', e2⟩ := turns_is [.int 0, .int 1, .int 2, .int 3] P h0 (by decide) (.d (.rol (ns.map .int))) .mt .mt .mt .mt .mt .mt .mt .mt .mt .mt .mt
  refine ⟨M', fn_rt ?_⟩
  rw [show start0 13 [.rol (ns.map .int)] = [.d (.rol (ns.map .int)), .mt, .mt, .mt, .mt, .mt, .mt, .mt, .mt, .mt, .mt, .mt, .mt] from rfl]
  unfold b_law
  refine (seq_nx (set_of ((call1_ev rfl).trans (by rw [e_pen]; exact e)))).trans ?_
  exact (seq_nx e2).trans rfl
end
end LW
set_option maxRecDepth 100000
set_option maxHeartbeats 4000000
namespace LW
open PySem PySem.Spec PyProof.Rows L2 DL
theorem all_mk {l : PySem.W.OpenLaw} {w : World} {K : PySem.W.Frag} {h : Heap} {mg : Str → Option Value} {fa : Addr} (X : K.In h) (G : h.Ns mainGlobals mg) (hfa : mg "law" = some (.ref fa))
    {f1 f2 f3 t3 f5 f6 f7 f8 f9 f10 f11 f12 f13 f14 f15 f16 f17 f18 f19 f20 f21 f22 f23 f24 f25 f26 f27 f28 ca28 tp28 C0 E3 f29 da29 cc29 : Addr} {oc1 kV1 dc1 pm1 cd1 ct1 oc2 kV2 dc2 pm2 cd2 ct2 oc3 kV3 dc3 pm3 cd3 ct3 tc3 oc5 kV5 dc5 pm5 cd5 ct5 oc6 kV6 dc6 pm6 cd6 ct6 oc7 kV7 dc7 pm7 cd7 ct7 oc8 kV8 dc8 pm8 cd8 ct8 oc9 kV9 dc9 pm9 cd9 ct9 oc10 kV10 dc10 pm10 cd10 ct10 oc11 kV11 dc11 pm11 cd11 ct11 oc12 kV12 dc12 pm12 cd12 ct12 oc13 kV13 dc13 pm13 cd13 ct13 oc14 kV14 dc14 pm14 cd14 ct14 oc15 kV15 dc15 pm15 cd15 ct15 oc16 kV16 dc16 pm16 cd16 ct16 oc17 kV17 dc17 pm17 cd17 ct17 oc18 kV18 dc18 pm18 cd18 ct18 oc19 kV19 dc19 pm19 cd19 ct19 oc20 kV20 dc20 pm20 cd20 ct20 oc21 kV21 dc21 pm21 cd21 ct21 oc22 kV22 dc22 pm22 cd22 ct22 oc23 kV23 dc23 pm23 cd23 ct23 oc24 kV24 dc24 pm24 cd24 ct24 oc25 kV25 dc25 pm25 cd25 ct25 oc26 kV26 dc26 pm26 cd26 ct26 oc27 kV27 dc27 pm27 cd27 ct27 oc28 kV28 dc28 pm28 ct28 ce28 oc29 kV29 dc29 pm29 ct29 xl29 xm29 : Value} {od1 an1 od2 an2 od3 an3 td3 od5 an5 od6 an6 od7 an7 od8 an8 od9 an9 od10 an10 od11 an11 od12 an12 od13 an13 od14 an14 od15 an15 od16 an16 od17 an17 od18 an18 od19 an19 od20 an20 od21 an21 od22 an22 od23 an23 od24 an24 od25 an25 od26 an26 od27 an27 od28 an28 cq28 od29 an29 xd29 xe29 : Option Addr} {sl1 sl2 sl3 ts3 sl5 sl6 sl7 sl8 sl9 sl10 sl11 sl12 sl13 sl14 sl15 sl16 sl17 sl18 sl19 sl20 sl21 sl22 sl23 sl24 sl25 sl26 sl27 sl28 cs28 sl29 xs29 xu29 : Array (Option Value)} {tk3_0 : Tok} {tn3 : Nat} {cvs28 : Array Value} {vs29 : Array Value} {fi29 : Str} {tf29 : Tok} {cdC29 : ClassData} {nm29 q29 : Str} {N29 : Addr} {bs29 bm29 : List Value} {sn29 : List Str} {su29 : List Value} {ab29 : Bool} {co29 : Option Bool} {dd29 : Option Addr} {m0_29 m1_29 m2_29 m3_29 m5_29 : Option Value}
    (aC0 : PySem.W.nsIn K mainGlobals "Ratio" = some (some (.ref C0)))
    (a1 : PySem.W.nsIn K mainGlobals "divisor_of" = some (some (.ref f1)))
    (l1 : K.lookup f1 = some ⟨oc1, od1, .func (PySem.W.fnOf "divisor_of" "divisor_of" (defArgs s_divisor_of) (defBody s_divisor_of) (defScope s_divisor_of) .none kV1 dc1 pm1 an1 cd1 ct1), sl1⟩)
    (c1 : PySem.W.codeIn K cd1 "divisor_of" = true)
    (k1 : PySem.W.keepIn K (.ref f1) = true)
    (a2 : PySem.W.nsIn K mainGlobals "parts_of" = some (some (.ref f2)))
    (l2 : K.lookup f2 = some ⟨oc2, od2, .func (PySem.W.fnOf "parts_of" "parts_of" (defArgs s_parts_of) (defBody s_parts_of) (defScope s_parts_of) .none kV2 dc2 pm2 an2 cd2 ct2), sl2⟩)
    (c2 : PySem.W.codeIn K cd2 "parts_of" = true)
    (k2 : PySem.W.keepIn K (.ref f2) = true)
    (a3 : PySem.W.findIn K (.ref C0) "__init__" = some (some (.ref f3)))
    (i3 : PySem.W.isFn K (.ref f3) = true)
    (l3 : K.lookup f3 = some ⟨oc3, od3, .func (PySem.W.fnOf "__init__" "Ratio.__init__" (defArgs s_Ratio___init__) (defBody s_Ratio___init__) (defScope s_Ratio___init__) (.ref t3) kV3 dc3 pm3 an3 cd3 ct3), sl3⟩)
    (c3 : PySem.W.codeIn K cd3 "Ratio.__init__" = true)
    (k3 : PySem.W.keepIn K (.ref f3) = true)
    (d3 : K.lookup t3 = some ⟨tc3, td3, .seq [Value.int 1 tk3_0].toArray tn3, ts3⟩)
    (a5 : PySem.W.findIn K (.ref C0) "__add__" = some (some (.ref f5)))
    (i5 : PySem.W.isFn K (.ref f5) = true)
    (l5 : K.lookup f5 = some ⟨oc5, od5, .func (PySem.W.fnOf "__add__" "Ratio.__add__" (defArgs s_Ratio___add__) (defBody s_Ratio___add__) (defScope s_Ratio___add__) .none kV5 dc5 pm5 an5 cd5 ct5), sl5⟩)
    (c5 : PySem.W.codeIn K cd5 "Ratio.__add__" = true)
    (k5 : PySem.W.keepIn K (.ref f5) = true)
    (sf0 : PySem.W.selfFirst K C0 = true)
    (rf5 : PySem.W.findIn K (.ref C0) "__radd__" = some none)
    (a6 : PySem.W.findIn K (.ref C0) "__sub__" = some (some (.ref f6)))
    (i6 : PySem.W.isFn K (.ref f6) = true)
    (l6 : K.lookup f6 = some ⟨oc6, od6, .func (PySem.W.fnOf "__sub__" "Ratio.__sub__" (defArgs s_Ratio___sub__) (defBody s_Ratio___sub__) (defScope s_Ratio___sub__) .none kV6 dc6 pm6 an6 cd6 ct6), sl6⟩)
    (c6 : PySem.W.codeIn K cd6 "Ratio.__sub__" = true)
    (k6 : PySem.W.keepIn K (.ref f6) = true)
    (rf6 : PySem.W.findIn K (.ref C0) "__rsub__" = some none)
    (a7 : PySem.W.findIn K (.ref C0) "__mul__" = some (some (.ref f7)))
    (i7 : PySem.W.isFn K (.ref f7) = true)
    (l7 : K.lookup f7 = some ⟨oc7, od7, .func (PySem.W.fnOf "__mul__" "Ratio.__mul__" (defArgs s_Ratio___mul__) (defBody s_Ratio___mul__) (defScope s_Ratio___mul__) .none kV7 dc7 pm7 an7 cd7 ct7), sl7⟩)
    (c7 : PySem.W.codeIn K cd7 "Ratio.__mul__" = true)
    (k7 : PySem.W.keepIn K (.ref f7) = true)
    (rf7 : PySem.W.findIn K (.ref C0) "__rmul__" = some none)
    (a8 : PySem.W.findIn K (.ref C0) "__neg__" = some (some (.ref f8)))
    (i8 : PySem.W.isFn K (.ref f8) = true)
    (l8 : K.lookup f8 = some ⟨oc8, od8, .func (PySem.W.fnOf "__neg__" "Ratio.__neg__" (defArgs s_Ratio___neg__) (defBody s_Ratio___neg__) (defScope s_Ratio___neg__) .none kV8 dc8 pm8 an8 cd8 ct8), sl8⟩)
    (c8 : PySem.W.codeIn K cd8 "Ratio.__neg__" = true)
    (k8 : PySem.W.keepIn K (.ref f8) = true)
    (a9 : PySem.W.findIn K (.ref C0) "over" = some (some (.ref f9)))
    (i9 : PySem.W.isFn K (.ref f9) = true)
    (l9 : K.lookup f9 = some ⟨oc9, od9, .func (PySem.W.fnOf "over" "Ratio.over" (defArgs s_Ratio_over) (defBody s_Ratio_over) (defScope s_Ratio_over) .none kV9 dc9 pm9 an9 cd9 ct9), sl9⟩)
    (c9 : PySem.W.codeIn K cd9 "Ratio.over" = true)
    (k9 : PySem.W.keepIn K (.ref f9) = true)
    (a10 : PySem.W.findIn K (.ref C0) "compared" = some (some (.ref f10)))
    (i10 : PySem.W.isFn K (.ref f10) = true)
    (l10 : K.lookup f10 = some ⟨oc10, od10, .func (PySem.W.fnOf "compared" "Ratio.compared" (defArgs s_Ratio_compared) (defBody s_Ratio_compared) (defScope s_Ratio_compared) .none kV10 dc10 pm10 an10 cd10 ct10), sl10⟩)
    (c10 : PySem.W.codeIn K cd10 "Ratio.compared" = true)
    (k10 : PySem.W.keepIn K (.ref f10) = true)
    (a11 : PySem.W.findIn K (.ref C0) "__eq__" = some (some (.ref f11)))
    (i11 : PySem.W.isFn K (.ref f11) = true)
    (l11 : K.lookup f11 = some ⟨oc11, od11, .func (PySem.W.fnOf "__eq__" "Ratio.__eq__" (defArgs s_Ratio___eq__) (defBody s_Ratio___eq__) (defScope s_Ratio___eq__) .none kV11 dc11 pm11 an11 cd11 ct11), sl11⟩)
    (c11 : PySem.W.codeIn K cd11 "Ratio.__eq__" = true)
    (k11 : PySem.W.keepIn K (.ref f11) = true)
    (a12 : PySem.W.findIn K (.ref C0) "under" = some (some (.ref f12)))
    (i12 : PySem.W.isFn K (.ref f12) = true)
    (l12 : K.lookup f12 = some ⟨oc12, od12, .func (PySem.W.fnOf "under" "Ratio.under" (defArgs s_Ratio_under) (defBody s_Ratio_under) (defScope s_Ratio_under) .none kV12 dc12 pm12 an12 cd12 ct12), sl12⟩)
    (c12 : PySem.W.codeIn K cd12 "Ratio.under" = true)
    (k12 : PySem.W.keepIn K (.ref f12) = true)
    (a13 : PySem.W.findIn K (.ref C0) "at_most" = some (some (.ref f13)))
    (i13 : PySem.W.isFn K (.ref f13) = true)
    (l13 : K.lookup f13 = some ⟨oc13, od13, .func (PySem.W.fnOf "at_most" "Ratio.at_most" (defArgs s_Ratio_at_most) (defBody s_Ratio_at_most) (defScope s_Ratio_at_most) .none kV13 dc13 pm13 an13 cd13 ct13), sl13⟩)
    (c13 : PySem.W.codeIn K cd13 "Ratio.at_most" = true)
    (k13 : PySem.W.keepIn K (.ref f13) = true)
    (a14 : PySem.W.nsIn K mainGlobals "_law_pen" = some (some (.ref f14)))
    (l14 : K.lookup f14 = some ⟨oc14, od14, .func (PySem.W.fnOf "_law_pen" "_law_pen" (defArgs s__law_pen) (defBody s__law_pen) (defScope s__law_pen) .none kV14 dc14 pm14 an14 cd14 ct14), sl14⟩)
    (c14 : PySem.W.codeIn K cd14 "_law_pen" = true)
    (k14 : PySem.W.keepIn K (.ref f14) = true)
    (a15 : PySem.W.nsIn K mainGlobals "_law_draw" = some (some (.ref f15)))
    (l15 : K.lookup f15 = some ⟨oc15, od15, .func (PySem.W.fnOf "_law_draw" "_law_draw" (defArgs s__law_draw) (defBody s__law_draw) (defScope s__law_draw) .none kV15 dc15 pm15 an15 cd15 ct15), sl15⟩)
    (c15 : PySem.W.codeIn K cd15 "_law_draw" = true)
    (k15 : PySem.W.keepIn K (.ref f15) = true)
    (a16 : PySem.W.nsIn K mainGlobals "_law_gcd" = some (some (.ref f16)))
    (l16 : K.lookup f16 = some ⟨oc16, od16, .func (PySem.W.fnOf "_law_gcd" "_law_gcd" (defArgs s__law_gcd) (defBody s__law_gcd) (defScope s__law_gcd) .none kV16 dc16 pm16 an16 cd16 ct16), sl16⟩)
    (c16 : PySem.W.codeIn K cd16 "_law_gcd" = true)
    (k16 : PySem.W.keepIn K (.ref f16) = true)
    (a17 : PySem.W.nsIn K mainGlobals "_law_q" = some (some (.ref f17)))
    (l17 : K.lookup f17 = some ⟨oc17, od17, .func (PySem.W.fnOf "_law_q" "_law_q" (defArgs s__law_q) (defBody s__law_q) (defScope s__law_q) .none kV17 dc17 pm17 an17 cd17 ct17), sl17⟩)
    (c17 : PySem.W.codeIn K cd17 "_law_q" = true)
    (k17 : PySem.W.keepIn K (.ref f17) = true)
    (a18 : PySem.W.nsIn K mainGlobals "_law_plus" = some (some (.ref f18)))
    (l18 : K.lookup f18 = some ⟨oc18, od18, .func (PySem.W.fnOf "_law_plus" "_law_plus" (defArgs s__law_plus) (defBody s__law_plus) (defScope s__law_plus) .none kV18 dc18 pm18 an18 cd18 ct18), sl18⟩)
    (c18 : PySem.W.codeIn K cd18 "_law_plus" = true)
    (k18 : PySem.W.keepIn K (.ref f18) = true)
    (a19 : PySem.W.nsIn K mainGlobals "_law_minus" = some (some (.ref f19)))
    (l19 : K.lookup f19 = some ⟨oc19, od19, .func (PySem.W.fnOf "_law_minus" "_law_minus" (defArgs s__law_minus) (defBody s__law_minus) (defScope s__law_minus) .none kV19 dc19 pm19 an19 cd19 ct19), sl19⟩)
    (c19 : PySem.W.codeIn K cd19 "_law_minus" = true)
    (k19 : PySem.W.keepIn K (.ref f19) = true)
    (a20 : PySem.W.nsIn K mainGlobals "_law_times" = some (some (.ref f20)))
    (l20 : K.lookup f20 = some ⟨oc20, od20, .func (PySem.W.fnOf "_law_times" "_law_times" (defArgs s__law_times) (defBody s__law_times) (defScope s__law_times) .none kV20 dc20 pm20 an20 cd20 ct20), sl20⟩)
    (c20 : PySem.W.codeIn K cd20 "_law_times" = true)
    (k20 : PySem.W.keepIn K (.ref f20) = true)
    (a21 : PySem.W.nsIn K mainGlobals "_law_sign" = some (some (.ref f21)))
    (l21 : K.lookup f21 = some ⟨oc21, od21, .func (PySem.W.fnOf "_law_sign" "_law_sign" (defArgs s__law_sign) (defBody s__law_sign) (defScope s__law_sign) .none kV21 dc21 pm21 an21 cd21 ct21), sl21⟩)
    (c21 : PySem.W.codeIn K cd21 "_law_sign" = true)
    (k21 : PySem.W.keepIn K (.ref f21) = true)
    (a22 : PySem.W.nsIn K mainGlobals "_law_is_ratio" = some (some (.ref f22)))
    (l22 : K.lookup f22 = some ⟨oc22, od22, .func (PySem.W.fnOf "_law_is_ratio" "_law_is_ratio" (defArgs s__law_is_ratio) (defBody s__law_is_ratio) (defScope s__law_is_ratio) .none kV22 dc22 pm22 an22 cd22 ct22), sl22⟩)
    (c22 : PySem.W.codeIn K cd22 "_law_is_ratio" = true)
    (k22 : PySem.W.keepIn K (.ref f22) = true)
    (a23 : PySem.W.nsIn K mainGlobals "_law_integer" = some (some (.ref f23)))
    (l23 : K.lookup f23 = some ⟨oc23, od23, .func (PySem.W.fnOf "_law_integer" "_law_integer" (defArgs s__law_integer) (defBody s__law_integer) (defScope s__law_integer) .none kV23 dc23 pm23 an23 cd23 ct23), sl23⟩)
    (c23 : PySem.W.codeIn K cd23 "_law_integer" = true)
    (k23 : PySem.W.keepIn K (.ref f23) = true)
    (a24 : PySem.W.nsIn K mainGlobals "_law_made" = some (some (.ref f24)))
    (l24 : K.lookup f24 = some ⟨oc24, od24, .func (PySem.W.fnOf "_law_made" "_law_made" (defArgs s__law_made) (defBody s__law_made) (defScope s__law_made) .none kV24 dc24 pm24 an24 cd24 ct24), sl24⟩)
    (c24 : PySem.W.codeIn K cd24 "_law_made" = true)
    (k24 : PySem.W.keepIn K (.ref f24) = true)
    (a25 : PySem.W.nsIn K mainGlobals "_law_bottom_named" = some (some (.ref f25)))
    (l25 : K.lookup f25 = some ⟨oc25, od25, .func (PySem.W.fnOf "_law_bottom_named" "_law_bottom_named" (defArgs s__law_bottom_named) (defBody s__law_bottom_named) (defScope s__law_bottom_named) .none kV25 dc25 pm25 an25 cd25 ct25), sl25⟩)
    (c25 : PySem.W.codeIn K cd25 "_law_bottom_named" = true)
    (k25 : PySem.W.keepIn K (.ref f25) = true)
    (a26 : PySem.W.nsIn K mainGlobals "_law_is_order" = some (some (.ref f26)))
    (l26 : K.lookup f26 = some ⟨oc26, od26, .func (PySem.W.fnOf "_law_is_order" "_law_is_order" (defArgs s__law_is_order) (defBody s__law_is_order) (defScope s__law_is_order) .none kV26 dc26 pm26 an26 cd26 ct26), sl26⟩)
    (c26 : PySem.W.codeIn K cd26 "_law_is_order" = true)
    (k26 : PySem.W.keepIn K (.ref f26) = true)
    (a27 : PySem.W.nsIn K mainGlobals "_law_with_integer" = some (some (.ref f27)))
    (l27 : K.lookup f27 = some ⟨oc27, od27, .func (PySem.W.fnOf "_law_with_integer" "_law_with_integer" (defArgs s__law_with_integer) (defBody s__law_with_integer) (defScope s__law_with_integer) .none kV27 dc27 pm27 an27 cd27 ct27), sl27⟩)
    (c27 : PySem.W.codeIn K cd27 "_law_with_integer" = true)
    (k27 : PySem.W.keepIn K (.ref f27) = true)
    (a28 : PySem.W.nsIn K mainGlobals "law" = some (some (.ref f28)))
    (l28 : K.lookup f28 = some ⟨oc28, od28, .func (PySem.W.fnOf "law" "law" (defArgs s_law) (defBody s_law) (defScope s_law) .none kV28 dc28 pm28 an28 (.ref ca28) ct28), sl28⟩)
    (c28 : PySem.W.codeIn K (.ref ca28) "law" = true)
    (cj28 : K.lookup ca28 = some ⟨ce28, cq28, .fields cvs28, cs28⟩)
    (cv28 : cvs28[11]? = some (.ref tp28))
    (ch28 : PySem.W.codeHdIn K ca28 tp28 = true)
    (cn28 : K.lookup tp28 = none)
    (k28 : PySem.W.keepIn K (.ref f28) = true)
    (pg0 : PySem.W.plainGet K C0 Str.empty = true)
    (hd0 : PySem.W.hasDictIn K C0 = true)
    (po0 : PySem.W.plainOver K C0 = true)
    (mk0 : PySem.W.makesIn K C0 = true)
    (ci0 : PySem.W.isClsIn K C0 = true)
    (sa0 : PySem.W.findIn K (.ref C0) "__setattr__" = some (some (.builtin "object.__setattr__")))
    (kc0 : PySem.W.keepIn K (.ref C0) = true)
    (ic0 : PySem.W.findIn K (.ref C0) "__class__" = some (some (.builtin "object.__class__")))
    (ob0 : PySem.W.mroIn K C0 (.type "object") = some true)
    (ty0 : PySem.W.typeIn K (.ref C0) = some (.type "type"))
    (b1_0 : PySem.W.mroIn K C0 (.type "bool") = some false)
    (b2_0 : PySem.W.mroIn K C0 (.type "int") = some false)
    (b3_0 : PySem.W.mroIn K C0 (.type "str") = some false)
    (b4_0 : PySem.W.mroIn K C0 (.type "tuple") = some false)
    (b5_0 : PySem.W.mroIn K C0 (.type "list") = some false)
    (nf0_top : PySem.W.findIn K (.ref C0) "top" = some none)
    (nf0_bottom : PySem.W.findIn K (.ref C0) "bottom" = some none)
    (nf0_fixed : PySem.W.findIn K (.ref C0) "fixed" = some none)
    (nf0_slopes : PySem.W.findIn K (.ref C0) "slopes" = some none)
    (nf0_size : PySem.W.findIn K (.ref C0) "size" = some none)
    (nf0_is_number : PySem.W.findIn K (.ref C0) "is_number" = some none)
    (nf0_row : PySem.W.findIn K (.ref C0) "row" = some none)
    (nf0_rows : PySem.W.findIn K (.ref C0) "rows" = some none)
    (nf0_free : PySem.W.findIn K (.ref C0) "free" = some none)
    (nf0_held : PySem.W.findIn K (.ref C0) "held" = some none)
    (nf0_lines : PySem.W.findIn K (.ref C0) "lines" = some none)
    (nf0_plane_bottom : PySem.W.findIn K (.ref C0) "plane_bottom" = some none)
    (g1 : PySem.W.specialIn K (.builtin "object.__class__") "__get__" = some (some (.builtin "getset_descriptor.__get__")))
    (g2 : PySem.W.takesIn K (.builtin "object.__class__") = some true)
    (z_abs : PySem.W.nsIn K mainGlobals "abs" = some none)
    (z_bool : PySem.W.nsIn K mainGlobals "bool" = some none)
    (z_int : PySem.W.nsIn K mainGlobals "int" = some none)
    (z_isinstance : PySem.W.nsIn K mainGlobals "isinstance" = some none)
    (z_len : PySem.W.nsIn K mainGlobals "len" = some none)
    (z_list : PySem.W.nsIn K mainGlobals "list" = some none)
    (z_range : PySem.W.nsIn K mainGlobals "range" = some none)
    (opq : PySem.W.nsIn K cStatics "thirdparty.any" = some none)
    (zsup : PySem.W.nsIn K mainGlobals "super" = some none)
    (htop : (l.prog.main.scope.names.lookup ("super" : Str)).isSome = false)
    (aE3 : PySem.W.nsIn K mainGlobals "BadNumber" = some (some (.ref E3)))
    (xc3 : PySem.W.isClsIn K E3 = true)
    (xt3 : PySem.W.typeIn K (.ref E3) = some (.type "type"))
    (xb3 : PySem.W.subIn K (.ref E3) (.type "BaseException") = some true)
    (a29 : PySem.W.findIn K (.ref E3) "__init__" = some (some (.ref f29)))
    (i29 : PySem.W.typeIn K (.ref f29) = some (.type "function"))
    (l29 : K.lookup f29 = some ⟨oc29, od29, .func (PySem.W.ksFn "__init__" "BadNumber.__init__" (defArgs s_BadNumber) (defBody s_BadNumber) (defScope s_BadNumber) .none kV29 dc29 pm29 an29 (.ref da29) ct29 cc29), sl29⟩)
    (c29 : PySem.W.codeIn K (.ref da29) "BadNumber.__init__" = true)
    (j29 : K.lookup da29 = some ⟨xl29, xd29, .fields vs29, xs29⟩)
    (v29 : vs29[2]? = some (.str fi29 tf29))
    (w29 : ((l.prog.main.file : Str) == fi29) = true)
    (y29 : K.lookup cc29 = some ⟨xm29, xe29, .cell (some (.ref E3)), xu29⟩)
    (p29 : PySem.W.clsIn K E3 = some cdC29)
    (r29 : PySem.W.mroIn K E3 (.ref E3) = some true)
    (u29 : PySem.W.ks_superIn K E3 E3 "__init__" = some (some (.builtin "ValueError.__init__")))
    (e29 : PySem.W.subIn K (.ref E3) (.type "ValueError") = some true)
    (x29 : K.lookup E3 = some (excClassObj nm29 q29 E3 N29 bs29 bm29 true sn29 su29 ab29 co29 dd29 m0_29 m1_29 m2_29 m3_29 m5_29 "ValueError.__new__"))
    (hb29 : PySem.HandSPX.refsVE bm29 = true)
    (s29 : PySem.W.findIn K (.ref E3) "__setattr__" = some (some (.builtin "object.__setattr__")))
    (h29 : PySem.W.keepIn K (.ref E3) = true)
    (ga3 : PySem.W.findIn K (.ref E3) "__getattribute__" = some (some (.builtin "BaseException.__getattribute__")))
    (gg3 : PySem.W.findIn K (.ref E3) "__getattr__" = some none)
    (xh3 : PySem.W.hasDictIn K E3 = true)
    (of3_number : PySem.W.findIn K (.ref E3) "number" = some none)
    (of3_what : PySem.W.findIn K (.ref E3) "what" = some none)
    (xx3_3 : PySem.W.subIn K (.ref E3) (.ref E3) = some true)
    : ∃ (fd : FuncData) (o : Obj) (c P : Addr) (e : Value) (dd : Option Addr) (vs : Array Value) (sl : Array (Option Value)), K.lookup fa = some o ∧ o.data = .func fd ∧ fd.code = .ref c ∧ K.lookup c = some ⟨e, dd, .fields vs, sl⟩ ∧ vs[11]? = some (.ref P) ∧ PySem.W.codeHdIn K c P = true ∧ K.lookup P = none ∧ (∀ (s : Shared) (v : Value), BindsTo s fd ⟨[v], []⟩ [("_law_script", v)]) ∧ ∀ base : Heap, K.In base → base.Ns mainGlobals mg → LamX.TabB base mg c P → FnOk l.prog w K mg base (L2.CX l.prog w) 8 fa fd ["_law_script"] (spLawU K P) := by
  have e : fa = f28 := by
    have z := hfa.symm.trans (PySem.W.mg_of X G a28)
    cases z
    rfl
  rw [e]
  have T : Txt l.prog K mg (fun n => match n with | 1 => f1 | 2 => f2 | 3 => f3 | 5 => f5 | 6 => f6 | 7 => f7 | 8 => f8 | 9 => f9 | 10 => f10 | 11 => f11 | 12 => f12 | 13 => f13 | 14 => f14 | 15 => f15 | 16 => f16 | 17 => f17 | 18 => f18 | 19 => f19 | 20 => f20 | 21 => f21 | 22 => f22 | 23 => f23 | 24 => f24 | 25 => f25 | 26 => f26 | 27 => f27 | 28 => f28 | 29 => f29 | _ => 0) (fun n => match n with | 1 => PySem.W.fnOf "divisor_of" "divisor_of" (defArgs s_divisor_of) (defBody s_divisor_of) (defScope s_divisor_of) .none kV1 dc1 pm1 an1 cd1 ct1 | 2 => PySem.W.fnOf "parts_of" "parts_of" (defArgs s_parts_of) (defBody s_parts_of) (defScope s_parts_of) .none kV2 dc2 pm2 an2 cd2 ct2 | 3 => PySem.W.fnOf "__init__" "Ratio.__init__" (defArgs s_Ratio___init__) (defBody s_Ratio___init__) (defScope s_Ratio___init__) (.ref t3) kV3 dc3 pm3 an3 cd3 ct3 | 5 => PySem.W.fnOf "__add__" "Ratio.__add__" (defArgs s_Ratio___add__) (defBody s_Ratio___add__) (defScope s_Ratio___add__) .none kV5 dc5 pm5 an5 cd5 ct5 | 6 => PySem.W.fnOf "__sub__" "Ratio.__sub__" (defArgs s_Ratio___sub__) (defBody s_Ratio___sub__) (defScope s_Ratio___sub__) .none kV6 dc6 pm6 an6 cd6 ct6 | 7 => PySem.W.fnOf "__mul__" "Ratio.__mul__" (defArgs s_Ratio___mul__) (defBody s_Ratio___mul__) (defScope s_Ratio___mul__) .none kV7 dc7 pm7 an7 cd7 ct7 | 8 => PySem.W.fnOf "__neg__" "Ratio.__neg__" (defArgs s_Ratio___neg__) (defBody s_Ratio___neg__) (defScope s_Ratio___neg__) .none kV8 dc8 pm8 an8 cd8 ct8 | 9 => PySem.W.fnOf "over" "Ratio.over" (defArgs s_Ratio_over) (defBody s_Ratio_over) (defScope s_Ratio_over) .none kV9 dc9 pm9 an9 cd9 ct9 | 10 => PySem.W.fnOf "compared" "Ratio.compared" (defArgs s_Ratio_compared) (defBody s_Ratio_compared) (defScope s_Ratio_compared) .none kV10 dc10 pm10 an10 cd10 ct10 | 11 => PySem.W.fnOf "__eq__" "Ratio.__eq__" (defArgs s_Ratio___eq__) (defBody s_Ratio___eq__) (defScope s_Ratio___eq__) .none kV11 dc11 pm11 an11 cd11 ct11 | 12 => PySem.W.fnOf "under" "Ratio.under" (defArgs s_Ratio_under) (defBody s_Ratio_under) (defScope s_Ratio_under) .none kV12 dc12 pm12 an12 cd12 ct12 | 13 => PySem.W.fnOf "at_most" "Ratio.at_most" (defArgs s_Ratio_at_most) (defBody s_Ratio_at_most) (defScope s_Ratio_at_most) .none kV13 dc13 pm13 an13 cd13 ct13 | 14 => PySem.W.fnOf "_law_pen" "_law_pen" (defArgs s__law_pen) (defBody s__law_pen) (defScope s__law_pen) .none kV14 dc14 pm14 an14 cd14 ct14 | 15 => PySem.W.fnOf "_law_draw" "_law_draw" (defArgs s__law_draw) (defBody s__law_draw) (defScope s__law_draw) .none kV15 dc15 pm15 an15 cd15 ct15 | 16 => PySem.W.fnOf "_law_gcd" "_law_gcd" (defArgs s__law_gcd) (defBody s__law_gcd) (defScope s__law_gcd) .none kV16 dc16 pm16 an16 cd16 ct16 | 17 => PySem.W.fnOf "_law_q" "_law_q" (defArgs s__law_q) (defBody s__law_q) (defScope s__law_q) .none kV17 dc17 pm17 an17 cd17 ct17 | 18 => PySem.W.fnOf "_law_plus" "_law_plus" (defArgs s__law_plus) (defBody s__law_plus) (defScope s__law_plus) .none kV18 dc18 pm18 an18 cd18 ct18 | 19 => PySem.W.fnOf "_law_minus" "_law_minus" (defArgs s__law_minus) (defBody s__law_minus) (defScope s__law_minus) .none kV19 dc19 pm19 an19 cd19 ct19 | 20 => PySem.W.fnOf "_law_times" "_law_times" (defArgs s__law_times) (defBody s__law_times) (defScope s__law_times) .none kV20 dc20 pm20 an20 cd20 ct20 | 21 => PySem.W.fnOf "_law_sign" "_law_sign" (defArgs s__law_sign) (defBody s__law_sign) (defScope s__law_sign) .none kV21 dc21 pm21 an21 cd21 ct21 | 22 => PySem.W.fnOf "_law_is_ratio" "_law_is_ratio" (defArgs s__law_is_ratio) (defBody s__law_is_ratio) (defScope s__law_is_ratio) .none kV22 dc22 pm22 an22 cd22 ct22 | 23 => PySem.W.fnOf "_law_integer" "_law_integer" (defArgs s__law_integer) (defBody s__law_integer) (defScope s__law_integer) .none kV23 dc23 pm23 an23 cd23 ct23 | 24 => PySem.W.fnOf "_law_made" "_law_made" (defArgs s__law_made) (defBody s__law_made) (defScope s__law_made) .none kV24 dc24 pm24 an24 cd24 ct24 | 25 => PySem.W.fnOf "_law_bottom_named" "_law_bottom_named" (defArgs s__law_bottom_named) (defBody s__law_bottom_named) (defScope s__law_bottom_named) .none kV25 dc25 pm25 an25 cd25 ct25 | 26 => PySem.W.fnOf "_law_is_order" "_law_is_order" (defArgs s__law_is_order) (defBody s__law_is_order) (defScope s__law_is_order) .none kV26 dc26 pm26 an26 cd26 ct26 | 27 => PySem.W.fnOf "_law_with_integer" "_law_with_integer" (defArgs s__law_with_integer) (defBody s__law_with_integer) (defScope s__law_with_integer) .none kV27 dc27 pm27 an27 cd27 ct27 | 28 => PySem.W.fnOf "law" "law" (defArgs s_law) (defBody s_law) (defScope s_law) .none kV28 dc28 pm28 an28 (.ref ca28) ct28 | 29 => PySem.W.ksFn "__init__" "BadNumber.__init__" (defArgs s_BadNumber) (defBody s_BadNumber) (defScope s_BadNumber) .none kV29 dc29 pm29 an29 (.ref da29) ct29 cc29 | _ => PySem.W.fnOf "law" "law" (defArgs s_law) (defBody s_law) (defScope s_law) .none kV28 dc28 pm28 an28 (.ref ca28) ct28) ⟨K, fun n => match n with | 0 => C0 | 1 => C0 | 2 => C0 | 3 => C0 | _ => 0, fun n => match n with | 3 => E3 | _ => 0, none, none, fun _ => tp28⟩ := {
    hK := rfl,
    g_divisor_of := PySem.W.mg_of X G a1,
    f_divisor_of := ⟨⟨oc1, od1, _, kV1, dc1, pm1, an1, cd1, ct1, sl1, rfl, l1, c1⟩, k1⟩,
    n_divisor_of := .all fun us hl => match us, hl with | [_, _], _ => rfl,
    g_parts_of := PySem.W.mg_of X G a2,
    f_parts_of := ⟨⟨oc2, od2, _, kV2, dc2, pm2, an2, cd2, ct2, sl2, rfl, l2, c2⟩, k2⟩,
    n_parts_of := .all fun us hl => match us, hl with | [_], _ => rfl,
    f_Ratio___init__ := ⟨⟨oc3, od3, _, kV3, dc3, pm3, an3, cd3, ct3, sl3, rfl, l3, c3⟩, k3⟩,
    n_Ratio___init__ := binds_full (show FunD K "__init__" "Ratio.__init__" (defArgs s_Ratio___init__) (defBody s_Ratio___init__) (defScope s_Ratio___init__) ([.int 1] : List V) [] f3 _ from ⟨⟨oc3, od3, _, kV3, dc3, pm3, an3, cd3, ct3, sl3, rfl, l3, c3, .inr ⟨by simp, t3, _, _, tn3, rfl, d3, rfl, (.cons ⟨_, rfl⟩ .nil)⟩, .inl rfl⟩, k3⟩) (by simp) fun _ _ _ _ _ _ _ us its hu hi => match us, hu, its, hi with | [_, _, _], _, [_], _ => ⟨_, rfl, rfl⟩,
    nd1_Ratio___init__ := FunD.binds1 (show FunD K "__init__" "Ratio.__init__" (defArgs s_Ratio___init__) (defBody s_Ratio___init__) (defScope s_Ratio___init__) ([.int 1] : List V) [] f3 _ from ⟨⟨oc3, od3, _, kV3, dc3, pm3, an3, cd3, ct3, sl3, rfl, l3, c3, .inr ⟨by simp, t3, _, _, tn3, rfl, d3, rfl, (.cons ⟨_, rfl⟩ .nil)⟩, .inl rfl⟩, k3⟩) 2 0 (by simp) rfl fun _ _ _ _ _ _ _ us its hu hi => match us, hu, its, hi with | [_, _], _, [_], _ => ⟨_, rfl, rfl⟩,
    m_Ratio___add__ := ⟨a5, i5, k5⟩,
    f_Ratio___add__ := ⟨⟨oc5, od5, _, kV5, dc5, pm5, an5, cd5, ct5, sl5, rfl, l5, c5⟩, k5⟩,
    n_Ratio___add__ := .all fun us hl => match us, hl with | [_, _], _ => rfl,
    o_Ratio___add__ := ⟨sf0, a5, i5, rf5, Option.isSome_iff_exists.mp (by kernel_rfl), Option.isSome_iff_exists.mp (by kernel_rfl), by kernel_rfl⟩,
    m_Ratio___sub__ := ⟨a6, i6, k6⟩,
    f_Ratio___sub__ := ⟨⟨oc6, od6, _, kV6, dc6, pm6, an6, cd6, ct6, sl6, rfl, l6, c6⟩, k6⟩,
    n_Ratio___sub__ := .all fun us hl => match us, hl with | [_, _], _ => rfl,
    o_Ratio___sub__ := ⟨sf0, a6, i6, rf6, Option.isSome_iff_exists.mp (by kernel_rfl), Option.isSome_iff_exists.mp (by kernel_rfl), by kernel_rfl⟩,
    m_Ratio___mul__ := ⟨a7, i7, k7⟩,
    f_Ratio___mul__ := ⟨⟨oc7, od7, _, kV7, dc7, pm7, an7, cd7, ct7, sl7, rfl, l7, c7⟩, k7⟩,
    n_Ratio___mul__ := .all fun us hl => match us, hl with | [_, _], _ => rfl,
    o_Ratio___mul__ := ⟨sf0, a7, i7, rf7, Option.isSome_iff_exists.mp (by kernel_rfl), Option.isSome_iff_exists.mp (by kernel_rfl), by kernel_rfl⟩,
    m_Ratio___neg__ := ⟨a8, i8, k8⟩,
    f_Ratio___neg__ := ⟨⟨oc8, od8, _, kV8, dc8, pm8, an8, cd8, ct8, sl8, rfl, l8, c8⟩, k8⟩,
    n_Ratio___neg__ := .all fun us hl => match us, hl with | [_], _ => rfl,
    o_Ratio___neg__ := ⟨a8, i8⟩,
    m_Ratio_over := ⟨a9, i9, k9⟩,
    f_Ratio_over := ⟨⟨oc9, od9, _, kV9, dc9, pm9, an9, cd9, ct9, sl9, rfl, l9, c9⟩, k9⟩,
    n_Ratio_over := .all fun us hl => match us, hl with | [_, _], _ => rfl,
    m_Ratio_compared := ⟨a10, i10, k10⟩,
    f_Ratio_compared := ⟨⟨oc10, od10, _, kV10, dc10, pm10, an10, cd10, ct10, sl10, rfl, l10, c10⟩, k10⟩,
    n_Ratio_compared := .all fun us hl => match us, hl with | [_, _], _ => rfl,
    m_Ratio___eq__ := ⟨a11, i11, k11⟩,
    f_Ratio___eq__ := ⟨⟨oc11, od11, _, kV11, dc11, pm11, an11, cd11, ct11, sl11, rfl, l11, c11⟩, k11⟩,
    n_Ratio___eq__ := .all fun us hl => match us, hl with | [_, _], _ => rfl,
    o_Ratio___eq__ := ⟨a11, i11, nf_of fun c' hc' => by
      have r : c' = 0 := by simpa using hc'
      rcases r with rfl
      · exact .inl rfl
      ⟩,
    m_Ratio_under := ⟨a12, i12, k12⟩,
    f_Ratio_under := ⟨⟨oc12, od12, _, kV12, dc12, pm12, an12, cd12, ct12, sl12, rfl, l12, c12⟩, k12⟩,
    n_Ratio_under := .all fun us hl => match us, hl with | [_, _], _ => rfl,
    m_Ratio_at_most := ⟨a13, i13, k13⟩,
    f_Ratio_at_most := ⟨⟨oc13, od13, _, kV13, dc13, pm13, an13, cd13, ct13, sl13, rfl, l13, c13⟩, k13⟩,
    n_Ratio_at_most := .all fun us hl => match us, hl with | [_, _], _ => rfl,
    g__law_pen := PySem.W.mg_of X G a14,
    f__law_pen := ⟨⟨oc14, od14, _, kV14, dc14, pm14, an14, cd14, ct14, sl14, rfl, l14, c14⟩, k14⟩,
    n__law_pen := .all fun us hl => match us, hl with | [_], _ => rfl,
    g__law_draw := PySem.W.mg_of X G a15,
    f__law_draw := ⟨⟨oc15, od15, _, kV15, dc15, pm15, an15, cd15, ct15, sl15, rfl, l15, c15⟩, k15⟩,
    n__law_draw := .all fun us hl => match us, hl with | [_, _], _ => rfl,
    g__law_gcd := PySem.W.mg_of X G a16,
    f__law_gcd := ⟨⟨oc16, od16, _, kV16, dc16, pm16, an16, cd16, ct16, sl16, rfl, l16, c16⟩, k16⟩,
    n__law_gcd := .all fun us hl => match us, hl with | [_, _], _ => rfl,
    g__law_q := PySem.W.mg_of X G a17,
    f__law_q := ⟨⟨oc17, od17, _, kV17, dc17, pm17, an17, cd17, ct17, sl17, rfl, l17, c17⟩, k17⟩,
    n__law_q := .all fun us hl => match us, hl with | [_, _], _ => rfl,
    g__law_plus := PySem.W.mg_of X G a18,
    f__law_plus := ⟨⟨oc18, od18, _, kV18, dc18, pm18, an18, cd18, ct18, sl18, rfl, l18, c18⟩, k18⟩,
    n__law_plus := .all fun us hl => match us, hl with | [_, _], _ => rfl,
    g__law_minus := PySem.W.mg_of X G a19,
    f__law_minus := ⟨⟨oc19, od19, _, kV19, dc19, pm19, an19, cd19, ct19, sl19, rfl, l19, c19⟩, k19⟩,
    n__law_minus := .all fun us hl => match us, hl with | [_, _], _ => rfl,
    g__law_times := PySem.W.mg_of X G a20,
    f__law_times := ⟨⟨oc20, od20, _, kV20, dc20, pm20, an20, cd20, ct20, sl20, rfl, l20, c20⟩, k20⟩,
    n__law_times := .all fun us hl => match us, hl with | [_, _], _ => rfl,
    g__law_sign := PySem.W.mg_of X G a21,
    f__law_sign := ⟨⟨oc21, od21, _, kV21, dc21, pm21, an21, cd21, ct21, sl21, rfl, l21, c21⟩, k21⟩,
    n__law_sign := .all fun us hl => match us, hl with | [_], _ => rfl,
    g__law_is_ratio := PySem.W.mg_of X G a22,
    f__law_is_ratio := ⟨⟨oc22, od22, _, kV22, dc22, pm22, an22, cd22, ct22, sl22, rfl, l22, c22⟩, k22⟩,
    n__law_is_ratio := .all fun us hl => match us, hl with | [_, _], _ => rfl,
    g__law_integer := PySem.W.mg_of X G a23,
    f__law_integer := ⟨⟨oc23, od23, _, kV23, dc23, pm23, an23, cd23, ct23, sl23, rfl, l23, c23⟩, k23⟩,
    n__law_integer := .all fun us hl => match us, hl with | [_], _ => rfl,
    g__law_made := PySem.W.mg_of X G a24,
    f__law_made := ⟨⟨oc24, od24, _, kV24, dc24, pm24, an24, cd24, ct24, sl24, rfl, l24, c24⟩, k24⟩,
    n__law_made := .all fun us hl => match us, hl with | [_, _], _ => rfl,
    g__law_bottom_named := PySem.W.mg_of X G a25,
    f__law_bottom_named := ⟨⟨oc25, od25, _, kV25, dc25, pm25, an25, cd25, ct25, sl25, rfl, l25, c25⟩, k25⟩,
    n__law_bottom_named := .all fun us hl => match us, hl with | [_], _ => rfl,
    g__law_is_order := PySem.W.mg_of X G a26,
    f__law_is_order := ⟨⟨oc26, od26, _, kV26, dc26, pm26, an26, cd26, ct26, sl26, rfl, l26, c26⟩, k26⟩,
    n__law_is_order := .all fun us hl => match us, hl with | [_, _, _], _ => rfl,
    g__law_with_integer := PySem.W.mg_of X G a27,
    f__law_with_integer := ⟨⟨oc27, od27, _, kV27, dc27, pm27, an27, cd27, ct27, sl27, rfl, l27, c27⟩, k27⟩,
    n__law_with_integer := .all fun us hl => match us, hl with | [_, _, _], _ => rfl,
    g_law := PySem.W.mg_of X G a28,
    f_law := ⟨⟨oc28, od28, _, kV28, dc28, pm28, an28, (.ref ca28), ct28, sl28, rfl, l28, c28⟩, k28⟩,
    n_law := .all fun us hl => match us, hl with | [_], _ => rfl,
    c_Ratio := PySem.W.mg_of X G aC0,
    mk_Ratio := ⟨mk0, a3, i3, kc0⟩,
    b_abs := PySem.W.mg_none_of X G z_abs,
    b_bool := PySem.W.mg_none_of X G z_bool,
    b_int := PySem.W.mg_none_of X G z_int,
    b_isinstance := PySem.W.mg_none_of X G z_isinstance,
    b_len := PySem.W.mg_none_of X G z_len,
    b_list := PySem.W.mg_none_of X G z_list,
    b_range := PySem.W.mg_none_of X G z_range,
    g_BadNumber := PySem.W.mg_of X G aE3,
    ek_BadNumber := ⟨⟨oc29, od29, sl29, .none, kV29, dc29, pm29, ct29, an29, da29, cc29, xl29, xm29, xd29, xe29, xs29, xu29, vs29, fi29, tf29, cdC29, rfl, l29, c29, j29, v29, w29, y29, p29⟩, r29, PySem.W.mg_none_of X G zsup, u29, e29, opq, htop, ⟨⟨nm29, q29, N29, bs29, bm29, sn29, su29, ab29, co29, dd29, m0_29, m1_29, m2_29, m3_29, m5_29, x29, hb29⟩, s29, xb3, xt3, h29⟩⟩,
    oi_BadNumber := a29,
    ot_BadNumber := i29,
    on_BadNumber := (show Binds K (PySem.W.ksFn "__init__" "BadNumber.__init__" (defArgs s_BadNumber) (defBody s_BadNumber) (defScope s_BadNumber) .none kV29 dc29 pm29 an29 (.ref da29) ct29 cc29) ["self", "what", "number"] [] from .all fun us hl => match us, hl with | [_, _, _], _ => rfl),
    xf_BadNumber := ⟨ga3, gg3, xb3, xh3⟩,
    of_BadNumber_number := of3_number,
    of_BadNumber_what := of3_what,
    gok := ⟨fun c f hf => by
      have key : ∀ c f, f ∈ cn c → Cls K ((fun n => match n with | 0 => C0 | 1 => C0 | 2 => C0 | 3 => C0 | _ => 0 : Nat → Addr) c) ∧ NoAttr K ((fun n => match n with | 0 => C0 | 1 => C0 | 2 => C0 | 3 => C0 | _ => 0 : Nat → Addr) c) f := fun c f hf => by
        match c, hf with
        | 0, hf =>
          simp only [cn, List.mem_cons, List.not_mem_nil, or_false] at hf
          rcases hf with rfl | rfl
          · exact ⟨⟨pg0, hd0, po0, sa0⟩, nf0_top⟩
          · exact ⟨⟨pg0, hd0, po0, sa0⟩, nf0_bottom⟩
        | 1, hf =>
          simp only [cn, List.mem_cons, List.not_mem_nil, or_false] at hf
          rcases hf with rfl | rfl | rfl | rfl | rfl
          · exact ⟨⟨pg0, hd0, po0, sa0⟩, nf0_fixed⟩
          · exact ⟨⟨pg0, hd0, po0, sa0⟩, nf0_slopes⟩
          · exact ⟨⟨pg0, hd0, po0, sa0⟩, nf0_size⟩
          · exact ⟨⟨pg0, hd0, po0, sa0⟩, nf0_is_number⟩
          · exact ⟨⟨pg0, hd0, po0, sa0⟩, nf0_row⟩
        | 2, hf =>
          simp only [cn, List.mem_cons, List.not_mem_nil, or_false] at hf
          rcases hf with rfl | rfl
          · exact ⟨⟨pg0, hd0, po0, sa0⟩, nf0_rows⟩
          · exact ⟨⟨pg0, hd0, po0, sa0⟩, nf0_size⟩
        | 3, hf =>
          simp only [cn, List.mem_cons, List.not_mem_nil, or_false] at hf
          rcases hf with rfl | rfl | rfl | rfl | rfl | rfl
          · exact ⟨⟨pg0, hd0, po0, sa0⟩, nf0_size⟩
          · exact ⟨⟨pg0, hd0, po0, sa0⟩, nf0_free⟩
          · exact ⟨⟨pg0, hd0, po0, sa0⟩, nf0_held⟩
          · exact ⟨⟨pg0, hd0, po0, sa0⟩, nf0_bottom⟩
          · exact ⟨⟨pg0, hd0, po0, sa0⟩, nf0_lines⟩
          · exact ⟨⟨pg0, hd0, po0, sa0⟩, nf0_plane_bottom⟩
        | n + 4, hf => exact absurd hf (by simp [cn])
      exact key c f hf⟩,
    iok := isOk_of (fun c hc => by
      match c, hc with
      | 0, _ => exact ⟨⟨pg0, hd0, po0, sa0⟩, ic0, ob0, ci0, ty0, b1_0, b2_0, b3_0, b4_0, b5_0⟩
      | n + 1, hc => simp at hc) (fun c c' hc hc' ne => by
      match c, c', hc, hc', ne with
      | 0, 0, _, _, ne => exact absurd rfl ne
      | n + 1, _, hc, _, _ => simp at hc
      | _, n + 1, _, hc, _ => simp at hc) g1 g2,
    xm := xmOk_of (fun c hc => by
      have r : c = 3 := by simpa using hc
      rcases r with rfl
      · exact ⟨xc3, xt3, xb3⟩
      ) (fun c c' hc hc' => by
      have r : c = 3 := by simpa using hc
      have r' : c' = 3 := by simpa using hc'
      rcases r with rfl <;> rcases r' with rfl
      · exact xx3_3
      ) }
  exact ⟨_, _, ca28, tp28, _, _, _, _, l28, rfl, rfl, cj28, cv28, ch28, cn28, fun s v => .of_eq rfl, fun base _ _ hT => (ok_law (cO := fun _ => ca28) T ⟨rfl, hT⟩).imp fun vs H Q E hs => spLawU_of math rfl rfl hs⟩
end LW
open PySem PySem.W PyProof.Rows
set_option maxRecDepth 100000 in
set_option maxHeartbeats 0 in
theorem PySem.Challenge.cw_hingeworks_k00_ratios_holds : PySem.Challenge.rw_hingeworks_k00_ratios.Holds := by
  w_on; o_law; k_head; (case hw => w_witness2)
  k_fill
  refine DL.walkU (l := PySem.Challenge.rw_hingeworks_k00_ratios) (k := 8) (x := "_law_script") rfl rfl ⟨rfl, by decide, by decide⟩ (by first | rfl | decide +kernel) (fun w h Y => PySem.W.km_in_of Y) ?F
  case F =>
    intro w mg fa h KX G hmg
    refine' LW.all_mk (l := PySem.Challenge.rw_hingeworks_k00_ratios) KX G hmg ?aC0 ?a1 ?l1 ?c1 ?k1 ?a2 ?l2 ?c2 ?k2 ?a3 ?i3 ?l3 ?c3 ?k3 ?d3 ?a5 ?i5 ?l5 ?c5 ?k5 ?sf0 ?rf5 ?a6 ?i6 ?l6 ?c6 ?k6 ?rf6 ?a7 ?i7 ?l7 ?c7 ?k7 ?rf7 ?a8 ?i8 ?l8 ?c8 ?k8 ?a9 ?i9 ?l9 ?c9 ?k9 ?a10 ?i10 ?l10 ?c10 ?k10 ?a11 ?i11 ?l11 ?c11 ?k11 ?a12 ?i12 ?l12 ?c12 ?k12 ?a13 ?i13 ?l13 ?c13 ?k13 ?a14 ?l14 ?c14 ?k14 ?a15 ?l15 ?c15 ?k15 ?a16 ?l16 ?c16 ?k16 ?a17 ?l17 ?c17 ?k17 ?a18 ?l18 ?c18 ?k18 ?a19 ?l19 ?c19 ?k19 ?a20 ?l20 ?c20 ?k20 ?a21 ?l21 ?c21 ?k21 ?a22 ?l22 ?c22 ?k22 ?a23 ?l23 ?c23 ?k23 ?a24 ?l24 ?c24 ?k24 ?a25 ?l25 ?c25 ?k25 ?a26 ?l26 ?c26 ?k26 ?a27 ?l27 ?c27 ?k27 ?a28 ?l28 ?c28 ?cj28 ?cv28 ?ch28 ?cn28 ?k28 ?pg0 ?hd0 ?po0 ?mk0 ?ci0 ?sa0 ?kc0 ?ic0 ?ob0 ?ty0 ?b1_0 ?b2_0 ?b3_0 ?b4_0 ?b5_0 ?nf0_top ?nf0_bottom ?nf0_fixed ?nf0_slopes ?nf0_size ?nf0_is_number ?nf0_row ?nf0_rows ?nf0_free ?nf0_held ?nf0_lines ?nf0_plane_bottom ?g1 ?g2 ?z_abs ?z_bool ?z_int ?z_isinstance ?z_len ?z_list ?z_range ?opq ?zsup ?htop ?aE3 ?xc3 ?xt3 ?xb3 ?a29 ?i29 ?l29 ?c29 ?j29 ?v29 ?w29 ?y29 ?p29 ?r29 ?u29 ?e29 ?x29 ?hb29 ?s29 ?h29 ?ga3 ?gg3 ?xh3 ?of3_number ?of3_what ?xx3_3
    (case aC0 => k_is)
    (case a1 => k_is)
    (case l1 => k_is)
    (case c1 => k_is)
    (case k1 => k_is)
    (case a2 => k_is)
    (case l2 => k_is)
    (case c2 => k_is)
    (case k2 => k_is)
    (case a3 => k_is)
    (case i3 => k_is)
    (case l3 => k_is)
    (case c3 => k_is)
    (case k3 => k_is)
    (case d3 => k_is)
    (case a5 => k_is)
    (case i5 => k_is)
    (case l5 => k_is)
    (case c5 => k_is)
    (case k5 => k_is)
    (case sf0 => k_is)
    (case rf5 => k_is)
    (case a6 => k_is)
    (case i6 => k_is)
    (case l6 => k_is)
    (case c6 => k_is)
    (case k6 => k_is)
    (case rf6 => k_is)
    (case a7 => k_is)
    (case i7 => k_is)
    (case l7 => k_is)
    (case c7 => k_is)
    (case k7 => k_is)
    (case rf7 => k_is)
    (case a8 => k_is)
    (case i8 => k_is)
    (case l8 => k_is)
    (case c8 => k_is)
    (case k8 => k_is)
    (case a9 => k_is)
    (case i9 => k_is)
    (case l9 => k_is)
    (case c9 => k_is)
    (case k9 => k_is)
    (case a10 => k_is)
    (case i10 => k_is)
    (case l10 => k_is)
    (case c10 => k_is)
    (case k10 => k_is)
    (case a11 => k_is)
    (case i11 => k_is)
    (case l11 => k_is)
    (case c11 => k_is)
    (case k11 => k_is)
    (case a12 => k_is)
    (case i12 => k_is)
    (case l12 => k_is)
    (case c12 => k_is)
    (case k12 => k_is)
    (case a13 => k_is)
    (case i13 => k_is)
    (case l13 => k_is)
    (case c13 => k_is)
    (case k13 => k_is)
    (case a14 => k_is)
    (case l14 => k_is)
    (case c14 => k_is)
    (case k14 => k_is)
    (case a15 => k_is)
    (case l15 => k_is)
    (case c15 => k_is)
    (case k15 => k_is)
    (case a16 => k_is)
    (case l16 => k_is)
    (case c16 => k_is)
    (case k16 => k_is)
    (case a17 => k_is)
    (case l17 => k_is)
    (case c17 => k_is)
    (case k17 => k_is)
    (case a18 => k_is)
    (case l18 => k_is)
    (case c18 => k_is)
    (case k18 => k_is)
    (case a19 => k_is)
    (case l19 => k_is)
    (case c19 => k_is)
    (case k19 => k_is)
    (case a20 => k_is)
    (case l20 => k_is)
    (case c20 => k_is)
    (case k20 => k_is)
    (case a21 => k_is)
    (case l21 => k_is)
    (case c21 => k_is)
    (case k21 => k_is)
    (case a22 => k_is)
    (case l22 => k_is)
    (case c22 => k_is)
    (case k22 => k_is)
    (case a23 => k_is)
    (case l23 => k_is)
    (case c23 => k_is)
    (case k23 => k_is)
    (case a24 => k_is)
    (case l24 => k_is)
    (case c24 => k_is)
    (case k24 => k_is)
    (case a25 => k_is)
    (case l25 => k_is)
    (case c25 => k_is)
    (case k25 => k_is)
    (case a26 => k_is)
    (case l26 => k_is)
    (case c26 => k_is)
    (case k26 => k_is)
    (case a27 => k_is)
    (case l27 => k_is)
    (case c27 => k_is)
    (case k27 => k_is)
    (case a28 => k_is)
    (case l28 => k_is)
    (case c28 => k_is)
    (case cj28 => k_is)
    (case cv28 => rfl)
    (case ch28 => first | kernel_rfl | rfl | (simp only [PySem.W.codeHdIn]; rfl))
    (case cn28 => first | rfl | decide +kernel | k_is)
    (case k28 => k_is)
    (case pg0 => k_is)
    (case hd0 => k_is)
    (case po0 => k_is)
    (case mk0 => k_is)
    (case ci0 => k_is)
    (case sa0 => k_is)
    (case kc0 => k_is)
    (case ic0 => k_is)
    (case ob0 => k_is)
    (case ty0 => k_is)
    (case b1_0 => k_is)
    (case b2_0 => k_is)
    (case b3_0 => k_is)
    (case b4_0 => k_is)
    (case b5_0 => k_is)
    (case nf0_top => k_is)
    (case nf0_bottom => k_is)
    (case nf0_fixed => k_is)
    (case nf0_slopes => k_is)
    (case nf0_size => k_is)
    (case nf0_is_number => k_is)
    (case nf0_row => k_is)
    (case nf0_rows => k_is)
    (case nf0_free => k_is)
    (case nf0_held => k_is)
    (case nf0_lines => k_is)
    (case nf0_plane_bottom => k_is)
    (case g1 => k_is)
    (case g2 => k_is)
    (case z_abs => k_is)
    (case z_bool => k_is)
    (case z_int => k_is)
    (case z_isinstance => k_is)
    (case z_len => k_is)
    (case z_list => k_is)
    (case z_range => k_is)
    (case opq => k_is)
    (case zsup => k_is)
    (case htop => first | rfl | decide +kernel)
    (case aE3 => k_is)
    (case xc3 => k_is)
    (case xt3 => k_is)
    (case xb3 => k_is)
    (case a29 => k_is)
    (case i29 => k_is)
    (case l29 => k_is)
    (case c29 => k_is)
    (case j29 => k_is)
    (case v29 => rfl)
    (case w29 => first | rfl | decide +kernel)
    (case y29 => k_is)
    (case p29 => k_is)
    (case r29 => k_is)
    (case u29 => ks_is)
    (case e29 => k_is)
    (case x29 => k_is)
    (case hb29 => decide +kernel)
    (case s29 => k_is)
    (case h29 => k_is)
    (case ga3 => k_is)
    (case gg3 => k_is)
    (case xh3 => k_is)
    (case of3_number => k_is)
    (case of3_what => k_is)
    (case xx3_3 => k_is)
