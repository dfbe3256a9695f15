import PyProof.Rows.All
import Wide.All
import OpenK.AllK
import Wide.FinOn
import HandS.ForMost
import HandS.ForExc
import HandS.CallSlots
import HandS.Walk
import HandS.TupAny
import HandS.Deep
import HandS.IsInst
import HandS.Star
import HandS.Wide
import HandS.Zip
import HandS.Gcd
import KE.KMathGC
import HandS.TupMul
import PySem.Challenge.RW_weighortrade_k23_great_scales
set_option Elab.async false
set_option linter.all false
set_option maxRecDepth 100000
set_option maxHeartbeats 4000000
namespace DL
open PySem L2

/-! ## data -/
inductive D where
  | non | bl (b : Bool) | int (i : Int) | str (s : Str)
  | tup (l : List D) | lst (l : List D)
  /-- a list that is read alone (the script) -/
  | rol (l : List D)
  | dct (ks : List Key) (vs : List D)
  | ins (c : String) (ns : List Str) (vs : List D)

/-- the constants of the text: where a class stands -/
structure Cst where
  K : PySem.W.Frag
  CA : String → Addr

mutual
inductive IsD (C : Cst) (H : Hp) : V → D → Prop
  | non : IsD C H .non .non
  | bl (b : Bool) : IsD C H (.bl b) (.bl b)
  | int (i : Int) : IsD C H (.int i) (.int i)
  | str (s : Str) : IsD C H (.str s) (.str s)
  | tup {a : Addr} {xs : List V} {ds : List D} : SqT C.K H a xs → IsDs C H xs ds → IsD C H (.ref a) (.tup ds)
  | lst {a : Addr} {xs : List V} {ds : List D} : H a = some (.lst xs) → IsDs C H xs ds → IsD C H (.ref a) (.lst ds)
  | rol {a : Addr} {xs : List V} {ds : List D} : SqL C.K H a xs → IsDs C H xs ds → IsD C H (.ref a) (.rol ds)
  | dct {a : Addr} {kvs : List (Key × V)} {ks : List Key} {vs : List D} : Rd H a (.dK kvs) → kvs.map Prod.fst = ks → IsDs C H (kvs.map Prod.snd) vs → IsD C H (.ref a) (.dct ks vs)
  | ins {a dx : Addr} {c : String} {fs : List (Str × V)} {ns : List Str} {vs : List D} : H a = some (.ins (C.CA c) dx fs) → fs.map Prod.fst = ns → IsDs C H (fs.map Prod.snd) vs → IsD C H (.ref a) (.ins c ns vs)
inductive IsDs (C : Cst) (H : Hp) : List V → List D → Prop
  | nil : IsDs C H [] []
  | cons {v : V} {vs : List V} {d : D} {ds : List D} : IsD C H v d → IsDs C H vs ds → IsDs C H (v :: vs) (d :: ds)
end

/-- G is part of H -/
def Ge (G H : Hp) : Prop := ∀ a o, G a = some o → H a = some o
theorem Ge.refl (G : Hp) : Ge G G := fun _ _ h => h
theorem Ge.trans {G H I : Hp} (a : Ge G H) (b : Ge H I) : Ge G I := fun x o h => b x o (a x o h)
theorem Ge.upd {G : Hp} {p : Addr} {o : HO} (h : G p = none) : Ge G (upd G p o) := fun a u e => by
  rw [upd_ne (ne_of_none e h)]; exact e
theorem Ge.rd {G H : Hp} {a : Addr} {u : HO} (g : Ge G H) (h : Rd G a u) : Rd H a u := by
  rcases h with h | ⟨o, h⟩
  · exact .inl (g _ _ h)
  · exact .inr ⟨o, g _ _ h⟩
theorem Ge.sqL {K : PySem.W.Frag} {G H : Hp} {a : Addr} {xs : List V} (g : Ge G H) (h : SqL K G a xs) : SqL K H a xs := by
  rcases h with h | h
  · exact .inl (g.rd h)
  · exact .inr h
theorem Ge.sqT {K : PySem.W.Frag} {G H : Hp} {a : Addr} {xs : List V} (g : Ge G H) (h : SqT K G a xs) : SqT K H a xs := by
  rcases h with h | h
  · exact .inl (g.rd h)
  · exact .inr h

mutual
theorem IsD.mono {C : Cst} {G H : Hp} (g : Ge G H) : ∀ {v : V} (d : D), IsD C G v d → IsD C H v d
  | _, .non, .non => .non
  | _, .bl _, .bl b => .bl b
  | _, .int _, .int b => .int b
  | _, .str _, .str b => .str b
  | _, .tup ds, .tup h hs => .tup (g.sqT h) (IsDs.mono g ds hs)
  | _, .lst ds, .lst h hs => .lst (g _ _ h) (IsDs.mono g ds hs)
  | _, .rol ds, .rol h hs => .rol (g.sqL h) (IsDs.mono g ds hs)
  | _, .dct _ vs, .dct h e hs => .dct (g.rd h) e (IsDs.mono g vs hs)
  | _, .ins _ _ vs, .ins h e hs => .ins (g _ _ h) e (IsDs.mono g vs hs)
theorem IsDs.mono {C : Cst} {G H : Hp} (g : Ge G H) : ∀ {vs : List V} (ds : List D), IsDs C G vs ds → IsDs C H vs ds
  | _, [], .nil => .nil
  | _, d :: ds, .cons h hs => .cons (IsD.mono g d h) (IsDs.mono g ds hs)
end
theorem IsD.ge {C : Cst} {G H : Hp} {v : V} {d : D} (h : IsD C G v d) (g : Ge G H) : IsD C H v d := IsD.mono g d h
theorem IsDs.ge {C : Cst} {G H : Hp} {vs : List V} {ds : List D} (h : IsDs C G vs ds) (g : Ge G H) : IsDs C H vs ds := IsDs.mono g ds h
theorem IsDs.length {C : Cst} {G : Hp} : ∀ {vs : List V} {ds : List D}, IsDs C G vs ds → vs.length = ds.length
  | _, _, .nil => rfl
  | _, _, .cons _ h => by rw [List.length_cons, List.length_cons, h.length]
theorem IsDs.append {C : Cst} {G : Hp} : ∀ {vs ws : List V} {ds es : List D}, IsDs C G vs ds → IsDs C G ws es → IsDs C G (vs ++ ws) (ds ++ es)
  | _, _, _, _, .nil, k => k
  | _, _, _, _, .cons a h, k => .cons a (h.append k)
theorem IsDs.get {C : Cst} {G : Hp} : ∀ {vs : List V} {ds : List D} {i : Nat} {d : D}, IsDs C G vs ds → ds[i]? = some d → ∃ v, vs[i]? = some v ∧ IsD C G v d
  | _, _, _, _, .nil, e => by simp at e
  | _, _, 0, _, .cons a _, e => by simp at e; subst e; exact ⟨_, rfl, a⟩
  | _, _, i + 1, _, .cons _ h, e => by
    obtain ⟨v, h1, h2⟩ := h.get (i := i) (by simpa using e)
    exact ⟨v, by simpa using h1, h2⟩
theorem IsDs.getV {C : Cst} {G : Hp} : ∀ {vs : List V} {ds : List D} {i : Nat} {v : V}, IsDs C G vs ds → vs[i]? = some v → ∃ d, ds[i]? = some d ∧ IsD C G v d
  | _, _, _, _, .nil, e => by simp at e
  | _, _, 0, _, .cons a _, e => by simp at e; subst e; exact ⟨_, rfl, a⟩
  | _, _, i + 1, _, .cons _ h, e => by
    obtain ⟨v, h1, h2⟩ := h.getV (i := i) (by simpa using e)
    exact ⟨v, by simpa using h1, h2⟩
theorem IsDs.set {C : Cst} {G : Hp} {v : V} {d : D} (r : IsD C G v d) : ∀ {vs : List V} {ds : List D} (i : Nat), IsDs C G vs ds → IsDs C G (vs.set i v) (ds.set i d)
  | _, _, _, .nil => .nil
  | _, _, 0, .cons _ h => .cons r h
  | _, _, i + 1, .cons a h => .cons a (IsDs.set r i h)
theorem IsDs.take {C : Cst} {G : Hp} : ∀ {vs : List V} {ds : List D} (n : Nat), IsDs C G vs ds → IsDs C G (vs.take n) (ds.take n)
  | _, _, 0, _ => .nil
  | _, _, _ + 1, .nil => .nil
  | _, _, n + 1, .cons a h => .cons a (h.take n)
theorem IsDs.drop {C : Cst} {G : Hp} : ∀ {vs : List V} {ds : List D} (n : Nat), IsDs C G vs ds → IsDs C G (vs.drop n) (ds.drop n)
  | _, _, 0, h => h
  | _, _, _ + 1, .nil => .nil
  | _, _, n + 1, .cons _ h => h.drop n

/-- the object at a, as it stands in H, its parts frozen in G -/
def Own (C : Cst) (H G : Hp) (a : Addr) : D → Prop
  | .lst ds => ∃ xs, H a = some (.lst xs) ∧ IsDs C G xs ds
  | .dct ks vs => ∃ kvs : List (Key × V), H a = some (.dK kvs) ∧ kvs.map Prod.fst = ks ∧ IsDs C G (kvs.map Prod.snd) vs
  | .ins c ns vs => ∃ dx fs, H a = some (.ins (C.CA c) dx fs) ∧ fs.map Prod.fst = ns ∧ IsDs C G (fs.map Prod.snd) vs
  | _ => False
theorem Own.there {C : Cst} {H G : Hp} {a : Addr} {d : D} (h : Own C H G a d) : ∃ o, H a = some o := by
  cases d <;> first | exact h.elim | (obtain ⟨_, h, _⟩ := h; exact ⟨_, h⟩) | (obtain ⟨_, _, h, _⟩ := h; exact ⟨_, h⟩)
theorem Own.move {C : Cst} {H G H' G' : Hp} {a : Addr} {d : D} (h : Own C H G a d) (e : ∀ o, H a = some o → H' a = some o) (g : Ge G G') : Own C H' G' a d := by
  cases d <;> first
    | exact h.elim
    | (obtain ⟨xs, h1, h2⟩ := h; exact ⟨xs, e _ h1, h2.ge g⟩)
    | (obtain ⟨xs, h1, h0, h2⟩ := h; exact ⟨xs, e _ h1, h0, h2.ge g⟩)
    | (obtain ⟨xs, ys, h1, h0, h2⟩ := h; exact ⟨xs, ys, e _ h1, h0, h2.ge g⟩)
/-- an owned object that is frozen -/
theorem Own.isD {C : Cst} {H G G' : Hp} {a : Addr} {d : D} (h : Own C H G a d) (e : ∀ o, H a = some o → G' a = some o) (g : Ge G G') : IsD C G' (.ref a) d := by
  cases d <;> first
    | exact h.elim
    | (obtain ⟨xs, h1, h2⟩ := h; exact .lst (e _ h1) (h2.ge g))
    | (obtain ⟨xs, h1, h0, h2⟩ := h; exact .dct (.inl (e _ h1)) h0 (h2.ge g))
    | (obtain ⟨xs, ys, h1, h0, h2⟩ := h; exact .ins (e _ h1) h0 (h2.ge g))

/-- the same, perhaps locked -/
def OwnR (C : Cst) (H G : Hp) (a : Addr) : D → Prop
  | .dct ks vs => ∃ kvs : List (Key × V), Rd H a (.dK kvs) ∧ kvs.map Prod.fst = ks ∧ IsDs C G (kvs.map Prod.snd) vs
  | d => Own C H G a d
theorem Own.r {C : Cst} {H G : Hp} {a : Addr} {d : D} (h : Own C H G a d) : OwnR C H G a d := by
  cases d <;> first | exact h | (obtain ⟨k, h1, h2⟩ := h; exact ⟨k, .inl h1, h2⟩)
theorem OwnR.move {C : Cst} {H G H' G' : Hp} {a : Addr} {d : D} (h : OwnR C H G a d) (e : ∀ o, H a = some o → H' a = some o) (g : Ge G G') : OwnR C H' G' a d := by
  cases d <;> first
    | exact h.elim
    | (obtain ⟨xs, h1, h0, h2⟩ := h; exact ⟨xs, h1.imp (e _) fun ⟨o, q⟩ => ⟨o, e _ q⟩, h0, h2.ge g⟩)
    | exact Own.move (d := .lst _) h e g
    | exact Own.move (d := .ins _ _ _) h e g
theorem OwnR.isD {C : Cst} {H G G' : Hp} {a : Addr} {d : D} (h : OwnR C H G a d) (e : ∀ o, H a = some o → G' a = some o) (g : Ge G G') : IsD C G' (.ref a) d := by
  cases d <;> first
    | exact h.elim
    | (obtain ⟨xs, h1, h0, h2⟩ := h; exact .dct (h1.imp (e _) fun ⟨o, q⟩ => ⟨o, e _ q⟩) h0 (h2.ge g))
    | exact Own.isD (d := .lst _) h e g
    | exact Own.isD (d := .ins _ _ _) h e g

/-! ## slots, results -/
inductive SV where
  | un
  /-- a value -/
  | dat (d : D)
  /-- an object that this slot alone holds -/
  | own (d : D)
  /-- an object that stands still while this block runs -/
  | brw (d : D)
abbrev Env := List SV
def Env.at (ρ : Env) (i : Nat) : SV := (ρ[i]?).getD .un
def SV.isOwn : SV → Bool
  | .own _ => true
  | _ => false
/-- an expression's value: frozen; new, held by nobody; what the slot i holds -/
inductive XV where
  | dat (d : D) | own (d : D) | slot (i : Nat)
inductive R (α : Type) where
  | ok (a : α) (ρ : Env)
  | exc (c : String) (ns : List Str) (vs : List D) (ρ : Env)
  | stuck
def R.bind {α β : Type} (r : R α) (g : α → Env → R β) : R β := match r with
  | .ok a ρ => g a ρ
  | .exc c ns vs ρ => .exc c ns vs ρ
  | .stuck => .stuck
/-- what a block leaves untouched (Z); what must not be frozen (N); what slots may borrow (B); slots that keep their address -/
structure Fm where
  Z : Hp
  N : Addr → Prop
  B : Nat → Addr → Prop
  pin : List (Nat × Addr)

def SlotOk (C : Cst) (W : Fm) (H G : Hp) (i : Nat) (o : Option (Option V)) : SV → Prop
  | .un => True
  | .dat d => ∃ v, o = some (some v) ∧ IsD C G v d
  | .own d => ∃ a, o = some (some (.ref a)) ∧ Own C H G a d ∧ G a = none ∧ W.Z a = none ∧ ¬ W.N a
  | .brw d => ∃ a, o = some (some (.ref a)) ∧ OwnR C W.Z G a d ∧ W.B i a
structure Rel (C : Cst) (W : Fm) (σ : St) (ρ : Env) (H G : Hp) : Prop where
  gh : Ge G H
  zh : Ge W.Z H
  nn : ∀ a, W.N a → G a = none ∧ ∃ o, H a = some o
  bz : ∀ i a, W.B i a → ∃ o, W.Z a = some o
  pn : ∀ p ∈ W.pin, σ[p.1]? = some (some (.ref p.2))
  ln : σ.length = ρ.length
  at_ : ∀ i, SlotOk C W H G i (σ[i]?) (ρ.at i)
  ne : ∀ i j a, i ≠ j → (ρ.at i).isOwn = true → (ρ.at j).isOwn = true → σ[i]? = some (some (.ref a)) → σ[j]? = some (some (.ref a)) → False
def PinOk (W : Fm) (P : List Nat) : Prop := ∀ p ∈ W.pin, p.1 ∈ P

def VOk (C : Cst) (W : Fm) (σ : St) (ρ : Env) (H G : Hp) (v : V) : XV → Prop
  | .dat d => IsD C G v d
  | .own d => ∃ a, v = .ref a ∧ Own C H G a d ∧ G a = none ∧ W.Z a = none ∧ ¬ W.N a ∧ ∀ i, (ρ.at i).isOwn = true → σ[i]? ≠ some (some v)
  | .slot i => σ[i]? = some (some v) ∧ ((∃ d, ρ.at i = .own d) ∨ ∃ d, ρ.at i = .brw d)

theorem Env.at_set {ρ : Env} {i j : Nat} {s : SV} (h : i < ρ.length) : Env.at (ρ.set i s) j = if j = i then s else Env.at ρ j := by
  unfold Env.at
  by_cases e : j = i
  · subst e; simp [h]
  · rw [if_neg e, List.getElem?_set_ne (Ne.symm e)]
theorem Env.at_set_ne {ρ : Env} {i j : Nat} {s : SV} (h : j ≠ i) : Env.at (ρ.set i s) j = Env.at ρ j := by
  unfold Env.at
  rw [List.getElem?_set_ne (Ne.symm h)]
theorem Env.at_out {ρ : Env} {i : Nat} (h : ρ.length ≤ i) : Env.at ρ i = .un := by
  unfold Env.at
  rw [List.getElem?_eq_none h]; rfl

section
variable {C : Cst} {W : Fm} {σ : St} {ρ : Env} {H G H' G' : Hp}
theorem SlotOk.move {i : Nat} {o : Option (Option V)} {s : SV} (h : SlotOk C W H G i o s) (e : ∀ a u, W.Z a = none → H a = some u → H' a = some u) (g : Ge G G') (n : ∀ a, G a = none → (∃ o, H a = some o) → G' a = none) : SlotOk C W H' G' i o s := by
  cases s with
  | un => trivial
  | dat d => obtain ⟨v, h1, h2⟩ := h; exact ⟨v, h1, h2.ge g⟩
  | own d => obtain ⟨a, h1, h2, h3, h4, h5⟩ := h; exact ⟨a, h1, h2.move (fun o q => e a o h4 q) g, n a h3 h2.there, h4, h5⟩
  | brw d => obtain ⟨a, h1, h2, h3⟩ := h; exact ⟨a, h1, h2.move (fun _ q => q) g, h3⟩
/-- the heap grows, some new things are frozen -/
theorem Rel.grow (r : Rel C W σ ρ H G) (e : Ge H H') (g : Ge G G') (gh : Ge G' H') (n : ∀ a, G a = none → (∃ o, H a = some o) → G' a = none) : Rel C W σ ρ H' G' :=
  ⟨gh, r.zh.trans e, fun a q => ⟨n a (r.nn a q).1 (r.nn a q).2, by obtain ⟨o, h⟩ := (r.nn a q).2; exact ⟨o, e _ _ h⟩⟩, r.bz, r.pn, r.ln, fun i => (r.at_ i).move (fun a u _ q => e a u q) g n, r.ne⟩
theorem Rel.gNone (r : Rel C W σ ρ H G) {p : Addr} (h : H p = none) : G p = none := by
  cases e : G p with
  | none => rfl
  | some o => have := r.gh _ _ e; rw [h] at this; cases this
/-- a new object, frozen -/
theorem Rel.frz (r : Rel C W σ ρ H G) {p : Addr} {o : HO} (h : H p = none) : Rel C W σ ρ (upd H p o) (upd G p o) := by
  refine r.grow (Ge.upd h) (Ge.upd (r.gNone h)) (fun a u e => ?_) fun a q hq => ?_
  · by_cases z : a = p
    · subst z; rw [upd_same] at e ⊢; exact e
    · rw [upd_ne z] at e ⊢; exact r.gh _ _ e
  · obtain ⟨u, hu⟩ := hq
    rw [upd_ne (ne_of_none hu h)]; exact q
/-- a new object, not frozen -/
theorem Rel.new (r : Rel C W σ ρ H G) {p : Addr} {o : HO} (h : H p = none) : Rel C W σ ρ (upd H p o) G :=
  r.grow (Ge.upd h) (Ge.refl _) (r.gh.trans (Ge.upd h)) fun _ q _ => q
theorem Rel.newV (r : Rel C W σ ρ H G) {p : Addr} {o : HO} (h : H p = none) {d : D} (ow : Own C (upd H p o) G p d) : VOk C W σ ρ (upd H p o) G (.ref p) (.own d) := by
  refine ⟨p, rfl, ow, r.gNone h, ?_, fun q => ?_, fun i hi e => ?_⟩
  · cases z : W.Z p with
    | none => rfl
    | some u => have := r.zh _ _ z; rw [h] at this; cases this
  · obtain ⟨u, hu⟩ := (r.nn p q).2; rw [h] at hu; cases hu
  · have := r.at_ i
    cases s : ρ.at i with
    | own d' =>
      rw [s] at this
      obtain ⟨a, h1, h2, _⟩ := this
      rw [e] at h1; cases h1
      obtain ⟨u, hu⟩ := h2.there; rw [h] at hu; cases hu
    | _ => rw [s] at hi; cases hi
/-- what a value is, read now -/
def cont (ρ : Env) : XV → Option D
  | .dat d => some d
  | .own d => some d
  | .slot i => match ρ.at i with
    | .own d => some d
    | .brw d => some d
    | _ => none
/-- readable: frozen, or an object that stands in H with frozen parts -/
def Top (C : Cst) (H G : Hp) (v : V) (d : D) : Prop := IsD C G v d ∨ ∃ a, v = .ref a ∧ OwnR C H G a d
theorem Top.isD {v : V} {d : D} (t : Top C H G v d) (g : Ge G H) : IsD C H v d := by
  rcases t with t | ⟨a, rfl, t⟩
  · exact t.ge g
  · exact t.isD (fun _ q => q) g
theorem VOk.top (r : Rel C W σ ρ H G) {v : V} {x : XV} {d : D} (h : VOk C W σ ρ H G v x) (e : cont ρ x = some d) : Top C H G v d := by
  cases x with
  | dat d' => cases e; exact .inl h
  | own d' => cases e; obtain ⟨a, rfl, h, _⟩ := h; exact .inr ⟨a, rfl, h.r⟩
  | slot i =>
    obtain ⟨h1, h2⟩ := h
    have q := r.at_ i
    unfold cont at e
    dsimp only at e
    rcases h2 with ⟨d', h2⟩ | ⟨d', h2⟩ <;> rw [h2] at q e <;> cases e
    · obtain ⟨a, h3, h4, _⟩ := q
      rw [h1] at h3; cases h3
      exact .inr ⟨a, rfl, h4.r⟩
    · obtain ⟨a, h3, h4, _⟩ := q
      rw [h1] at h3; cases h3
      exact .inr ⟨a, rfl, h4.move (fun o q => r.zh _ _ q) (Ge.refl _)⟩
/-- a value that may wait: frozen, or a slot's -/
def XV.still : XV → Bool
  | .own _ => false
  | _ => true
theorem VOk.wait {v : V} {x : XV} (s : x.still = true) (h : VOk C W σ ρ H G v x) (g : Ge G G') {ρ' : Env} (hs : ∀ i, x = .slot i → (∃ d, ρ'.at i = .own d) ∨ ∃ d, ρ'.at i = .brw d) : VOk C W σ ρ' H' G' v x := by
  cases x with
  | dat d => exact IsD.ge h g
  | own d => cases s
  | slot i => exact ⟨h.1, hs i rfl⟩
theorem Own.ndat {a : Addr} {d : D} (h : Own C H G a d) : ∃ o, H a = some o := h.there
/-- freezing an object that nobody holds -/
theorem Rel.freeze (r : Rel C W σ ρ H G) {a : Addr} {o : HO} (h : H a = some o) (hg : G a = none) (hn : ¬ W.N a) (hs : ∀ i, (ρ.at i).isOwn = true → σ[i]? ≠ some (some (.ref a))) : Rel C W σ ρ H (upd G a o) := by
  have g : Ge G (upd G a o) := Ge.upd hg
  refine ⟨fun b u e => ?_, r.zh, fun b q => ⟨?_, (r.nn b q).2⟩, r.bz, r.pn, r.ln, fun i => ?_, r.ne⟩
  · by_cases z : b = a
    · subst z; rw [upd_same] at e; cases e; exact h
    · rw [upd_ne z] at e; exact r.gh _ _ e
  · have z : b ≠ a := fun z => hn (z ▸ q)
    rw [upd_ne z]; exact (r.nn b q).1
  · have q := r.at_ i
    cases s : ρ.at i with
    | un => trivial
    | dat d => rw [s] at q; obtain ⟨v, h1, h2⟩ := q; exact ⟨v, h1, h2.ge g⟩
    | own d =>
      rw [s] at q
      obtain ⟨b, h1, h2, h3, h4, h5⟩ := q
      have z : b ≠ a := fun z => hs i (by rw [s]; rfl) (z ▸ h1)
      exact ⟨b, h1, h2.move (fun _ q => q) g, by rw [upd_ne z]; exact h3, h4, h5⟩
    | brw d => rw [s] at q; obtain ⟨b, h1, h2, h3⟩ := q; exact ⟨b, h1, h2.move (fun _ q => q) g, h3⟩
/-- a new value frozen -/
theorem Rel.frzV (r : Rel C W σ ρ H G) {v : V} {d : D} (h : VOk C W σ ρ H G v (.own d)) : ∃ G', Ge G G' ∧ Rel C W σ ρ H G' ∧ IsD C G' v d := by
  obtain ⟨a, rfl, h1, h2, h3, h4, h5⟩ := h
  obtain ⟨o, ho⟩ := h1.there
  exact ⟨upd G a o, Ge.upd h2, r.freeze ho h2 h4 h5, h1.isD (fun u q => by rw [ho] at q; cases q; exact upd_same) (Ge.upd h2)⟩
/-- a slot's content frozen: the slot holds a plain value from now on -/
theorem Rel.slotSet (r : Rel C W σ ρ H G) {i : Nat} {s : SV} (hi : i < ρ.length) (ok : SlotOk C W H G i (σ[i]?) s) (ho : s.isOwn = true → (ρ.at i).isOwn = true) : Rel C W σ (ρ.set i s) H G := by
  refine ⟨r.gh, r.zh, r.nn, r.bz, r.pn, by rw [List.length_set]; exact r.ln, fun j => ?_, fun j k a jk h1 h2 e1 e2 => ?_⟩
  · rw [Env.at_set hi]
    split
    · rename_i e; subst e; exact ok
    · exact r.at_ j
  · rw [Env.at_set hi] at h1 h2
    refine r.ne j k a jk ?_ ?_ e1 e2
    · split at h1
      · rename_i e; subst e; exact ho h1
      · exact h1
    · split at h2
      · rename_i e; subst e; exact ho h2
      · exact h2
theorem Rel.un (r : Rel C W σ ρ H G) (i : Nat) : Rel C W σ (ρ.set i .un) H G := by
  by_cases h : i < ρ.length
  · exact r.slotSet h trivial fun h => by cases h
  · rw [List.set_eq_of_length_le (by omega)]; exact r
theorem own_lt {ρ : Env} {i : Nat} (h : ρ.at i ≠ .un) : i < ρ.length := by
  by_cases q : i < ρ.length
  · exact q
  · exact absurd (Env.at_out (by omega)) h
theorem Rel.frzSlot (r : Rel C W σ ρ H G) {i : Nat} {d : D} (h : ρ.at i = .own d) : ∃ v G', σ[i]? = some (some v) ∧ Ge G G' ∧ Rel C W σ (ρ.set i (.dat d)) H G' ∧ IsD C G' v d := by
  have q := r.at_ i
  rw [h] at q
  obtain ⟨a, h1, h2, h3, h4, h5⟩ := q
  obtain ⟨o, ho⟩ := h2.there
  have hl : i < ρ.length := own_lt (by rw [h]; intro z; cases z)
  have r1 := r.un i
  have r2 : Rel C W σ (ρ.set i .un) H (upd G a o) := r1.freeze ho h3 h5 fun j hj e => by
    by_cases z : j = i
    · subst z; rw [Env.at_set hl, if_pos rfl] at hj; cases hj
    · rw [Env.at_set_ne z] at hj
      exact r.ne j i a z hj (by rw [h]; rfl) e h1
  have hd : IsD C (upd G a o) (.ref a) d := h2.isD (fun u q => by rw [ho] at q; cases q; exact upd_same) (Ge.upd h3)
  refine ⟨.ref a, upd G a o, h1, Ge.upd h3, ?_, hd⟩
  have := r2.slotSet (i := i) (s := .dat d) (by rw [List.length_set]; exact hl) ⟨_, h1, hd⟩ fun h => by cases h
  rwa [List.set_set] at this
/-- a name is stored -/
theorem Rel.setDat (r : Rel C W σ ρ H G) {i : Nat} {v : V} {d : D} (h : IsD C G v d) (hp : ∀ p ∈ W.pin, p.1 ≠ i) (hi : i < ρ.length) : Rel C W (σ.set i (some v)) (ρ.set i (.dat d)) H G := by
  have hs : i < σ.length := by rw [r.ln]; exact hi
  refine ⟨r.gh, r.zh, r.nn, r.bz, fun p q => ?_, by rw [List.length_set, List.length_set]; exact r.ln, fun j => ?_, fun j k a jk h1 h2 e1 e2 => ?_⟩
  · rw [List.getElem?_set_ne (Ne.symm (hp p q))]; exact r.pn p q
  · rw [Env.at_set hi]
    by_cases e : j = i
    · subst e; rw [if_pos rfl]; exact ⟨v, by simp [hs], h⟩
    · rw [if_neg e, List.getElem?_set_ne (Ne.symm e)]; exact r.at_ j
  · rw [Env.at_set hi] at h1 h2
    by_cases z : j = i
    · rw [if_pos z] at h1; cases h1
    · by_cases z' : k = i
      · rw [if_pos z'] at h2; cases h2
      · rw [if_neg z] at h1; rw [if_neg z'] at h2
        rw [List.getElem?_set_ne (Ne.symm z)] at e1
        rw [List.getElem?_set_ne (Ne.symm z')] at e2
        exact r.ne j k a jk h1 h2 e1 e2
theorem Rel.setOwn (r : Rel C W σ ρ H G) {i : Nat} {v : V} {d : D} (h : VOk C W σ ρ H G v (.own d)) (hp : ∀ p ∈ W.pin, p.1 ≠ i) (hi : i < ρ.length) : Rel C W (σ.set i (some v)) (ρ.set i (.own d)) H G := by
  have hs : i < σ.length := by rw [r.ln]; exact hi
  obtain ⟨a, rfl, g1, g2, g3, g4, g5⟩ := h
  refine ⟨r.gh, r.zh, r.nn, r.bz, fun p q => ?_, by rw [List.length_set, List.length_set]; exact r.ln, fun j => ?_, fun j k b jk h1 h2 e1 e2 => ?_⟩
  · rw [List.getElem?_set_ne (Ne.symm (hp p q))]; exact r.pn p q
  · rw [Env.at_set hi]
    by_cases e : j = i
    · subst e; rw [if_pos rfl]; exact ⟨a, by simp [hs], g1, g2, g3, g4⟩
    · rw [if_neg e, List.getElem?_set_ne (Ne.symm e)]; exact r.at_ j
  · rw [Env.at_set hi] at h1 h2
    by_cases z : j = i
    · subst z
      have z' : k ≠ j := Ne.symm jk
      rw [if_neg z'] at h2
      rw [List.getElem?_set_ne jk] at e2
      have : b = a := by simp [hs] at e1; exact e1.symm
      subst this
      exact g5 k h2 e2
    · by_cases z' : k = i
      · subst z'
        rw [if_neg z] at h1
        rw [List.getElem?_set_ne (Ne.symm z)] at e1
        have : b = a := by simp [hs] at e2; exact e2.symm
        subst this
        exact g5 j h1 e1
      · rw [if_neg z] at h1; rw [if_neg z'] at h2
        rw [List.getElem?_set_ne (Ne.symm z)] at e1
        rw [List.getElem?_set_ne (Ne.symm z')] at e2
        exact r.ne j k b jk h1 h2 e1 e2
/-- an owned object is written -/
theorem Rel.write (r : Rel C W σ ρ H G) {i : Nat} {a : Addr} {d d' : D} {o : HO} (h : ρ.at i = .own d) (hs : σ[i]? = some (some (.ref a))) (ow : Own C (upd H a o) G a d') : Rel C W σ (ρ.set i (.own d')) (upd H a o) G := by
  have q := r.at_ i
  rw [h] at q
  obtain ⟨b, h1, h2, h3, h4, h5⟩ := q
  rw [hs] at h1; cases h1
  have hl : i < ρ.length := own_lt (by rw [h]; intro z; cases z)
  have keep : ∀ b u, b ≠ a → H b = some u → upd H a o b = some u := fun b u z e => by rw [upd_ne z]; exact e
  refine ⟨fun b u e => keep b u (ne_of_none e h3) (r.gh _ _ e), fun b u e => keep b u (ne_of_none e h4) (r.zh _ _ e), fun b q => ⟨(r.nn b q).1, ?_⟩, r.bz, r.pn, by rw [List.length_set]; exact r.ln, fun j => ?_, fun j k b jk h1 h2 e1 e2 => ?_⟩
  · obtain ⟨u, hu⟩ := (r.nn b q).2
    exact ⟨u, keep b u (fun z => h5 (z ▸ q)) hu⟩
  · rw [Env.at_set hl]
    by_cases e : j = i
    · subst e; rw [if_pos rfl]; exact ⟨a, hs, ow, h3, h4, h5⟩
    · rw [if_neg e]
      have q := r.at_ j
      cases s : ρ.at j with
      | un => trivial
      | dat d => rw [s] at q; exact q
      | own d'' =>
        rw [s] at q
        obtain ⟨b, g1, g2, g3, g4, g5⟩ := q
        have z : b ≠ a := fun z => r.ne j i a e (by rw [s]; rfl) (by rw [h]; rfl) (z ▸ g1) hs
        exact ⟨b, g1, g2.move (fun u q => keep b u z q) (Ge.refl _), g3, g4, g5⟩
      | brw d'' => rw [s] at q; exact q
  · rw [Env.at_set hl] at h1 h2
    refine r.ne j k b jk ?_ ?_ e1 e2
    · split at h1
      · rename_i e; subst e; rw [h]; rfl
      · exact h1
    · split at h2
      · rename_i e; subst e; rw [h]; rfl
      · exact h2
end
end DL
namespace DL
open PySem L2

/-! ## judgements -/
structure Jd where
  C : Cst
  k : Nat
  EW : WX
  P : List Nat
structure Good (J : Jd) (X : Cx) : Prop where
  hK : X.K = J.C.K
  calm : X.calm = true
  nd : X.N.Nodup
  hr : Room J.k X.A
  tk : Takes X J.EW
  po : PassesOwn (model X.prog X.w) X.A X.env X.xe
def ExcAt (C : Cst) (H G : Hp) (d : Option Addr) (ns : List Str) (vs : List D) : Prop :=
  ∃ dx fs, d = some dx ∧ H dx = some (.xd fs) ∧ fs.map Prod.fst = ns ∧ IsDs C G (fs.map Prod.snd) vs
def Got (J : Jd) (W : Fm) (σ : St) (G : Hp) {α : Type} (r : R α) (k : α → Env → Hp → Hp → Prop) : Prop := match r with
  | .ok a ρ => ∀ H' G', Ge G G' → Rel J.C W σ ρ H' G' → k a ρ H' G'
  | .exc c ns vs ρ => ∀ d H' G', Ge G G' → Rel J.C W σ ρ H' G' → ExcAt J.C H' G' d ns vs → J.EW (.ref (J.C.CA c)) d σ H'
  | .stuck => False
/-- a value that waits: frozen, or a slot's -/
def Wait (C : Cst) (σ : St) (G : Hp) (v : V) : XV → Prop
  | .dat d => IsD C G v d
  | .slot i => σ[i]? = some (some v)
  | .own _ => False
def Waits (C : Cst) (σ : St) (G : Hp) : List V → List XV → Prop
  | [], [] => True
  | v :: vs, x :: xs => Wait C σ G v x ∧ Waits C σ G vs xs
  | _, _ => False
def EvE (J : Jd) (te : TE) (f : Env → R XV) : Prop := ∀ W σ ρ H G Q, PinOk W J.P → Rel J.C W σ ρ H G →
  Got J W σ G (f ρ) (fun x ρ' H' G' => ∀ v, VOk J.C W σ ρ' H' G' v x → Q v H') → te σ H Q
def EvO (J : Jd) (te : TE) (f : Env → R XV) : Prop := ∀ W σ ρ H G Q, PinOk W J.P → Rel J.C W σ ρ H G →
  Got J W σ G (f ρ) (fun x ρ' H' G' => ∀ v, Wait J.C σ G' v x → Q v H') → te σ H Q
def EvT (J : Jd) (tt : TT) (f : Env → R Bool) : Prop := ∀ W σ ρ H G Q, PinOk W J.P → Rel J.C W σ ρ H G →
  Got J W σ G (f ρ) (fun b _ H' _ => Q b H') → tt σ H Q
def EvA (J : Jd) (ta : TA) (f : Env → R (List XV)) : Prop := ∀ W σ ρ H G Q, PinOk W J.P → Rel J.C W σ ρ H G →
  Got J W σ G (f ρ) (fun xs _ H' G' => ∀ vs, Waits J.C σ G' vs xs → Q vs H') → ta σ H Q
section
variable {ι : Type}
def CE (J : Jd) (Xs : ι → Cx) (e : Expr) (f : Env → R XV) : Prop := ∃ te, (∀ i, Good J (Xs i) → PE (Xs i) e te) ∧ EvE J te f
def CO (J : Jd) (Xs : ι → Cx) (e : Expr) (f : Env → R XV) : Prop := ∃ te, (∀ i, Good J (Xs i) → PE (Xs i) e te) ∧ EvO J te f
def CT (J : Jd) (Xs : ι → Cx) (e : Expr) (f : Env → R Bool) : Prop := ∃ te, (∀ i, Good J (Xs i) → PT (Xs i) e te) ∧ EvT J te f
def CW (J : Jd) (Xs : ι → Cx) (e : Expr) (f : Env → R Bool) : Prop := ∃ te, (∀ i, Good J (Xs i) → PW (Xs i) e te) ∧ EvT J te f
def CA_ (J : Jd) (Xs : ι → Cx) (es : List Expr) (f : Env → R (List XV)) : Prop := ∃ te, (∀ i, Good J (Xs i) → PA (Xs i) es te) ∧ EvA J te f
end

section
variable {J : Jd} {W : Fm} {σ : St} {ρ : Env} {H G G' : Hp}
theorem Got.imp {α : Type} {r : R α} {k k' : α → Env → Hp → Hp → Prop} (g : Got J W σ G r k) (h : ∀ a ρ H' G', Ge G G' → Rel J.C W σ ρ H' G' → k a ρ H' G' → k' a ρ H' G') : Got J W σ G r k' := by
  cases r with
  | ok a ρ => exact fun H' G' e r => h a ρ H' G' e r (g H' G' e r)
  | exc c ns vs ρ => exact g
  | stuck => exact g
theorem Got.later {α : Type} {r : R α} {k : α → Env → Hp → Hp → Prop} (g : Got J W σ G r k) (e : Ge G G') : Got J W σ G' r k := by
  cases r with
  | ok a ρ => exact fun H' G'' e' r => g H' G'' (e.trans e') r
  | exc c ns vs ρ => exact fun d H' G'' e' r x => g d H' G'' (e.trans e') r x
  | stuck => exact g
theorem Got.bind {α β : Type} {r : R α} {g : α → Env → R β} {k : β → Env → Hp → Hp → Prop} (h : Got J W σ G (r.bind g) k) : Got J W σ G r (fun a ρ _ G' => Got J W σ G' (g a ρ) k) := by
  cases r with
  | ok a ρ => exact fun H' G' e r => Got.later h e
  | exc c ns vs ρ => exact h
  | stuck => exact h
theorem Wait.ge {C : Cst} {v : V} {x : XV} (h : Wait C σ G v x) (g : Ge G G') : Wait C σ G' v x := by
  cases x with
  | dat d => exact IsD.ge h g
  | slot i => exact h
  | own d => exact h
theorem Waits.ge {C : Cst} (g : Ge G G') : ∀ {vs : List V} {xs : List XV}, Waits C σ G vs xs → Waits C σ G' vs xs
  | [], [], _ => trivial
  | _ :: _, _ :: _, h => ⟨h.1.ge g, Waits.ge g h.2⟩
theorem Wait.top (r : Rel J.C W σ ρ H G) {v : V} {x : XV} {d : D} (h : Wait J.C σ G v x) (e : cont ρ x = some d) : Top J.C H G v d := by
  cases x with
  | dat d' => cases e; exact .inl h
  | own d' => exact h.elim
  | slot i =>
    have h1 : σ[i]? = some (some v) := h
    have q := r.at_ i
    unfold cont at e
    dsimp only at e
    cases s : ρ.at i with
    | un => rw [s] at e; cases e
    | dat d' => rw [s] at e; cases e
    | own d' =>
      rw [s] at q e; cases e
      obtain ⟨a, h3, h4, _⟩ := q
      rw [h1] at h3; cases h3
      exact .inr ⟨a, rfl, h4.r⟩
    | brw d' =>
      rw [s] at q e; cases e
      obtain ⟨a, h3, h4, _⟩ := q
      rw [h1] at h3; cases h3
      exact .inr ⟨a, rfl, h4.move (fun o q => r.zh _ _ q) (Ge.refl _)⟩
end

/-! ## operands: a value that may wait -/
def opnd (f : Env → R XV) : Env → R XV := fun ρ => (f ρ).bind fun x ρ => match x with
  | .own d => .ok (.dat d) ρ
  | x => .ok x ρ
/-- a plain value -/
def frzX (x : XV) (ρ : Env) : R D := match x with
  | .dat d => .ok d ρ
  | .own d => .ok d ρ
  | .slot i => match ρ.at i with
    | .own d => .ok d (ρ.set i (.dat d))
    | _ => .stuck
def valS (f : Env → R XV) : Env → R D := fun ρ => (f ρ).bind frzX
def EvD (J : Jd) (te : TE) (f : Env → R D) : Prop := ∀ W σ ρ H G Q, PinOk W J.P → Rel J.C W σ ρ H G →
  Got J W σ G (f ρ) (fun d _ H' G' => ∀ v, IsD J.C G' v d → Q v H') → te σ H Q
theorem EvE.opnd {J : Jd} {te : TE} {f : Env → R XV} (h : EvE J te f) : EvO J te (opnd f) := fun W σ ρ H G Q pk r g => by
  refine h W σ ρ H G Q pk r ?_
  have g := Got.bind g
  refine g.imp fun x ρ' H' G' e r' k v vk => ?_
  cases x with
  | dat d => exact k H' G' (Ge.refl _) r' v vk
  | slot i => exact k H' G' (Ge.refl _) r' v vk.1
  | own d =>
    obtain ⟨G2, e2, r2, i2⟩ := r'.frzV vk
    exact k H' G2 e2 r2 v i2
theorem EvE.val {J : Jd} {te : TE} {f : Env → R XV} (h : EvE J te f) : EvD J te (valS f) := fun W σ ρ H G Q pk r g => by
  refine h W σ ρ H G Q pk r ?_
  have g := Got.bind g
  refine g.imp fun x ρ' H' G' e r' k v vk => ?_
  cases x with
  | dat d => exact k H' G' (Ge.refl _) r' v vk
  | slot i =>
    unfold frzX at k
    dsimp only at k
    rcases vk with ⟨h1, ⟨d, h2⟩ | ⟨d, h2⟩⟩
    · rw [h2] at k
      obtain ⟨w, G2, e1, e2, r2, i2⟩ := r'.frzSlot h2
      rw [h1] at e1; cases e1
      exact k H' G2 e2 r2 v i2
    · rw [h2] at k; exact k.elim
  | own d =>
    obtain ⟨G2, e2, r2, i2⟩ := r'.frzV vk
    exact k H' G2 e2 r2 v i2
section
variable {ι : Type} {J : Jd} {Xs : ι → Cx} {e a b c : Expr} {f g : Env → R XV} {pos : Pos}
theorem CE.opnd (h : CE J Xs e f) : CO J Xs e (opnd f) := by
  obtain ⟨te, h1, h2⟩ := h
  exact ⟨te, h1, h2.opnd⟩

/-! ## names and constants -/
def getS (i : Nat) : Env → R XV := fun ρ => match ρ.at i with
  | .dat d => .ok (.dat d) ρ
  | .own _ => .ok (.slot i) ρ
  | .brw _ => .ok (.slot i) ρ
  | .un => .stuck
def constS (d : D) : Env → R XV := fun ρ => .ok (.dat d) ρ
theorem ce_var (i : Nat) {x : Str} (hN : ∀ j, (Xs j).N[i]? = some x := by intro _; rfl) (hv : ∀ j, Vis (Xs j).env.scope x := by first | exact fun _ => Or.inl rfl | exact fun _ => Or.inr (Or.inl rfl) | exact fun _ => Or.inr (Or.inr rfl))
    (hd : (x == ("__debug__" : Str)) = false := by decide) (hcd : (x == ("__classdict__" : Str)) = false := by decide) : CE J Xs (.Name x pos) (getS i) := by
  refine ⟨tVar i, fun j _ => pe_var (hN j) (hv j) hd hcd, fun W σ ρ H G Q pk r g => ?_⟩
  unfold getS at g
  have q := r.at_ i
  cases s : ρ.at i with
  | un => rw [s] at g; exact g.elim
  | dat d =>
    rw [s] at g q
    obtain ⟨v, h1, h2⟩ := q
    exact ⟨v, h1, g H G (Ge.refl _) r v h2⟩
  | own d =>
    rw [s] at g q
    obtain ⟨a, h1, h2⟩ := q
    exact ⟨_, h1, g H G (Ge.refl _) r _ ⟨h1, .inl ⟨d, s⟩⟩⟩
  | brw d =>
    rw [s] at g q
    obtain ⟨a, h1, h2, _⟩ := q
    exact ⟨_, h1, g H G (Ge.refl _) r _ ⟨h1, .inr ⟨d, s⟩⟩⟩
theorem ce_const {te : TE} {v : V} {d : D} (h : ∀ i, Good J (Xs i) → PE (Xs i) e te) (ht : te = tC v) (hd : ∀ G, IsD J.C G v d) : CE J Xs e (constS d) :=
  ⟨te, h, fun W σ ρ H G Q pk r g => by subst ht; exact g H G (Ge.refl _) r v (hd G)⟩
theorem ce_int {i : Int} {j pos} : CE J Xs (.Constant (.int i) j pos) (constS (.int i)) := ce_const (fun _ _ => pe_int) rfl fun _ => .int i
theorem ce_bl {b : Bool} {j pos} : CE J Xs (.Constant (.bool b) j pos) (constS (.bl b)) := ce_const (fun _ _ => pe_bl) rfl fun _ => .bl b
theorem ce_non {j pos} : CE J Xs (.Constant .none j pos) (constS .non) := ce_const (fun _ _ => pe_non) rfl fun _ => .non
theorem ce_str {x : Str} {j pos} : CE J Xs (.Constant (.str x) j pos) (constS (.str x)) := ce_const (fun _ _ => pe_str) rfl fun _ => .str x
/-- a module's int -/
theorem ce_globI {x : Str} {n : Int} {t : Tok} (hm : ∀ j, (Xs j).mg x = some (.int n t)) (hg : ∀ j, Gl (Xs j) x := by intro _; rfl) (hd : (x == ("__debug__" : Str)) = false := by decide) : CE J Xs (.Name x pos) (constS (.int n)) :=
  ce_const (v := .int n) (fun j _ => pe_glob (v := .int n) (hg j) (hm j) ⟨t, rfl⟩ hd) rfl fun _ => .int n
theorem ce_globS {x s : Str} {t : Tok} (hm : ∀ j, (Xs j).mg x = some (.str s t)) (hg : ∀ j, Gl (Xs j) x := by intro _; rfl) (hd : (x == ("__debug__" : Str)) = false := by decide) : CE J Xs (.Name x pos) (constS (.str s)) :=
  ce_const (v := .str s) (fun j _ => pe_glob (v := .str s) (hg j) (hm j) ⟨t, rfl⟩ hd) rfl fun _ => .str s
end

/-! ## operations on contents -/
/-- a two-place operation: what the reading asks is given by op -/
def Op2Ok (C : Cst) (r : R2) (op : D → D → Option XV) : Prop := ∀ W σ ρ H G v w d e x (Q : VK), Rel C W σ ρ H G → Top C H G v d → Top C H G w e → op d e = some x →
  (∀ v' H' G', Ge G G' → Rel C W σ ρ H' G' → VOk C W σ ρ H' G' v' x → Q v' H') → r v w H Q
def Op1Ok (C : Cst) (r : V → Hp → VK → Prop) (op : D → Option XV) : Prop := ∀ W σ ρ H G v d x (Q : VK), Rel C W σ ρ H G → Top C H G v d → op d = some x →
  (∀ v' H' G', Ge G G' → Rel C W σ ρ H' G' → VOk C W σ ρ H' G' v' x → Q v' H') → r v H Q
inductive Tops (C : Cst) (H G : Hp) : List V → List D → Prop
  | nil : Tops C H G [] []
  | cons {v : V} {vs : List V} {d : D} {ds : List D} : Top C H G v d → Tops C H G vs ds → Tops C H G (v :: vs) (d :: ds)
def OpNOk (C : Cst) (r : List V → Hp → VK → Prop) (op : List D → Option XV) : Prop := ∀ W σ ρ H G vs ds x (Q : VK), Rel C W σ ρ H G → Tops C H G vs ds → op ds = some x →
  (∀ v' H' G', Ge G G' → Rel C W σ ρ H' G' → VOk C W σ ρ H' G' v' x → Q v' H') → r vs H Q
/-- of two readings the one that fits -/
theorem Op2Ok.or {C : Cst} {r r' : R2} {p q : D → D → Option XV} (h : Op2Ok C r p) (h' : Op2Ok C r' q) : Op2Ok C (fun x y H Q => r x y H Q ∨ r' x y H Q) (fun d e => (p d e).or (q d e)) := by
  intro W σ ρ H G v w d e x Q rl t1 t2 eq k
  cases z : p d e with
  | some y => dsimp only at eq; rw [z] at eq; exact .inl (h W σ ρ H G v w d e x Q rl t1 t2 (by rw [z]; exact eq) k)
  | none => dsimp only at eq; rw [z] at eq; exact .inr (h' W σ ρ H G v w d e x Q rl t1 t2 eq k)
theorem OpNOk.or {C : Cst} {r r' : List V → Hp → VK → Prop} {p q : List D → Option XV} (h : OpNOk C r p) (h' : OpNOk C r' q) : OpNOk C (fun x H Q => r x H Q ∨ r' x H Q) (fun d => (p d).or (q d)) := by
  intro W σ ρ H G v d x Q rl t1 eq k
  cases z : p d with
  | some y => dsimp only at eq; rw [z] at eq; exact .inl (h W σ ρ H G v d x Q rl t1 (by rw [z]; exact eq) k)
  | none => dsimp only at eq; rw [z] at eq; exact .inr (h' W σ ρ H G v d x Q rl t1 eq k)
def app2 (op : D → D → Option XV) (x y : XV) (ρ : Env) : R XV := match cont ρ x, cont ρ y with
  | some d, some e => match op d e with
    | some z => .ok z ρ
    | none => .stuck
  | _, _ => .stuck
def app1 (op : D → Option XV) (x : XV) (ρ : Env) : R XV := match cont ρ x with
  | some d => match op d with
    | some z => .ok z ρ
    | none => .stuck
  | _ => .stuck
def conts (ρ : Env) : List XV → Option (List D)
  | [] => some []
  | x :: xs => match cont ρ x, conts ρ xs with
    | some d, some ds => some (d :: ds)
    | _, _ => none
def appN (op : List D → Option XV) (xs : List XV) (ρ : Env) : R XV := match conts ρ xs with
  | some ds => match op ds with
    | some z => .ok z ρ
    | none => .stuck
  | _ => .stuck
def op2S (op : D → D → Option XV) (f g : Env → R XV) : Env → R XV := fun ρ => (opnd f ρ).bind fun x ρ => (opnd g ρ).bind fun y ρ => app2 op x y ρ
def op1S (op : D → Option XV) (f : Env → R XV) : Env → R XV := fun ρ => (opnd f ρ).bind fun x ρ => app1 op x ρ
section
variable {J : Jd} {W : Fm} {σ : St} {ρ : Env} {H G : Hp}
theorem Waits.tops (r : Rel J.C W σ ρ H G) : ∀ {vs : List V} {xs : List XV} {ds : List D}, Waits J.C σ G vs xs → conts ρ xs = some ds → Tops J.C H G vs ds
  | [], [], _, _, e => by cases e; exact .nil
  | [], _ :: _, _, h, _ => h.elim
  | _ :: _, [], _, h, _ => h.elim
  | v :: vs, x :: xs, ds, h, e => by
    unfold conts at e
    cases z : cont ρ x with
    | none => rw [z] at e; cases e
    | some d =>
      rw [z] at e
      cases z' : conts ρ xs with
      | none => rw [z'] at e; cases e
      | some ds' => rw [z'] at e; cases e; exact .cons (h.1.top r z) (Waits.tops r h.2 z')
theorem app2_ok {C : Cst} {r : R2} {op : D → D → Option XV} (ho : Op2Ok J.C r op) {v w : V} {x y : XV} {Q : VK} (rl : Rel J.C W σ ρ H G) (h1 : Wait J.C σ G v x) (h2 : Wait J.C σ G w y)
    (g : Got J W σ G (app2 op x y ρ) (fun x ρ' H' G' => ∀ v, VOk J.C W σ ρ' H' G' v x → Q v H')) : r v w H Q := by
  unfold app2 at g
  cases z : cont ρ x with
  | none => rw [z] at g; exact g.elim
  | some d =>
    cases z' : cont ρ y with
    | none => rw [z, z'] at g; exact g.elim
    | some e =>
      rw [z, z'] at g
      dsimp only at g
      cases z2 : op d e with
      | none => rw [z2] at g; exact g.elim
      | some q =>
        rw [z2] at g
        exact ho W σ ρ H G v w d e q Q rl (h1.top rl z) (h2.top rl z') z2 fun v' H' G' a b c => g H' G' a b v' c
theorem app1_ok {r : V → Hp → VK → Prop} {op : D → Option XV} (ho : Op1Ok J.C r op) {v : V} {x : XV} {Q : VK} (rl : Rel J.C W σ ρ H G) (h1 : Wait J.C σ G v x)
    (g : Got J W σ G (app1 op x ρ) (fun x ρ' H' G' => ∀ v, VOk J.C W σ ρ' H' G' v x → Q v H')) : r v H Q := by
  unfold app1 at g
  cases z : cont ρ x with
  | none => rw [z] at g; exact g.elim
  | some d =>
    rw [z] at g
    dsimp only at g
    cases z2 : op d with
    | none => rw [z2] at g; exact g.elim
    | some q =>
      rw [z2] at g
      exact ho W σ ρ H G v d q Q rl (h1.top rl z) z2 fun v' H' G' a b c => g H' G' a b v' c
theorem appN_ok {r : List V → Hp → VK → Prop} {op : List D → Option XV} (ho : OpNOk J.C r op) {vs : List V} {xs : List XV} {Q : VK} (rl : Rel J.C W σ ρ H G) (h1 : Waits J.C σ G vs xs)
    (g : Got J W σ G (appN op xs ρ) (fun x ρ' H' G' => ∀ v, VOk J.C W σ ρ' H' G' v x → Q v H')) : r vs H Q := by
  unfold appN at g
  cases z : conts ρ xs with
  | none => rw [z] at g; exact g.elim
  | some d =>
    rw [z] at g
    dsimp only at g
    cases z2 : op d with
    | none => rw [z2] at g; exact g.elim
    | some q =>
      rw [z2] at g
      exact ho W σ ρ H G vs d q Q rl (h1.tops rl z) z2 fun v' H' G' a b c => g H' G' a b v' c
end
section
variable {ι : Type} {J : Jd} {Xs : ι → Cx} {e a b c : Expr} {es : List Expr} {f g : Env → R XV} {fs : Env → R (List XV)} {pos : Pos}
theorem ev_op2 {ta tb : TE} {r : R2} {op : D → D → Option XV} (ha : EvE J ta f) (hb : EvE J tb g) (ho : Op2Ok J.C r op) : EvE J (tOp r ta tb) (op2S op f g) := by
  intro W σ ρ H G Q pk rl h
  refine ha.opnd W σ ρ H G _ pk rl ?_
  refine (Got.bind h).imp fun x ρ1 H1 G1 e1 r1 k v vk => ?_
  refine hb.opnd W σ ρ1 H1 G1 _ pk r1 ?_
  refine (Got.bind k).imp fun y ρ2 H2 G2 e2 r2 k w wk => ?_
  exact app2_ok (C := J.C) ho r2 (vk.ge e2) wk k
theorem ev_op1 {ta : TE} {r : V → Hp → VK → Prop} {op : D → Option XV} (ha : EvE J ta f) (ho : Op1Ok J.C r op) : EvE J (tUn r ta) (op1S op f) := by
  intro W σ ρ H G Q pk rl h
  refine ha.opnd W σ ρ H G _ pk rl ?_
  refine (Got.bind h).imp fun x ρ1 H1 G1 e1 r1 k v vk => ?_
  exact app1_ok ho r1 vk k
theorem ce_op {op : Operator} {r : R2} {p : D → D → Option XV} (ho : ∀ X, Good J X → OpR X (binaryOp op) r) (hp : Op2Ok J.C r p) (ha : CE J Xs a f) (hb : CE J Xs b g) : CE J Xs (.BinOp a op b pos) (op2S p f g) := by
  obtain ⟨ta, a1, a2⟩ := ha
  obtain ⟨tb, b1, b2⟩ := hb
  exact ⟨_, fun i G => pe_op (ho _ G) (a1 i G) (b1 i G), ev_op2 a2 b2 hp⟩
theorem ce_un {op : UnaryOp} {r : V → Hp → VK → Prop} {p : D → Option XV} (ho : ∀ X, Good J X → UnR X (unaryOp op) r) (hp : Op1Ok J.C r p) (ha : CE J Xs a f) : CE J Xs (.UnaryOp op a pos) (op1S p f) := by
  obtain ⟨ta, a1, a2⟩ := ha
  exact ⟨_, fun i G => pe_un (ho _ G) (a1 i G), ev_op1 a2 hp⟩
theorem ce_cmp {op : CmpOp} {r : R2} {p : D → D → Option XV} (ho : ∀ X, Good J X → OpR X (compareOp op) r) (hp : Op2Ok J.C r p) (ha : CE J Xs a f) (hb : CE J Xs b g) (hm : behindInMarks op b = false) : CE J Xs (.Compare a [op] [b] pos) (op2S p f g) := by
  obtain ⟨ta, a1, a2⟩ := ha
  obtain ⟨tb, b1, b2⟩ := hb
  exact ⟨_, fun i G => pe_cmpR (ho _ G) (a1 i G) (b1 i G) hm, ev_op2 a2 b2 hp⟩
/-- a bool's test -/
def testS (f : Env → R XV) : Env → R Bool := fun ρ => (f ρ).bind fun x ρ => match x with
  | .dat (.bl b) => .ok b ρ
  | _ => .stuck
theorem ev_test {te : TE} (h : EvE J te f) : EvT J (tTest te) (testS f) := by
  intro W σ ρ H G Q pk rl k
  refine h W σ ρ H G _ pk rl ?_
  refine (Got.bind k).imp fun x ρ1 H1 G1 e1 r1 k v vk => ?_
  cases x with
  | dat d =>
    cases d <;> first | exact k.elim | skip
    cases vk
    exact ⟨_, rfl, k H1 G1 (Ge.refl _) r1⟩
  | own d => exact k.elim
  | slot i => exact k.elim
theorem ct_cmp {op : CmpOp} {r : R2} {p : D → D → Option XV} (ho : ∀ X, Good J X → OpR X (compareOp op) r) (hp : Op2Ok J.C r p) (ha : CE J Xs a f) (hb : CE J Xs b g) (hm : behindInMarks op b = false) : CT J Xs (.Compare a [op] [b] pos) (testS (op2S p f g)) := by
  obtain ⟨ta, a1, a2⟩ := ha
  obtain ⟨tb, b1, b2⟩ := hb
  exact ⟨_, fun i G => pt_cmpR (ho _ G) (a1 i G) (b1 i G) hm, ev_test (ev_op2 a2 b2 hp)⟩
/-- a op b op' c -/
def chainS (p q : D → D → Option XV) (f g h : Env → R XV) : Env → R XV := fun ρ => (opnd f ρ).bind fun x ρ => (opnd g ρ).bind fun y ρ => (app2 p x y ρ).bind fun z ρ => match z with
  | .dat (.bl true) => (opnd h ρ).bind fun w ρ => app2 q y w ρ
  | .dat (.bl false) => .ok (.dat (.bl false)) ρ
  | _ => .stuck
theorem ev_chain {ta tb tc : TE} {h : Env → R XV} {r r' : R2} {p q : D → D → Option XV} (ha : EvE J ta f) (hb : EvE J tb g) (hc : EvE J tc h) (ho : Op2Ok J.C r p) (ho' : Op2Ok J.C r' q) : EvE J (tChain r r' ta tb tc) (chainS p q f g h) := by
  intro W σ ρ H G Q pk rl k
  refine ha.opnd W σ ρ H G _ pk rl ?_
  refine (Got.bind k).imp fun x ρ1 H1 G1 e1 r1 k v vk => ?_
  refine hb.opnd W σ ρ1 H1 G1 _ pk r1 ?_
  refine (Got.bind k).imp fun y ρ2 H2 G2 e2 r2 k w wk => ?_
  refine app2_ok (C := J.C) ho r2 (vk.ge e2) wk ?_
  refine (Got.bind k).imp fun z ρ3 H3 G3 e3 r3 k u uk => ?_
  cases z with
  | own d => exact k.elim
  | slot i => exact k.elim
  | dat d =>
    cases d <;> first | exact k.elim | skip
    rename_i bb
    cases uk
    cases bb
    · exact ⟨_, rfl, by rw [if_neg (by decide)]; exact k H3 G3 (Ge.refl _) r3 _ (.bl false)⟩
    · refine ⟨_, rfl, ?_⟩
      rw [if_pos rfl]
      refine hc.opnd W σ ρ3 H3 G3 _ pk r3 ?_
      refine (Got.bind k).imp fun z ρ4 H4 G4 e4 r4 k u uk => ?_
      exact app2_ok (C := J.C) ho' r4 (wk.ge (e3.trans e4)) uk k
theorem ce_chain {op op' : CmpOp} {r r' : R2} {p q : D → D → Option XV} {h : Env → R XV} (ho : ∀ X, Good J X → OpR X (compareOp op) r) (hp : Op2Ok J.C r p) (ho' : ∀ X, Good J X → OpR X (compareOp op') r') (hp' : Op2Ok J.C r' q)
    (ha : CE J Xs a f) (hb : CE J Xs b g) (hc : CE J Xs c h) (hm : lastMarks [op, op'] [b, c] = false := by with_unfolding_all rfl) : CE J Xs (.Compare a [op, op'] [b, c] pos) (chainS p q f g h) := by
  obtain ⟨ta, a1, a2⟩ := ha
  obtain ⟨tb, b1, b2⟩ := hb
  obtain ⟨tc, c1, c2⟩ := hc
  exact ⟨_, fun i G => pe_chain (ho _ G) (ho' _ G) (a1 i G) (b1 i G) (c1 i G) hm, ev_chain a2 b2 c2 hp hp'⟩
theorem ct_chain {op op' : CmpOp} {r r' : R2} {p q : D → D → Option XV} {h : Env → R XV} (ho : ∀ X, Good J X → OpR X (compareOp op) r) (hp : Op2Ok J.C r p) (ho' : ∀ X, Good J X → OpR X (compareOp op') r') (hp' : Op2Ok J.C r' q)
    (ha : CE J Xs a f) (hb : CE J Xs b g) (hc : CE J Xs c h) (hm : lastMarks [op, op'] [b, c] = false := by with_unfolding_all rfl) : CT J Xs (.Compare a [op, op'] [b, c] pos) (testS (chainS p q f g h)) := by
  obtain ⟨ta, a1, a2⟩ := ha
  obtain ⟨tb, b1, b2⟩ := hb
  obtain ⟨tc, c1, c2⟩ := hc
  exact ⟨_, fun i G => pt_chain (ho _ G) (ho' _ G) (a1 i G) (b1 i G) (c1 i G) hm, ev_test (ev_chain a2 b2 c2 hp hp')⟩

/-! ## tests -/
def andT (f g : Env → R Bool) : Env → R Bool := fun ρ => (f ρ).bind fun b ρ => if b = true then g ρ else .ok false ρ
def orT (f g : Env → R Bool) : Env → R Bool := fun ρ => (f ρ).bind fun b ρ => if b = true then .ok true ρ else g ρ
def notT (f : Env → R Bool) : Env → R Bool := fun ρ => (f ρ).bind fun b ρ => .ok (!b) ρ
theorem ev_andT {t u : TT} {f g : Env → R Bool} (h : EvT J t f) (h' : EvT J u g) : EvT J (tAnd t u) (andT f g) := by
  intro W σ ρ H G Q pk rl k
  refine h W σ ρ H G _ pk rl ?_
  refine (Got.bind k).imp fun b ρ1 H1 G1 e1 r1 k => ?_
  cases b
  · rw [if_neg (by decide)] at k ⊢; exact k H1 G1 (Ge.refl _) r1
  · rw [if_pos rfl] at k ⊢; exact h' W σ ρ1 H1 G1 _ pk r1 k
theorem ev_orT {t u : TT} {f g : Env → R Bool} (h : EvT J t f) (h' : EvT J u g) : EvT J (tOr t u) (orT f g) := by
  intro W σ ρ H G Q pk rl k
  refine h W σ ρ H G _ pk rl ?_
  refine (Got.bind k).imp fun b ρ1 H1 G1 e1 r1 k => ?_
  cases b
  · rw [if_neg (by decide)] at k ⊢; exact h' W σ ρ1 H1 G1 _ pk r1 k
  · rw [if_pos rfl] at k ⊢; exact k H1 G1 (Ge.refl _) r1
theorem ev_notT {t : TT} {f : Env → R Bool} (h : EvT J t f) : EvT J (tNot t) (notT f) := by
  intro W σ ρ H G Q pk rl k
  refine h W σ ρ H G _ pk rl ?_
  exact (Got.bind k).imp fun b ρ1 H1 G1 e1 r1 k => k H1 G1 (Ge.refl _) r1
variable {ft gt : Env → R Bool} {rest : List Expr}
theorem cw_and1 (h : CT J Xs a ft) : CW J Xs (.BoolOp .And [a] pos) ft := by
  obtain ⟨t, h1, h2⟩ := h
  exact ⟨t, fun i G => pw_and1 (h1 i G), h2⟩
theorem cw_or1 (h : CT J Xs a ft) : CW J Xs (.BoolOp .Or [a] pos) ft := by
  obtain ⟨t, h1, h2⟩ := h
  exact ⟨t, fun i G => pw_or1 (h1 i G), h2⟩
theorem cw_and (h : CT J Xs a ft) (h' : CW J Xs (.BoolOp .And (b :: rest) pos) gt) : CW J Xs (.BoolOp .And (a :: b :: rest) pos) (andT ft gt) := by
  obtain ⟨t, h1, h2⟩ := h
  obtain ⟨u, k1, k2⟩ := h'
  exact ⟨_, fun i G => pw_and (h1 i G) (k1 i G), ev_andT h2 k2⟩
theorem cw_or (h : CT J Xs a ft) (h' : CW J Xs (.BoolOp .Or (b :: rest) pos) gt) : CW J Xs (.BoolOp .Or (a :: b :: rest) pos) (orT ft gt) := by
  obtain ⟨t, h1, h2⟩ := h
  obtain ⟨u, k1, k2⟩ := h'
  exact ⟨_, fun i G => pw_or (h1 i G) (k1 i G), ev_orT h2 k2⟩
theorem CW.ct (h : CW J Xs a ft) : CT J Xs a ft := by
  obtain ⟨t, h1, h2⟩ := h
  exact ⟨t, fun i G => (h1 i G).pt, h2⟩
theorem ct_not (h : CT J Xs a ft) : CT J Xs (.UnaryOp .Not a pos) (notT ft) := by
  obtain ⟨t, h1, h2⟩ := h
  exact ⟨_, fun i G => pt_not (h1 i G), ev_notT h2⟩
/-- truth of what is there -/
def truD : D → Option Bool
  | .non => some false
  | .bl b => some b
  | .int i => some (i != 0)
  | .str s => if s.length ≤ sizeLine then some ((s.length : Int) != 0) else none
  | .tup l => some (!l.isEmpty)
  | .lst l => some (!l.isEmpty)
  | .rol l => some (!l.isEmpty)
  | _ => none
def truS (f : Env → R XV) : Env → R Bool := fun ρ => (opnd f ρ).bind fun x ρ => match cont ρ x with
  | some d => match truD d with
    | some b => .ok b ρ
    | none => .stuck
  | none => .stuck
theorem isEmpty_len {α β : Type} {xs : List α} {ys : List β} (h : xs.length = ys.length) : xs.isEmpty = ys.isEmpty := by
  cases xs <;> cases ys <;> simp_all
theorem truV_of {C : Cst} {H : Hp} {v : V} {d : D} {b : Bool} (h : IsD C H v d) (e : truD d = some b) : TruV C.K v H b := by
  cases h with
  | non => cases e; rfl
  | bl b => cases e; rfl
  | int i => cases e; rfl
  | str s =>
    unfold truD at e
    dsimp only at e
    split at e
    · cases e; rename_i h; exact ⟨h, rfl⟩
    · cases e
  | tup h hs => cases e; exact .inr (.inl ⟨_, h, by rw [isEmpty_len hs.length]⟩)
  | lst h hs => cases e; exact .inl ⟨_, SqL.of h, by rw [isEmpty_len hs.length]⟩
  | rol h hs => cases e; exact .inl ⟨_, h, by rw [isEmpty_len hs.length]⟩
  | dct h hk hs => cases e
  | ins h _ _ => cases e
theorem ct_tru (h : CE J Xs a f) (he : ∀ i whole, isTrue a (Xs i).env whole = (do let v ← whole; standAt a.pos; holding [v] (truthy v)) := by intro _ _; rfl) : CT J Xs a (truS f) := by
  obtain ⟨te, h1, h2⟩ := h
  refine ⟨fun σ H Q => te σ H fun x H' => ∃ k, TruV J.C.K x H' k ∧ Q k H', fun i G => ?_, ?_⟩
  · have := pt_truth (h1 i G) (he i)
    rw [G.hK] at this
    exact this
  · intro W σ ρ H G Q pk rl k
    refine h2.opnd W σ ρ H G _ pk rl ?_
    refine (Got.bind k).imp fun x ρ1 H1 G1 e1 r1 k v vk => ?_
    cases z : cont ρ1 x with
    | none => rw [z] at k; exact k.elim
    | some d =>
      rw [z] at k
      dsimp only at k
      cases z2 : truD d with
      | none => rw [z2] at k; exact k.elim
      | some b =>
        rw [z2] at k
        exact ⟨b, truV_of ((vk.top r1 z).isD r1.gh) z2, k H1 G1 (Ge.refl _) r1⟩
/-! ## and, or, not, a if t else b as values -/
def andS (f g : Env → R XV) : Env → R XV := fun ρ => (f ρ).bind fun x ρ => match x with
  | .dat (.bl true) => g ρ
  | .dat (.bl false) => .ok (.dat (.bl false)) ρ
  | _ => .stuck
def orS (f g : Env → R XV) : Env → R XV := fun ρ => (f ρ).bind fun x ρ => match x with
  | .dat (.bl true) => .ok (.dat (.bl true)) ρ
  | .dat (.bl false) => g ρ
  | _ => .stuck
def notS (f : Env → R XV) : Env → R XV := fun ρ => (f ρ).bind fun x ρ => match x with
  | .dat (.bl b) => .ok (.dat (.bl (!b))) ρ
  | _ => .stuck
def ifS (t : Env → R Bool) (f g : Env → R XV) : Env → R XV := fun ρ => (t ρ).bind fun b ρ => if b = true then f ρ else g ρ
theorem ce_one {op} (h : CE J Xs a f) : CE J Xs (.BoolOp op [a] pos) f := by
  obtain ⟨t, h1, h2⟩ := h
  exact ⟨t, fun i G => pe_one (h1 i G), h2⟩
theorem ce_and (h : CE J Xs a f) (h' : CE J Xs (.BoolOp .And (b :: rest) pos) g) : CE J Xs (.BoolOp .And (a :: b :: rest) pos) (andS f g) := by
  obtain ⟨t, h1, h2⟩ := h
  obtain ⟨u, k1, k2⟩ := h'
  refine ⟨_, fun i G => pe_and (h1 i G) (k1 i G), fun W σ ρ H G Q pk rl k => ?_⟩
  refine h2 W σ ρ H G _ pk rl ?_
  refine (Got.bind k).imp fun x ρ1 H1 G1 e1 r1 k v vk => ?_
  cases x with
  | own d => exact k.elim
  | slot i => exact k.elim
  | dat d =>
    cases d <;> first | exact k.elim | skip
    rename_i bb
    cases vk
    cases bb
    · exact ⟨_, rfl, by rw [if_neg (by decide)]; exact k H1 G1 (Ge.refl _) r1 _ (.bl false)⟩
    · exact ⟨_, rfl, by rw [if_pos rfl]; exact k2 W σ ρ1 H1 G1 _ pk r1 k⟩
theorem ce_or (h : CE J Xs a f) (h' : CE J Xs (.BoolOp .Or (b :: rest) pos) g) : CE J Xs (.BoolOp .Or (a :: b :: rest) pos) (orS f g) := by
  obtain ⟨t, h1, h2⟩ := h
  obtain ⟨u, k1, k2⟩ := h'
  refine ⟨_, fun i G => pe_or (h1 i G) (k1 i G), fun W σ ρ H G Q pk rl k => ?_⟩
  refine h2 W σ ρ H G _ pk rl ?_
  refine (Got.bind k).imp fun x ρ1 H1 G1 e1 r1 k v vk => ?_
  cases x with
  | own d => exact k.elim
  | slot i => exact k.elim
  | dat d =>
    cases d <;> first | exact k.elim | skip
    rename_i bb
    cases vk
    cases bb
    · exact ⟨_, rfl, by rw [if_neg (by decide)]; exact k2 W σ ρ1 H1 G1 _ pk r1 k⟩
    · exact ⟨_, rfl, by rw [if_pos rfl]; exact k H1 G1 (Ge.refl _) r1 _ (.bl true)⟩
theorem ce_not (h : CE J Xs a f) : CE J Xs (.UnaryOp .Not a pos) (notS f) := by
  obtain ⟨t, h1, h2⟩ := h
  refine ⟨_, fun i G => pe_not (h1 i G), fun W σ ρ H G Q pk rl k => ?_⟩
  refine h2 W σ ρ H G _ pk rl ?_
  refine (Got.bind k).imp fun x ρ1 H1 G1 e1 r1 k v vk => ?_
  cases x with
  | own d => exact k.elim
  | slot i => exact k.elim
  | dat d =>
    cases d <;> first | exact k.elim | skip
    rename_i bb
    cases vk
    exact ⟨_, rfl, k H1 G1 (Ge.refl _) r1 _ (.bl _)⟩
theorem ce_ifExp (hc : CT J Xs c ft) (ha : CE J Xs a f) (hb : CE J Xs b g) : CE J Xs (.IfExp c a b pos) (ifS ft f g) := by
  obtain ⟨t, h1, h2⟩ := hc
  obtain ⟨u, k1, k2⟩ := ha
  obtain ⟨w, l1, l2⟩ := hb
  refine ⟨_, fun i G => pe_ifExp (h1 i G) (k1 i G) (l1 i G), fun W σ ρ H G Q pk rl k => ?_⟩
  refine h2 W σ ρ H G _ pk rl ?_
  refine (Got.bind k).imp fun bb ρ1 H1 G1 e1 r1 k => ?_
  cases bb
  · rw [if_neg (by decide)] at k ⊢; exact l2 W σ ρ1 H1 G1 _ pk r1 k
  · rw [if_pos rfl] at k ⊢; exact k2 W σ ρ1 H1 G1 _ pk r1 k
/-! ## arguments -/
def consS (f : Env → R XV) (fs : Env → R (List XV)) : Env → R (List XV) := fun ρ => (opnd f ρ).bind fun x ρ => (fs ρ).bind fun xs ρ => .ok (x :: xs) ρ
def nilS : Env → R (List XV) := fun ρ => .ok [] ρ
theorem ca_nil : CA_ J Xs [] nilS := ⟨_, fun i _ => pa_nil, fun W σ ρ H G Q pk rl k => k H G (Ge.refl _) rl [] trivial⟩
theorem ca_cons (h : CE J Xs e f) (h' : CA_ J Xs es fs) (hs : ∀ i, starEach (e :: es) (Xs i).env = (false, eval e (Xs i).env) :: starEach es (Xs i).env := by intro _; rfl) : CA_ J Xs (e :: es) (consS f fs) := by
  obtain ⟨t, h1, h2⟩ := h
  obtain ⟨u, k1, k2⟩ := h'
  refine ⟨_, fun i G => pa_cons (h1 i G) (k1 i G) (hs i), fun W σ ρ H G Q pk rl k => ?_⟩
  refine h2.opnd W σ ρ H G _ pk rl ?_
  refine (Got.bind k).imp fun x ρ1 H1 G1 e1 r1 k v vk => ?_
  refine k2 W σ ρ1 H1 G1 _ pk r1 ?_
  refine (Got.bind k).imp fun xs ρ2 H2 G2 e2 r2 k vs vks => ?_
  exact k H2 G2 (Ge.refl _) r2 (v :: vs) ⟨vk.ge e2, vks⟩
/-- each frozen -/
def consD (f : Env → R XV) (fs : Env → R (List XV)) : Env → R (List XV) := fun ρ => (valS f ρ).bind fun d ρ => (fs ρ).bind fun xs ρ => .ok (.dat d :: xs) ρ
theorem ca_consD (h : CE J Xs e f) (h' : CA_ J Xs es fs) (hs : ∀ i, starEach (e :: es) (Xs i).env = (false, eval e (Xs i).env) :: starEach es (Xs i).env := by intro _; rfl) : CA_ J Xs (e :: es) (consD f fs) := by
  obtain ⟨t, h1, h2⟩ := h
  obtain ⟨u, k1, k2⟩ := h'
  refine ⟨_, fun i G => pa_cons (h1 i G) (k1 i G) (hs i), fun W σ ρ H G Q pk rl k => ?_⟩
  refine h2.val W σ ρ H G _ pk rl ?_
  refine (Got.bind k).imp fun x ρ1 H1 G1 e1 r1 k v vk => ?_
  refine k2 W σ ρ1 H1 G1 _ pk r1 ?_
  refine (Got.bind k).imp fun xs ρ2 H2 G2 e2 r2 k vs vks => ?_
  exact k H2 G2 (Ge.refl _) r2 (v :: vs) ⟨IsD.ge vk e2, vks⟩
/-! ## calls of built-ins -/
def callS (op : List D → Option XV) (fs : Env → R (List XV)) : Env → R XV := fun ρ => (fs ρ).bind fun xs ρ => appN op xs ρ
theorem ev_call {ta : TA} {r : List V → Hp → VK → Prop} {op : List D → Option XV} (h : EvA J ta fs) (ho : OpNOk J.C r op) : EvE J (tCB r ta) (callS op fs) := by
  intro W σ ρ H G Q pk rl k
  refine h W σ ρ H G _ pk rl ?_
  refine (Got.bind k).imp fun xs ρ1 H1 G1 e1 r1 k vs vks => ?_
  exact appN_ok ho r1 vks k
theorem ce_callB {x : Str} {id : String} {r : List V → Hp → VK → Prop} {op : List D → Option XV} {p : Pos} (hc : ∀ X, Good J X → CallR X (.builtin id) r) (hp : OpNOk J.C r op) (hm : ∀ i, (Xs i).mg x = none) (hv : bootBuiltins x = some (.builtin id)) (ha : CA_ J Xs (e :: es) fs)
    (hg : ∀ i, Gl (Xs i) x := by intro _; rfl) (hn : x ≠ "__name__" := by decide) (hdb : (x == ("__debug__" : Str)) = false := by decide)
    (he : ∀ i, starEach (e :: es) (Xs i).env = (false, eval e (Xs i).env) :: starEach es (Xs i).env := by intro _; rfl) (hpl : ∀ i, (backTo pos (starEach es (Xs i).env)).any (·.1) = false := by intro _; rfl) : CE J Xs (.Call (.Name x p) (e :: es) [] pos) (callS op fs) := by
  obtain ⟨t, h1, h2⟩ := ha
  exact ⟨_, fun i G => pe_callB (hc _ G) (hg i) (hm i) hv (h1 i G) hn hdb (he i) (hpl i), ev_call h2 hp⟩
theorem ce_callTy {x : Str} {T : String} {r : List V → Hp → VK → Prop} {op : List D → Option XV} {p : Pos} (hc : ∀ X, Good J X → CallR X (.type T) r) (hp : OpNOk J.C r op) (hm : ∀ i, (Xs i).mg x = none) (hv : bootBuiltins x = some (.type T)) (ha : CA_ J Xs (e :: es) fs)
    (hg : ∀ i, Gl (Xs i) x := by intro _; rfl) (hn : x ≠ "__name__" := by decide) (hdb : (x == ("__debug__" : Str)) = false := by decide)
    (he : ∀ i, starEach (e :: es) (Xs i).env = (false, eval e (Xs i).env) :: starEach es (Xs i).env := by intro _; rfl) (hpl : ∀ i, (backTo pos (starEach es (Xs i).env)).any (·.1) = false := by intro _; rfl) : CE J Xs (.Call (.Name x p) (e :: es) [] pos) (callS op fs) := by
  obtain ⟨t, h1, h2⟩ := ha
  exact ⟨_, fun i G => pe_callTy (hc _ G) (hg i) (hm i) hv (h1 i G) hn hdb (he i) (hpl i), ev_call h2 hp⟩
end
end DL
namespace DL
open PySem L2

def LIM : Nat := 1000000
theorem lim_le {n : Nat} (h : n ≤ LIM) : n ≤ sizeLine := Nat.le_trans h (by decide)
theorem lim_lt {n : Nat} (h : n < LIM) : n < sizeLine := Nat.lt_of_lt_of_le h (by decide)

/-! ## contents read -/
section
variable {C : Cst} {W : Fm} {σ : St} {ρ : Env} {H G : Hp} {v : V}
theorem Top.int {i : Int} (t : Top C H G v (.int i)) : v = .int i := by
  rcases t with t | ⟨a, rfl, t⟩
  · cases t; rfl
  · exact t.elim
theorem Top.bl {b : Bool} (t : Top C H G v (.bl b)) : v = .bl b := by
  rcases t with t | ⟨a, rfl, t⟩
  · cases t; rfl
  · exact t.elim
theorem Top.str {s : Str} (t : Top C H G v (.str s)) : v = .str s := by
  rcases t with t | ⟨a, rfl, t⟩
  · cases t; rfl
  · exact t.elim
theorem Top.non (t : Top C H G v .non) : v = .non := by
  rcases t with t | ⟨a, rfl, t⟩
  · cases t; rfl
  · exact t.elim
theorem Top.tup {ds : List D} (t : Top C H G v (.tup ds)) (g : Ge G H) : ∃ a xs, v = .ref a ∧ SqT C.K H a xs ∧ IsDs C G xs ds := by
  rcases t with t | ⟨a, rfl, t⟩
  · cases t with
    | tup h hs => exact ⟨_, _, rfl, g.sqT h, hs⟩
  · exact t.elim
theorem Top.lst {ds : List D} (t : Top C H G v (.lst ds)) (g : Ge G H) : ∃ a xs, v = .ref a ∧ H a = some (.lst xs) ∧ IsDs C G xs ds := by
  rcases t with t | ⟨a, rfl, t⟩
  · cases t with
    | lst h hs => exact ⟨_, _, rfl, g _ _ h, hs⟩
  · obtain ⟨xs, h1, h2⟩ := t
    exact ⟨a, xs, rfl, h1, h2⟩
theorem Top.rol {ds : List D} (t : Top C H G v (.rol ds)) (g : Ge G H) : ∃ a xs, v = .ref a ∧ SqL C.K H a xs ∧ IsDs C G xs ds := by
  rcases t with t | ⟨a, rfl, t⟩
  · cases t with
    | rol h hs => exact ⟨_, _, rfl, g.sqL h, hs⟩
  · exact t.elim
theorem Top.dct {ks : List Key} {ds : List D} (t : Top C H G v (.dct ks ds)) (g : Ge G H) : ∃ a, ∃ kvs : List (Key × V), v = .ref a ∧ Rd H a (.dK kvs) ∧ kvs.map Prod.fst = ks ∧ IsDs C G (kvs.map Prod.snd) ds := by
  rcases t with t | ⟨a, rfl, t⟩
  · cases t with
    | dct h e hs => exact ⟨_, _, rfl, g.rd h, e, hs⟩
  · obtain ⟨xs, h1, h0, h2⟩ := t
    exact ⟨a, xs, rfl, h1, h0, h2⟩
theorem Top.ins {c : String} {ns : List Str} {ds : List D} (t : Top C H G v (.ins c ns ds)) (g : Ge G H) : ∃ a dx fs, v = .ref a ∧ H a = some (.ins (C.CA c) dx fs) ∧ fs.map Prod.fst = ns ∧ IsDs C G (fs.map Prod.snd) ds := by
  rcases t with t | ⟨a, rfl, t⟩
  · cases t with
    | ins h e hs => exact ⟨_, _, _, rfl, g _ _ h, e, hs⟩
  · obtain ⟨dx, xs, h1, h0, h2⟩ := t
    exact ⟨a, dx, xs, rfl, h1, h0, h2⟩
/-- a list or a tuple -/
def seqD : D → Option (List D)
  | .lst l => some l
  | .rol l => some l
  | .tup l => some l
  | _ => none
theorem Top.seq {d : D} {ds : List D} (t : Top C H G v d) (g : Ge G H) (e : seqD d = some ds) : ∃ a xs, v = .ref a ∧ (SqL C.K H a xs ∨ SqT C.K H a xs) ∧ IsDs C G xs ds := by
  cases d <;> cases e
  · obtain ⟨a, xs, h1, h2, h3⟩ := t.tup g; exact ⟨a, xs, h1, .inr h2, h3⟩
  · obtain ⟨a, xs, h1, h2, h3⟩ := t.lst g; exact ⟨a, xs, h1, .inl (SqL.of h2), h3⟩
  · obtain ⟨a, xs, h1, h2, h3⟩ := t.rol g; exact ⟨a, xs, h1, .inl h2, h3⟩
theorem Rel.back (r : Rel C W σ ρ H G) {v' : V} {d : D} (h : IsD C G v' d) {Q : VK} (k : ∀ v' H' G', Ge G G' → Rel C W σ ρ H' G' → VOk C W σ ρ H' G' v' (.dat d) → Q v' H') : Q v' H := k v' H G (Ge.refl _) r h
/-- a new tuple -/
theorem Rel.backTup (r : Rel C W σ ρ H G) {xs : List V} {ds : List D} (h : IsDs C G xs ds) {Q : VK} (k : ∀ v' H' G', Ge G G' → Rel C W σ ρ H' G' → VOk C W σ ρ H' G' v' (.dat (.tup ds)) → Q v' H') {p : Addr} (hp : H p = none) : Q (.ref p) (upd H p (.tup xs)) := by
  have g : Ge G (upd G p (.tup xs)) := Ge.upd (r.gNone hp)
  exact k _ _ _ g (r.frz hp) (.tup (SqT.of upd_same) (h.ge g))
theorem Rel.backLst (r : Rel C W σ ρ H G) {xs : List V} {ds : List D} (h : IsDs C G xs ds) {Q : VK} (k : ∀ v' H' G', Ge G G' → Rel C W σ ρ H' G' → VOk C W σ ρ H' G' v' (.own (.lst ds)) → Q v' H') {p : Addr} (hp : H p = none) : Q (.ref p) (upd H p (.lst xs)) :=
  k _ _ _ (Ge.refl _) (r.new hp) (r.newV hp ⟨xs, upd_same, h⟩)
end

/-! ## arithmetic -/
def xint (i : Int) : XV := .dat (.int i)
def xbl (b : Bool) : XV := .dat (.bl b)
section
variable {C : Cst}
theorem op2I {r : R2} {Cn : Int → Int → Prop} {g : Int → Int → Int} {op : D → D → Option XV} (h : ∀ d e x, op d e = some x → ∃ i j, d = .int i ∧ e = .int j ∧ Cn i j ∧ x = xint (g i j)) : Op2Ok C (rI Cn fun i j => .int (g i j)) op := by
  intro W σ ρ H G v w d e x Q rl t1 t2 eq k
  obtain ⟨i, j, rfl, rfl, c, rfl⟩ := h _ _ _ eq
  exact ⟨i, j, t1.int, t2.int, c, rl.back (.int _) k⟩
theorem op2I0 {g : Int → Int → Int} {op : D → D → Option XV} (h : ∀ d e x, op d e = some x → ∃ i j, d = .int i ∧ e = .int j ∧ x = xint (g i j)) : Op2Ok C (rI0 fun i j => .int (g i j)) op := by
  intro W σ ρ H G v w d e x Q rl t1 t2 eq k
  obtain ⟨i, j, rfl, rfl, rfl⟩ := h _ _ _ eq
  exact ⟨i, j, t1.int, t2.int, rl.back (.int _) k⟩
theorem op2B0 {g : Int → Int → Bool} {op : D → D → Option XV} (h : ∀ d e x, op d e = some x → ∃ i j, d = .int i ∧ e = .int j ∧ x = xbl (g i j)) : Op2Ok C (rI0 fun i j => .bl (g i j)) op := by
  intro W σ ρ H G v w d e x Q rl t1 t2 eq k
  obtain ⟨i, j, rfl, rfl, rfl⟩ := h _ _ _ eq
  exact ⟨i, j, t1.int, t2.int, rl.back (.bl _) k⟩
end
def addI : D → D → Option XV
  | .int i, .int j => some (xint (i + j))
  | _, _ => none
def subD : D → D → Option XV
  | .int i, .int j => some (xint (i - j))
  | _, _ => none
def mulI : D → D → Option XV
  | .int i, .int j => if i.natAbs.log2 + j.natAbs.log2 < 1000000 then some (xint (i * j)) else none
  | _, _ => none
def fdivD : D → D → Option XV
  | .int i, .int j => if 0 < j ∧ j.natAbs.log2 < 9000 then some (xint (i / j)) else none
  | _, _ => none
def modD : D → D → Option XV
  | .int i, .int j => if 0 < j then some (xint (i % j)) else none
  | _, _ => none
def powD : D → D → Option XV
  | .int i, .int j => if 0 ≤ j ∧ j.natAbs ≤ 1000000 ∧ i.natAbs < 18446744073709551616 then some (xint (i ^ j.toNat)) else none
  | _, _ => none
def negD : D → Option XV
  | .int i => some (xint (-i))
  | _ => none
def ltD : D → D → Option XV
  | .int i, .int j => some (xbl (decide (i < j)))
  | _, _ => none
def leD : D → D → Option XV
  | .int i, .int j => some (xbl (decide (i ≤ j)))
  | _, _ => none
def gtD : D → D → Option XV
  | .int i, .int j => some (xbl (decide (j < i)))
  | _, _ => none
def geD : D → D → Option XV
  | .int i, .int j => some (xbl (decide (j ≤ i)))
  | _, _ => none
section
variable {C : Cst}
theorem addI_ok : Op2Ok C (rI0 fun i j => .int (i + j)) addI := op2I0 fun d e x h => by
  cases d <;> cases e <;> cases h; exact ⟨_, _, rfl, rfl, rfl⟩
theorem subD_ok : Op2Ok C (rI0 fun i j => .int (i - j)) subD := op2I0 fun d e x h => by
  cases d <;> cases e <;> cases h; exact ⟨_, _, rfl, rfl, rfl⟩
theorem mulI_ok : Op2Ok C (rI CMulW fun i j => .int (i * j)) mulI := op2I (r := rI CMulW fun i j => .int (i * j)) fun d e x h => by
  cases d <;> cases e <;> first | (unfold mulI at h; cases h; done) | skip
  unfold mulI at h
  dsimp only at h
  split at h
  · cases h; rename_i q; exact ⟨_, _, rfl, rfl, q, rfl⟩
  · cases h
theorem fdivD_ok : Op2Ok C (rI CDivW fun i j => .int (i / j)) fdivD := op2I (r := rI CDivW fun i j => .int (i / j)) fun d e x h => by
  cases d <;> cases e <;> first | (unfold fdivD at h; cases h; done) | skip
  unfold fdivD at h
  dsimp only at h
  split at h
  · cases h; rename_i q; exact ⟨_, _, rfl, rfl, q, rfl⟩
  · cases h
theorem modD_ok : Op2Ok C (rI (fun _ j => 0 < j) fun i j => .int (i % j)) modD := op2I (r := rI (fun _ j => 0 < j) fun i j => .int (i % j)) fun d e x h => by
  cases d <;> cases e <;> first | (unfold modD at h; cases h; done) | skip
  unfold modD at h
  dsimp only at h
  split at h
  · cases h; rename_i q; exact ⟨_, _, rfl, rfl, q, rfl⟩
  · cases h
theorem powD_ok : Op2Ok C (rI CPow fun i j => .int (i ^ j.toNat)) powD := op2I (r := rI CPow fun i j => .int (i ^ j.toNat)) fun d e x h => by
  cases d <;> cases e <;> first | (unfold powD at h; cases h; done) | skip
  unfold powD at h
  dsimp only at h
  split at h
  · cases h; rename_i q; exact ⟨_, _, rfl, rfl, ⟨q.1, by have := q.2.1; omega, by have := q.2.2; omega⟩, rfl⟩
  · cases h
theorem negD_ok : Op1Ok C (rU fun i => .int (-i)) negD := by
  intro W σ ρ H G v d x Q rl t eq k
  cases d <;> cases eq
  exact ⟨_, t.int, rl.back (.int _) k⟩
theorem ltD_ok : Op2Ok C (rI0 fun i j => .bl (decide (i < j))) ltD := op2B0 fun d e x h => by
  cases d <;> cases e <;> cases h; exact ⟨_, _, rfl, rfl, rfl⟩
theorem leD_ok : Op2Ok C (rI0 fun i j => .bl (decide (i ≤ j))) leD := op2B0 fun d e x h => by
  cases d <;> cases e <;> cases h; exact ⟨_, _, rfl, rfl, rfl⟩
theorem gtD_ok : Op2Ok C (rI0 fun i j => .bl (decide (j < i))) gtD := op2B0 fun d e x h => by
  cases d <;> cases e <;> cases h; exact ⟨_, _, rfl, rfl, rfl⟩
theorem geD_ok : Op2Ok C (rI0 fun i j => .bl (decide (j ≤ i))) geD := op2B0 fun d e x h => by
  cases d <;> cases e <;> cases h; exact ⟨_, _, rfl, rfl, rfl⟩
end
/-! ## + and * of rows -/
def catD : D → D → Option XV
  | .lst a, .lst b => if a.length + b.length ≤ LIM then some (.own (.lst (a ++ b))) else none
  | _, _ => none
def catT : D → D → Option XV
  | .tup a, .tup b => if a.length + b.length ≤ LIM then some (.dat (.tup (a ++ b))) else none
  | _, _ => none
def catS : D → D → Option XV
  | .str a, .str b => if a.length + b.length ≤ LIM then some (.dat (.str (a ++ b))) else none
  | _, _ => none
def repD : D → D → Option XV
  | .lst a, .int k => if k.natAbs ≤ 1000000 ∧ a.length * k.toNat ≤ LIM then some (.own (.lst (List.replicate k.toNat a).flatten)) else none
  | _, _ => none
def addD (d e : D) : Option XV := (((addI d e).or (catD d e)).or (catT d e)).or (catS d e)
theorem IsDs.rep {C : Cst} {G : Hp} {xs : List V} {ds : List D} (h : IsDs C G xs ds) : ∀ k : Nat, IsDs C G (List.replicate k xs).flatten (List.replicate k ds).flatten
  | 0 => .nil
  | k + 1 => by
    rw [List.replicate_succ, List.replicate_succ, List.flatten_cons, List.flatten_cons]
    exact h.append (h.rep k)
section
variable {C : Cst}
theorem catD_ok : Op2Ok C rCat catD := by
  intro W σ ρ H G v w d e x Q rl t1 t2 eq k
  cases d <;> cases e <;> first | (unfold catD at eq; cases eq; done) | skip
  unfold catD at eq
  dsimp only at eq
  split at eq
  · cases eq
    rename_i q
    obtain ⟨a, xs, rfl, h1, h2⟩ := t1.lst rl.gh
    obtain ⟨b, ys, rfl, k1, k2⟩ := t2.lst rl.gh
    exact ⟨a, b, xs, ys, rfl, rfl, h1, k1, by rw [h2.length, k2.length]; exact lim_le q, fun p hp => rl.backLst (h2.append k2) k hp⟩
  · cases eq
theorem catT_ok : Op2Ok C (rCatA C.K) catT := by
  intro W σ ρ H G v w d e x Q rl t1 t2 eq k
  cases d <;> cases e <;> first | (unfold catT at eq; cases eq; done) | skip
  unfold catT at eq
  dsimp only at eq
  split at eq
  · cases eq
    rename_i q
    have t1' := t1
    have t2' := t2
    obtain ⟨a, xs, rfl, h1, h2⟩ := t1.tup rl.gh
    obtain ⟨b, ys, rfl, k1, k2⟩ := t2.tup rl.gh
    refine ⟨a, b, xs, ys, rfl, rfl, h1, k1, by rw [h2.length, k2.length]; exact lim_le q, fun e => ?_, fun _ e => ?_, fun _ _ p hp => rl.backTup (h2.append k2) k hp⟩
    · subst e
      cases h2
      rcases t2' with t2' | ⟨_, _, z⟩
      · exact rl.back t2' k
      · exact z.elim
    · subst e
      cases k2
      rw [List.append_nil] at k
      rcases t1' with t1' | ⟨_, _, z⟩
      · exact rl.back t1' k
      · exact z.elim
  · cases eq
theorem catS_ok : Op2Ok C (fun x y H Q => ∃ i j, x = .str i ∧ y = .str j ∧ i.length + j.length ≤ sizeLine ∧ Q (.str (i ++ j)) H) catS := by
  intro W σ ρ H G v w d e x Q rl t1 t2 eq k
  cases d <;> cases e <;> first | (unfold catS at eq; cases eq; done) | skip
  unfold catS at eq
  dsimp only at eq
  split at eq
  · cases eq
    rename_i q
    exact ⟨_, _, t1.str, t2.str, lim_le q, rl.back (.str _) k⟩
  · cases eq
theorem repD_ok : Op2Ok C rRep repD := by
  intro W σ ρ H G v w d e x Q rl t1 t2 eq k
  cases d <;> cases e <;> first | (unfold repD at eq; cases eq; done) | skip
  unfold repD at eq
  dsimp only at eq
  split at eq
  · cases eq
    rename_i q
    obtain ⟨a, xs, rfl, h1, h2⟩ := t1.lst rl.gh
    exact ⟨a, _, xs, rfl, t2.int, h1, by have := q.1; omega, by have := q.1; omega, by rw [h2.length]; exact lim_le q.2, fun p hp => rl.backLst (h2.rep _) k hp⟩
  · cases eq
end

/-! ## == of data -/
mutual
def toP : D → Option PyData
  | .non => some .none
  | .bl b => some (.bool b)
  | .int i => some (.int i)
  | .str x => some (.str x)
  | .tup l => (toPs l).map .tuple
  | .lst l => (toPs l).map .list
  | .rol l => (toPs l).map .list
  | .dct _ _ => none
  | .ins _ _ _ => none
def toPs : List D → Option (List PyData)
  | [] => some []
  | x :: xs => match toP x, toPs xs with
    | some a, some b => some (a :: b)
    | _, _ => none
end
mutual
theorem dp_of {C : Cst} {H : Hp} : ∀ (d : D) {v : V} {p : PyData}, IsD C H v d → toP d = some p → Dp C.K H v p
  | .non, _, _, .non, e => by cases e; exact .non
  | .bl _, _, _, .bl b, e => by cases e; exact .bl b
  | .int _, _, _, .int b, e => by cases e; exact .int b
  | .str _, _, _, .str b, e => by cases e; exact .str b
  | .tup l, _, _, .tup h hs, e => by
    unfold toP at e
    cases z : toPs l with
    | none => rw [z] at e; cases e
    | some q => rw [z] at e; cases e; exact .tup h (dps_of l hs z)
  | .lst l, _, _, .lst h hs, e => by
    unfold toP at e
    cases z : toPs l with
    | none => rw [z] at e; cases e
    | some q => rw [z] at e; cases e; exact .lst (SqL.of h) (dps_of l hs z)
  | .rol l, _, _, .rol h hs, e => by
    unfold toP at e
    cases z : toPs l with
    | none => rw [z] at e; cases e
    | some q => rw [z] at e; cases e; exact .lst h (dps_of l hs z)
  | .dct _ _, _, _, _, e => by unfold toP at e; cases e
  | .ins _ _ _, _, _, _, e => by unfold toP at e; cases e
theorem dps_of {C : Cst} {H : Hp} : ∀ (l : List D) {vs : List V} {ps : List PyData}, IsDs C H vs l → toPs l = some ps → DpAll C.K H vs ps
  | [], _, _, .nil, e => by unfold toPs at e; cases e; exact .nil
  | d :: ds, _, _, .cons h hs, e => by
    unfold toPs at e
    cases z : toP d with
    | none => rw [z] at e; cases e
    | some q =>
      rw [z] at e
      cases z' : toPs ds with
      | none => rw [z'] at e; cases e
      | some q' => rw [z'] at e; cases e; exact .cons (dp_of d h z) (dps_of ds hs z')
end
def eqDat (d e : D) : Option Bool := match toP d, toP e with
  | some a, some b => if SeqAt.shaped a = true ∧ SeqAt.shaped b = true then some (PyData.eqv a b) else none
  | _, _ => none
def eqD (d e : D) : Option XV := (eqDat d e).map xbl
def neD (d e : D) : Option XV := (eqDat d e).map fun b => xbl (!b)
theorem eqDat_some {d e : D} {b : Bool} (h : eqDat d e = some b) : ∃ p q, toP d = some p ∧ toP e = some q ∧ SeqAt.shaped p = true ∧ SeqAt.shaped q = true ∧ b = PyData.eqv p q := by
  unfold eqDat at h
  cases z : toP d with
  | none => rw [z] at h; cases h
  | some p =>
    cases z' : toP e with
    | none => rw [z, z'] at h; cases h
    | some q =>
      rw [z, z'] at h
      dsimp only at h
      split at h
      · cases h; rename_i q; exact ⟨_, _, rfl, rfl, q.1, q.2, rfl⟩
      · cases h
theorem eqD_ok {C : Cst} : Op2Ok C (rEqD C.K) eqD := by
  intro W σ ρ H G v w d e x Q rl t1 t2 eq k
  unfold eqD at eq
  cases z : eqDat d e with
  | none => rw [z] at eq; cases eq
  | some b =>
    rw [z] at eq; cases eq
    obtain ⟨p, q, h1, h2, h3, h4, rfl⟩ := eqDat_some z
    exact ⟨p, q, dp_of d (t1.isD rl.gh) h1, dp_of e (t2.isD rl.gh) h2, h3, h4, rl.back (.bl _) k⟩
theorem neD_ok {C : Cst} : Op2Ok C (rNeD C.K) neD := by
  intro W σ ρ H G v w d e x Q rl t1 t2 eq k
  unfold neD at eq
  cases z : eqDat d e with
  | none => rw [z] at eq; cases eq
  | some b =>
    rw [z] at eq; cases eq
    obtain ⟨p, q, h1, h2, h3, h4, rfl⟩ := eqDat_some z
    exact ⟨p, q, dp_of d (t1.isD rl.gh) h1, dp_of e (t2.isD rl.gh) h2, h3, h4, rl.back (.bl _) k⟩
/-! ## is None, is True, is False -/
def rIsC (neg : Bool) : R2 := fun x y H Q => (y = .non ∨ ∃ b, y = .bl b) ∧ Q (.bl (if neg then !decide (x = y) else decide (x = y))) H
theorem plain_of {x y : V} {v u : Value} (rx : RelV x v) (ry : RelV y u) (h : y = .non ∨ ∃ b, y = .bl b) : plainIs v u = true ∧ (v == u) = decide (x = y) := by
  rcases h with rfl | ⟨b, rfl⟩
  · have e : u = Value.none := ry
    subst e
    refine ⟨?_, RelV.none_iff rx⟩
    cases x <;> (first | (obtain ⟨t, rfl⟩ := rx; rfl) | (have q := rx; unfold RelV at q; subst q; rfl))
  · have e : u = Value.bool b := ry
    subst e
    cases x with
    | bl c =>
      have q : v = Value.bool c := rx
      subst q
      refine ⟨rfl, ?_⟩
      cases b <;> cases c <;> rfl
    | non => have q : v = Value.none := rx; subst q; exact ⟨rfl, rfl⟩
    | int i => obtain ⟨t, rfl⟩ := rx; exact ⟨rfl, rfl⟩
    | str i => obtain ⟨t, rfl⟩ := rx; exact ⟨rfl, rfl⟩
    | byt i => obtain ⟨t, rfl⟩ := rx; exact ⟨rfl, rfl⟩
    | flt i => obtain ⟨t, rfl⟩ := rx; exact ⟨rfl, rfl⟩
    | ref a => have q : v = Value.ref a := rx; subst q; exact ⟨rfl, rfl⟩
    | ty n => have q : v = Value.type n := rx; subst q; exact ⟨rfl, rfl⟩
theorem op_isC {X : Cx} : OpR X (compareOp .Is) (rIsC false) := by
  intro pins s σ H x y v u Q I rx ry h
  obtain ⟨p, e⟩ := plain_of rx ry h.1
  refine wpAny_is_plain p ⟨.bl _, H, I, ?_, h.2⟩
  rw [e]; rfl
theorem op_isNotC {X : Cx} : OpR X (compareOp .IsNot) (rIsC true) := by
  intro pins s σ H x y v u Q I rx ry h
  obtain ⟨p, e⟩ := plain_of rx ry h.1
  refine wpAny_isNot_plain p ⟨.bl _, H, I, ?_, h.2⟩
  rw [e]; rfl
/-- whether it is that constant -/
def isC : D → D → Bool
  | .non, .non => true
  | .bl a, .bl b => a == b
  | _, _ => false
def cstD : D → Bool
  | .non => true
  | .bl _ => true
  | _ => false
def isD (d e : D) : Option XV := if cstD e = true then some (xbl (isC d e)) else none
def isNotD (d e : D) : Option XV := if cstD e = true then some (xbl (!isC d e)) else none
theorem isC_of {C : Cst} {H : Hp} {v w : V} {d e : D} (h : IsD C H v d) (k : IsD C H w e) (c : cstD e = true) : (w = .non ∨ ∃ b, w = .bl b) ∧ decide (v = w) = isC d e := by
  cases k <;> first | (cases c; done) | skip
  · refine ⟨.inl rfl, ?_⟩
    cases h <;> rfl
  · refine ⟨.inr ⟨_, rfl⟩, ?_⟩
    cases h <;> first | rfl | skip
    rename_i b a
    cases a <;> cases b <;> rfl
theorem isD_ok {C : Cst} : Op2Ok C (rIsC false) isD := by
  intro W σ ρ H G v w d e x Q rl t1 t2 eq k
  unfold isD at eq
  split at eq
  · cases eq
    rename_i c
    obtain ⟨h1, h2⟩ := isC_of (t1.isD rl.gh) (t2.isD rl.gh) c
    refine ⟨h1, ?_⟩
    show Q (.bl (decide (v = w))) H
    rw [h2]
    exact rl.back (.bl _) k
  · cases eq
theorem isNotD_ok {C : Cst} : Op2Ok C (rIsC true) isNotD := by
  intro W σ ρ H G v w d e x Q rl t1 t2 eq k
  unfold isNotD at eq
  split at eq
  · cases eq
    rename_i c
    obtain ⟨h1, h2⟩ := isC_of (t1.isD rl.gh) (t2.isD rl.gh) c
    refine ⟨h1, ?_⟩
    show Q (.bl (!decide (v = w))) H
    rw [h2]
    exact rl.back (.bl _) k
  · cases eq

/-! ## in, not in -/
def rInG (K : PySem.W.Frag) (neg : Bool) : R2 := fun x y H Q => ∃ d e ds, Dp K H x d ∧ Dp K H y e ∧ (e = .list ds ∨ e = .tuple ds) ∧ SeqAt.shaped d = true ∧ PyData.canLayAll0 ds = true ∧ Q (.bl (if neg then !(ds.any fun z => PyData.eqv z d) else ds.any fun z => PyData.eqv z d)) H
theorem op_inG {X : Cx} (hu : X.A.units + 65 < cLine) : OpR X (compareOp .In) (rInG X.K false) := by
  intro pins s σ H x y v u Q I rx ry h
  obtain ⟨d, e, ds, hd, he, hk, sd, sl, q⟩ := h
  obtain ⟨as, r1⟩ := Dp.reads I d x v hd rx
  obtain ⟨bs, r2⟩ := Dp.reads I e y u he ry
  rcases hk with rfl | rfl
  · exact SeqAt.in_list_reads r2 r1 sl (SeqAt.canLay_of_shaped sd) (PyProof.Rows.room_in_shaped sd hu) ⟨.bl _, H, I, rfl, q⟩
  · exact SeqAt.in_tuple_reads r2 r1 sl (SeqAt.canLay_of_shaped sd) (PyProof.Rows.room_in_shaped sd hu) ⟨.bl _, H, I, rfl, q⟩
theorem op_notInG {X : Cx} (hu : X.A.units + 65 < cLine) : OpR X (compareOp .NotIn) (rInG X.K true) := by
  intro pins s σ H x y v u Q I rx ry h
  obtain ⟨d, e, ds, hd, he, hk, sd, sl, q⟩ := h
  obtain ⟨as, r1⟩ := Dp.reads I d x v hd rx
  obtain ⟨bs, r2⟩ := Dp.reads I e y u he ry
  rcases hk with rfl | rfl
  · exact SeqAt.notIn_list_reads r2 r1 sl (SeqAt.canLay_of_shaped sd) (PyProof.Rows.room_in_shaped sd hu) ⟨.bl _, H, I, rfl, q⟩
  · exact SeqAt.notIn_tuple_reads r2 r1 sl (SeqAt.canLay_of_shaped sd) (PyProof.Rows.room_in_shaped sd hu) ⟨.bl _, H, I, rfl, q⟩
def inDat (d e : D) : Option Bool := match seqD e with
  | some l => match toP d, toPs l with
    | some p, some ps => if SeqAt.shaped p = true ∧ PyData.canLayAll0 ps = true then some (ps.any fun z => PyData.eqv z p) else none
    | _, _ => none
  | none => none
def inS (d e : D) : Option XV := (inDat d e).map xbl
def notInS (d e : D) : Option XV := (inDat d e).map fun b => xbl (!b)
theorem inDat_some {C : Cst} {H G : Hp} {v w : V} {d e : D} {b : Bool} (g : Ge G H) (h : inDat d e = some b) (t1 : Top C H G v d) (t2 : Top C H G w e) :
    ∃ p q ds, Dp C.K H v p ∧ Dp C.K H w q ∧ (q = .list ds ∨ q = .tuple ds) ∧ SeqAt.shaped p = true ∧ PyData.canLayAll0 ds = true ∧ b = ds.any fun z => PyData.eqv z p := by
  unfold inDat at h
  cases zs : seqD e with
  | none => rw [zs] at h; cases h
  | some l =>
    rw [zs] at h
    dsimp only at h
    cases z : toP d with
    | none => rw [z] at h; cases h
    | some p =>
      cases z' : toPs l with
      | none => rw [z, z'] at h; cases h
      | some ps =>
        rw [z, z'] at h
        dsimp only at h
        split at h
        · cases h
          rename_i q
          obtain ⟨a, xs, rfl, h1, h2⟩ := t2.seq g zs
          have dps := dps_of l (h2.ge g) z'
          rcases h1 with h1 | h1
          · exact ⟨p, _, ps, dp_of d (t1.isD g) z, .lst h1 dps, .inl rfl, q.1, q.2, rfl⟩
          · exact ⟨p, _, ps, dp_of d (t1.isD g) z, .tup h1 dps, .inr rfl, q.1, q.2, rfl⟩
        · cases h
theorem inS_ok {C : Cst} : Op2Ok C (rInG C.K false) inS := by
  intro W σ ρ H G v w d e x Q rl t1 t2 eq k
  unfold inS at eq
  cases z : inDat d e with
  | none => rw [z] at eq; cases eq
  | some b =>
    rw [z] at eq; cases eq
    obtain ⟨p, q, ds, h1, h2, h3, h4, h5, rfl⟩ := inDat_some rl.gh z t1 t2
    exact ⟨p, q, ds, h1, h2, h3, h4, h5, rl.back (.bl _) k⟩
theorem notInS_ok {C : Cst} : Op2Ok C (rInG C.K true) notInS := by
  intro W σ ρ H G v w d e x Q rl t1 t2 eq k
  unfold notInS at eq
  cases z : inDat d e with
  | none => rw [z] at eq; cases eq
  | some b =>
    rw [z] at eq; cases eq
    obtain ⟨p, q, ds, h1, h2, h3, h4, h5, rfl⟩ := inDat_some rl.gh z t1 t2
    exact ⟨p, q, ds, h1, h2, h3, h4, h5, rl.back (.bl _) k⟩

/-! ## rules -/
section
variable {ι : Type} {J : Jd} {Xs : ι → Cx} {a b c : Expr} {f g h : Env → R XV} {pos : Pos}
theorem Good.units {X : Cx} (G : Good J X) : X.A.units + 64 < cLine := G.hr.units
theorem Good.units65 {X : Cx} (G : Good J X) : X.A.units + 65 < cLine := by have := G.hr.un; omega
theorem ce_add (ha : CE J Xs a f) (hb : CE J Xs b g) : CE J Xs (.BinOp a .Add b pos) (op2S addD f g) :=
  ce_op (fun X G => by have := OpR.or (OpR.or (OpR.or (op_add (X := X)) op_cat) op_catA) op_add_str; rw [G.hK] at this; exact this) (((addI_ok.or catD_ok).or catT_ok).or catS_ok) ha hb
theorem ce_sub (ha : CE J Xs a f) (hb : CE J Xs b g) : CE J Xs (.BinOp a .Sub b pos) (op2S subD f g) := ce_op (fun X G => op_sub) subD_ok ha hb
theorem ce_fdiv (ha : CE J Xs a f) (hb : CE J Xs b g) : CE J Xs (.BinOp a .FloorDiv b pos) (op2S fdivD f g) := ce_op (fun X G => op_fdivW) fdivD_ok ha hb
theorem ce_mod (ha : CE J Xs a f) (hb : CE J Xs b g) : CE J Xs (.BinOp a .Mod b pos) (op2S modD f g) := ce_op (fun X G => op_mod) modD_ok ha hb
theorem ce_pow (ha : CE J Xs a f) (hb : CE J Xs b g) : CE J Xs (.BinOp a .Pow b pos) (op2S powD f g) := ce_op (fun X G => op_pow) powD_ok ha hb
theorem ce_neg (ha : CE J Xs a f) : CE J Xs (.UnaryOp .USub a pos) (op1S negD f) := ce_un (fun X G => un_neg) negD_ok ha
theorem ok_lt : ∀ X, Good J X → OpR X (compareOp .Lt) (rI0 fun i j => .bl (decide (i < j))) := fun X G => op_lt
theorem ok_le : ∀ X, Good J X → OpR X (compareOp .LtE) (rI0 fun i j => .bl (decide (i ≤ j))) := fun X G => op_le
theorem ok_gt : ∀ X, Good J X → OpR X (compareOp .Gt) (rI0 fun i j => .bl (decide (j < i))) := fun X G => op_gt
theorem ok_ge : ∀ X, Good J X → OpR X (compareOp .GtE) (rI0 fun i j => .bl (decide (j ≤ i))) := fun X G => op_ge
theorem ok_eq : ∀ X, Good J X → OpR X (compareOp .Eq) (rEqD J.C.K) := fun X G => by rw [← G.hK]; exact op_eqD G.units
theorem ok_ne : ∀ X, Good J X → OpR X (compareOp .NotEq) (rNeD J.C.K) := fun X G => by rw [← G.hK]; exact op_neD G.units
theorem ok_is : ∀ X, Good J X → OpR X (compareOp .Is) (rIsC false) := fun X G => op_isC
theorem ok_isNot : ∀ X, Good J X → OpR X (compareOp .IsNot) (rIsC true) := fun X G => op_isNotC
theorem ok_in : ∀ X, Good J X → OpR X (compareOp .In) (rInG J.C.K false) := fun X G => by rw [← G.hK]; exact op_inG G.units65
theorem ok_notIn : ∀ X, Good J X → OpR X (compareOp .NotIn) (rInG J.C.K true) := fun X G => by rw [← G.hK]; exact op_notInG G.units65
end
end DL
namespace DL
open PySem L2

/-! ## * -/
def repT : D → D → Option XV
  | .tup a, .int k => if 2 ≤ k ∧ k.natAbs ≤ 1000 ∧ a.length ≤ 1000 ∧ a.isEmpty = false then some (.dat (.tup (List.replicate k.toNat a).flatten)) else none
  | _, _ => none
theorem repT_ok {C : Cst} : Op2Ok C (rRepT C.K) repT := by
  intro W σ ρ H G v w d e x Q rl t1 t2 eq k
  cases d <;> cases e <;> first | (unfold repT at eq; cases eq; done) | skip
  unfold repT at eq
  dsimp only at eq
  split at eq
  · cases eq
    rename_i q
    obtain ⟨a, xs, rfl, h1, h2⟩ := t1.tup rl.gh
    refine ⟨a, _, xs, rfl, t2.int, h1, fun z => ?_, q.1, by have := q.2.1; omega, by rw [h2.length]; exact q.2.2.1, fun p hp => rl.backTup (h2.rep _) k hp⟩
    subst z
    cases h2
    cases q.2.2.2
  · cases eq
def mulD (d e : D) : Option XV := ((mulI d e).or (repD d e)).or (repT d e)
theorem ce_mul {ι : Type} {J : Jd} {Xs : ι → Cx} {a b : Expr} {f g : Env → R XV} {pos : Pos} (ha : CE J Xs a f) (hb : CE J Xs b g) : CE J Xs (.BinOp a .Mult b pos) (op2S mulD f g) :=
  ce_op (fun X G => by have := OpR.or (OpR.or (op_mulW (X := X)) op_rep) op_repT; rw [G.hK] at this; exact this) ((mulI_ok.or repD_ok).or repT_ok) ha hb

/-! ## a[i] -/
def keyD : D → Option Key
  | .int i => some (.inl i)
  | .str s => some (.inr s)
  | _ => none
def dgetD : List Key → List D → Key → Option D
  | k :: ks, v :: vs, q => if k = q then some v else dgetD ks vs q
  | _, _, _ => none
theorem dget_of {C : Cst} {G : Hp} {q : Key} : ∀ {kvs : List (Key × V)} {vs : List D}, IsDs C G (kvs.map Prod.snd) vs →
    (∀ d, dgetD (kvs.map Prod.fst) vs q = some d → ∃ v, valV kvs q = some v ∧ IsD C G v d) ∧ (dgetD (kvs.map Prod.fst) vs q = none → valV kvs q = none)
  | [], _, .nil => ⟨fun d e => (by cases e), fun _ => rfl⟩
  | p :: kvs, d :: ds, .cons h hs => by
    have ih := dget_of (q := q) hs
    by_cases e : p.1 = q
    · refine ⟨fun d' z => ?_, fun z => ?_⟩
      · simp only [List.map_cons, dgetD, if_pos e] at z
        cases z
        exact ⟨p.2, valV_pos e, h⟩
      · simp only [List.map_cons, dgetD, if_pos e] at z
        cases z
    · refine ⟨fun d' z => ?_, fun z => ?_⟩
      · simp only [List.map_cons, dgetD, if_neg e] at z
        obtain ⟨v, h1, h2⟩ := ih.1 d' z
        exact ⟨v, by rw [valV_neg e]; exact h1, h2⟩
      · simp only [List.map_cons, dgetD, if_neg e] at z
        rw [valV_neg e]
        exact ih.2 z
theorem keyD_of {C : Cst} {H G : Hp} {v : V} {d : D} {q : Key} (t : Top C H G v d) (e : keyD d = some q) : v = kV q := by
  cases d <;> cases e
  · exact t.int
  · exact t.str
def ixL : D → D → Option XV
  | .lst l, .int i => (atI l i).map .dat
  | .rol l, .int i => (atI l i).map .dat
  | _, _ => none
def ixT : D → D → Option XV
  | .tup l, .int i => (atI l i).map .dat
  | _, _ => none
def ixS : D → D → Option XV
  | .str z, .int i => if z.length ≤ LIM then (atI z.cps.toList i).map fun c => .dat (.str ⟨#[c]⟩) else none
  | _, _ => none
def ixD : D → D → Option XV
  | .dct ks vs, k => (keyD k).bind fun q => (dgetD ks vs q).map .dat
  | _, _ => none
theorem atI_of {C : Cst} {G : Hp} {xs : List V} {ds : List D} {i : Int} {d : D} (h : IsDs C G xs ds) (e : atI ds i = some d) : ∃ v, atI xs i = some v ∧ IsD C G v d := by
  unfold atI at e ⊢
  rw [h.length]
  cases z : ixN ds.length i with
  | none => rw [z] at e; cases e
  | some j =>
    rw [z] at e
    exact h.get e
section
variable {C : Cst} {W : Fm} {σ : St} {ρ : Env} {H G : Hp}
theorem ixL_one (rl : Rel C W σ ρ H G) {a : Addr} {xs : List V} {l : List D} {i : Int} {x : XV} {Q : VK} (h1 : SqL C.K H a xs) (h2 : IsDs C G xs l) (eq : (atI l i).map XV.dat = some x)
    (k : ∀ v' H' G', Ge G G' → Rel C W σ ρ H' G' → VOk C W σ ρ H' G' v' x → Q v' H') : rIxL C.K (.ref a) (.int i) H Q := by
  cases z : atI l i with
  | none => rw [z] at eq; cases eq
  | some y =>
    rw [z] at eq; cases eq
    obtain ⟨u, h3, h4⟩ := atI_of h2 z
    exact ⟨a, xs, i, u, rfl, rfl, h1, h3, rl.back h4 k⟩
theorem ixL_ok : Op2Ok C (rIxL C.K) ixL := by
  intro W σ ρ H G v w d e x Q rl t1 t2 eq k
  cases d <;> first | (cases eq; done) | skip
  · cases e <;> first | (cases eq; done) | skip
    obtain ⟨a, xs, rfl, h1, h2⟩ := t1.lst rl.gh
    rw [t2.int]
    exact ixL_one rl (SqL.of h1) h2 eq k
  · cases e <;> first | (cases eq; done) | skip
    obtain ⟨a, xs, rfl, h1, h2⟩ := t1.rol rl.gh
    rw [t2.int]
    exact ixL_one rl h1 h2 eq k
theorem ixT_ok : Op2Ok C (rIxT C.K) ixT := by
  intro W σ ρ H G v w d e x Q rl t1 t2 eq k
  cases d <;> first | (cases eq; done) | skip
  cases e <;> first | (cases eq; done) | skip
  rename_i l i
  obtain ⟨a, xs, rfl, h1, h2⟩ := t1.tup rl.gh
  rw [t2.int]
  unfold ixT at eq
  dsimp only at eq
  cases z : atI l i with
  | none => rw [z] at eq; cases eq
  | some y =>
    rw [z] at eq; cases eq
    obtain ⟨u, h3, h4⟩ := atI_of h2 z
    exact ⟨a, xs, i, u, rfl, rfl, h1, h3, rl.back h4 k⟩
theorem ixS_ok : Op2Ok C rIxS ixS := by
  intro W σ ρ H G v w d e x Q rl t1 t2 eq k
  cases d <;> first | (cases eq; done) | skip
  cases e <;> first | (cases eq; done) | skip
  rename_i l i
  unfold ixS at eq
  dsimp only at eq
  split at eq
  · rename_i hl
    cases z : atI l.cps.toList i with
    | none => rw [z] at eq; cases eq
    | some y =>
      rw [z] at eq; cases eq
      exact ⟨l, i, y, t1.str, t2.int, lim_le hl, z, rl.back (.str _) k⟩
  · cases eq
def rDGet : R2 := fun x y H Q => ∃ a v, x = .ref a ∧ DGet H a y (some v) ∧ Q v H
theorem ixD_ok : Op2Ok C rDGet ixD := by
  intro W σ ρ H G v w d e x Q rl t1 t2 eq k
  cases d <;> first | (cases eq; done) | skip
  rename_i ks vs
  unfold ixD at eq
  dsimp only at eq
  cases z : keyD e with
  | none => rw [z] at eq; cases eq
  | some q =>
    rw [z] at eq
    dsimp only [Option.bind] at eq
    obtain ⟨a, kvs, rfl, h1, rfl, h2⟩ := t1.dct rl.gh
    cases z' : dgetD (kvs.map Prod.fst) vs q with
    | none => rw [z'] at eq; cases eq
    | some y =>
      rw [z'] at eq; cases eq
      obtain ⟨u, h3, h4⟩ := (dget_of (q := q) h2).1 y z'
      rw [keyD_of t2 z]
      refine ⟨a, u, rfl, ?_, rl.back h4 k⟩
      rw [← h3]
      exact Or.inl ⟨_, _, h1, rfl, rfl⟩
end
def ixA (d e : D) : Option XV := ((ixL d e).or ((ixT d e).or (ixS d e))).or (ixD d e)
theorem PE.or {X : Cx} {e : Expr} {t u : TE} (h : PE X e t) (h' : PE X e u) : PE X e (fun σ H Q => t σ H Q ∨ u σ H Q) :=
  ⟨fun pins s σ H Q I q => q.elim (h.run pins s σ H Q I) (h'.run pins s σ H Q I)⟩
theorem plainIx_noSl {b : Expr} (h : PlainIx b) : NoSl b := h
theorem op2S_or {p q : D → D → Option XV} {f g : Env → R XV} (ρ : Env) : op2S (fun d e => (p d e).or (q d e)) f g ρ = op2S p f g ρ ∨ op2S (fun d e => (p d e).or (q d e)) f g ρ = op2S q f g ρ := by
  unfold op2S
  cases opnd f ρ with
  | stuck => exact .inl rfl
  | exc _ _ _ _ => exact .inl rfl
  | ok x ρ1 =>
    dsimp only [R.bind]
    cases opnd g ρ1 with
    | stuck => exact .inl rfl
    | exc _ _ _ _ => exact .inl rfl
    | ok y ρ2 =>
      dsimp only
      unfold app2
      cases cont ρ2 x with
      | none => exact .inl rfl
      | some d =>
        cases cont ρ2 y with
        | none => exact .inl rfl
        | some e =>
          dsimp only
          cases z : p d e with
          | some w => exact .inl rfl
          | none => exact .inr rfl
theorem EvE.or {J : Jd} {t u : TE} {f f1 f2 : Env → R XV} (h1 : EvE J t f1) (h2 : EvE J u f2) (h : ∀ ρ, f ρ = f1 ρ ∨ f ρ = f2 ρ) : EvE J (fun σ H Q => t σ H Q ∨ u σ H Q) f := by
  intro W σ ρ H G Q pk rl g
  rcases h ρ with e | e
  · rw [e] at g; exact .inl (h1 W σ ρ H G Q pk rl g)
  · rw [e] at g; exact .inr (h2 W σ ρ H G Q pk rl g)
section
variable {ι : Type} {J : Jd} {Xs : ι → Cx} {a b c e : Expr} {es : List Expr} {f g h : Env → R XV} {fs : Env → R (List XV)} {pos : Pos}
theorem ixA_ok (C : Cst) : Op2Ok C (fun x y H Q => rIxL C.K x y H Q ∨ rIxT C.K x y H Q ∨ rIxS x y H Q) (fun d e => (ixL d e).or ((ixT d e).or (ixS d e))) := ixL_ok.or (ixT_ok.or ixS_ok)
/-- a[b] -/
theorem ce_ix (ha : CE J Xs a f) (hb : CE J Xs b g) (hs : PlainIx b := by intro _ _; rfl) : CE J Xs (.Subscript a b pos) (op2S ixA f g) := by
  obtain ⟨ta, a1, a2⟩ := ha
  obtain ⟨tb, b1, b2⟩ := hb
  refine ⟨fun σ H Q => tOp (rIx J.C.K) ta tb σ H Q ∨ tOp rDGet ta tb σ H Q, fun i G => ?_, ?_⟩
  · have h1 := pe_ix (pos := pos) (ix_seq (X := Xs i)) (a1 i G) (b1 i G) hs
    have h2 := pe_dget (pos := pos) (X := Xs i) (by have := G.units; omega) (a1 i G) (b1 i G) hs
    rw [G.hK] at h1
    exact PE.or h1 h2
  · exact EvE.or (ev_op2 a2 b2 (ixA_ok J.C)) (ev_op2 a2 b2 ixD_ok) fun ρ => op2S_or ρ

/-! ## built-ins -/
variable {C : Cst}
theorem Tops.one {H G : Hp} {vs : List V} {d : D} (h : Tops C H G vs [d]) : ∃ v, vs = [v] ∧ Top C H G v d := by
  cases h with
  | cons a b => cases b; exact ⟨_, rfl, a⟩
theorem Tops.two {H G : Hp} {vs : List V} {d e : D} (h : Tops C H G vs [d, e]) : ∃ v w, vs = [v, w] ∧ Top C H G v d ∧ Top C H G w e := by
  cases h with
  | cons a b => cases b with
    | cons b c => cases c; exact ⟨_, _, rfl, a, b⟩
def rOr (r r' : List V → Hp → VK → Prop) : List V → Hp → VK → Prop := fun x H Q => r x H Q ∨ r' x H Q
/-- len -/
def lenQ : List D → Option XV
  | [d] => (seqD d).map fun l => xint l.length
  | _ => none
def lenS : List D → Option XV
  | [.str z] => if z.length ≤ LIM then some (xint z.length) else none
  | _ => none
def lenK : List D → Option XV
  | [.dct ks _] => some (xint ks.length)
  | _ => none
theorem lenQ_ok : OpNOk C (fun xs H Q => ∃ p ys, xs = [.ref p] ∧ (SqL C.K H p ys ∨ SqT C.K H p ys) ∧ Q (.int ys.length) H) lenQ := by
  intro W σ ρ H G vs ds x Q rl t eq k
  unfold lenQ at eq
  split at eq
  · rename_i d
    cases z : seqD d with
    | none => rw [z] at eq; cases eq
    | some l =>
      rw [z] at eq; cases eq
      obtain ⟨v, rfl, t0⟩ := t.one
      obtain ⟨a, xs, rfl, h1, h2⟩ := t0.seq rl.gh z
      refine ⟨a, xs, rfl, h1, ?_⟩
      rw [h2.length]
      exact rl.back (.int _) k
  · cases eq
theorem lenS_ok : OpNOk C (fun xs H Q => ∃ z, xs = [.str z] ∧ z.length ≤ sizeLine ∧ Q (.int z.length) H) lenS := by
  intro W σ ρ H G vs ds x Q rl t eq k
  unfold lenS at eq
  split at eq
  · split at eq
    · cases eq
      rename_i h
      obtain ⟨v, rfl, t0⟩ := t.one
      rw [t0.str]
      exact ⟨_, rfl, lim_le h, rl.back (.int _) k⟩
    · cases eq
  · cases eq
theorem call_lenR {X : Cx} : CallR X (.builtin "len") (fun xs H Q => ∃ a kvs, xs = [V.ref a] ∧ Rd H a (.dK kvs) ∧ Q (.int kvs.length) H) := by
  intro pins s σ H xs us Q I rv ⟨a, kvs, e, ha, q⟩
  subst e
  obtain ⟨u, e, ru⟩ := vals1 rv
  subst e
  cases ru
  exact d_len I ha fun t s2 I2 => ⟨V.int kvs.length, H, I2, ⟨t, rfl⟩, q⟩
theorem lenK_ok : OpNOk C (fun xs H Q => ∃ a kvs, xs = [V.ref a] ∧ Rd H a (.dK kvs) ∧ Q (.int kvs.length) H) lenK := by
  intro W σ ρ H G vs ds x Q rl t eq k
  unfold lenK at eq
  split at eq
  · cases eq
    obtain ⟨v, rfl, t0⟩ := t.one
    obtain ⟨a, kvs, rfl, h1, rfl, h2⟩ := t0.dct rl.gh
    refine ⟨a, kvs, rfl, h1, ?_⟩
    rw [← List.length_map (f := Prod.fst)]
    exact rl.back (.int _) k
  · cases eq
def lenD (l : List D) : Option XV := (lenQ l).or ((lenS l).or (lenK l))
theorem ce_len {p : Pos} (hm : ∀ i, (Xs i).mg "len" = none) (ha : CA_ J Xs [e] fs) (hg : ∀ i, Gl (Xs i) "len" := by intro _; rfl) (he : ∀ i, starEach [e] (Xs i).env = (false, eval e (Xs i).env) :: starEach [] (Xs i).env := by intro _; rfl)
    (hpl : ∀ i, (backTo pos (starEach [] (Xs i).env)).any (·.1) = false := by intro _; rfl) : CE J Xs (.Call (.Name "len" p) [e] [] pos) (callS lenD fs) :=
  ce_callB (fun X G => by have := CallR.or (call_len_seq (X := X)) (CallR.or call_len_str call_lenR); rw [G.hK] at this; exact this) (lenQ_ok.or (lenS_ok.or lenK_ok)) hm (by decide +kernel) ha hg (by decide) (by decide) he hpl
/-- ints, bools out of data -/
def intsD : List D → Option (List Int)
  | [] => some []
  | .int i :: r => (intsD r).map (i :: ·)
  | _ :: _ => none
def blsD : List D → Option (List Bool)
  | [] => some []
  | .bl i :: r => (blsD r).map (i :: ·)
  | _ :: _ => none
theorem ints_of {G : Hp} : ∀ {xs : List V} {ds : List D} {ns : List Int}, IsDs C G xs ds → intsD ds = some ns → xs = ns.map V.int
  | _, _, _, .nil, e => by cases e; rfl
  | _, d :: ds, ns, .cons h hs, e => by
    cases d <;> first | (cases e; done) | skip
    unfold intsD at e
    cases z : intsD ds with
    | none => rw [z] at e; cases e
    | some ms => rw [z] at e; cases e; cases h; rw [ints_of hs z]; rfl
theorem bls_of {G : Hp} : ∀ {xs : List V} {ds : List D} {ns : List Bool}, IsDs C G xs ds → blsD ds = some ns → xs = ns.map V.bl
  | _, _, _, .nil, e => by cases e; rfl
  | _, d :: ds, ns, .cons h hs, e => by
    cases d <;> first | (cases e; done) | skip
    unfold blsD at e
    cases z : blsD ds with
    | none => rw [z] at e; cases e
    | some ms => rw [z] at e; cases e; cases h; rw [bls_of hs z]; rfl
/-- sum, all, any of a list -/
def lstD : D → Option (List D)
  | .lst l => some l
  | .rol l => some l
  | _ => none
theorem Top.lstD {H G : Hp} {v : V} {d : D} {ds : List D} (t : Top C H G v d) (g : Ge G H) (e : lstD d = some ds) : ∃ a xs, v = .ref a ∧ SqL C.K H a xs ∧ IsDs C G xs ds := by
  cases d <;> cases e
  · obtain ⟨a, xs, h1, h2, h3⟩ := t.lst g; exact ⟨a, xs, h1, SqL.of h2, h3⟩
  · obtain ⟨a, xs, h1, h2, h3⟩ := t.rol g; exact ⟨a, xs, h1, h2, h3⟩
def sumL : List D → Option XV
  | [d] => (lstD d).bind fun l => (intsD l).map fun ns => xint ns.sum
  | _ => none
def allL : List D → Option XV
  | [d] => (lstD d).bind fun l => (blsD l).map fun bs => xbl (bs.all id)
  | _ => none
def anyL : List D → Option XV
  | [d] => (lstD d).bind fun l => (blsD l).map fun bs => xbl (bs.any id)
  | _ => none
theorem sumL_ok : OpNOk C (rSum C.K) sumL := by
  intro W σ ρ H G vs ds x Q rl t eq k
  unfold sumL at eq
  split at eq
  · rename_i d
    cases z : lstD d with
    | none => rw [z] at eq; cases eq
    | some l =>
      rw [z] at eq
      dsimp only [Option.bind] at eq
      cases z' : intsD l with
      | none => rw [z'] at eq; cases eq
      | some ns =>
        rw [z'] at eq; cases eq
        obtain ⟨v, rfl, t0⟩ := t.one
        obtain ⟨a, xs, rfl, h1, h2⟩ := t0.lstD rl.gh z
        have := ints_of h2 z'
        subst this
        exact ⟨a, ns, rfl, h1, rl.back (.int _) k⟩
  · cases eq
theorem allL_ok : OpNOk C (rAll C.K) allL := by
  intro W σ ρ H G vs ds x Q rl t eq k
  unfold allL at eq
  split at eq
  · rename_i d
    cases z : lstD d with
    | none => rw [z] at eq; cases eq
    | some l =>
      rw [z] at eq
      dsimp only [Option.bind] at eq
      cases z' : blsD l with
      | none => rw [z'] at eq; cases eq
      | some ns =>
        rw [z'] at eq; cases eq
        obtain ⟨v, rfl, t0⟩ := t.one
        obtain ⟨a, xs, rfl, h1, h2⟩ := t0.lstD rl.gh z
        have := bls_of h2 z'
        subst this
        exact ⟨a, ns, rfl, h1, rl.back (.bl _) k⟩
  · cases eq
theorem anyL_ok : OpNOk C (rAny C.K) anyL := by
  intro W σ ρ H G vs ds x Q rl t eq k
  unfold anyL at eq
  split at eq
  · rename_i d
    cases z : lstD d with
    | none => rw [z] at eq; cases eq
    | some l =>
      rw [z] at eq
      dsimp only [Option.bind] at eq
      cases z' : blsD l with
      | none => rw [z'] at eq; cases eq
      | some ns =>
        rw [z'] at eq; cases eq
        obtain ⟨v, rfl, t0⟩ := t.one
        obtain ⟨a, xs, rfl, h1, h2⟩ := t0.lstD rl.gh z
        have := bls_of h2 z'
        subst this
        exact ⟨a, ns, rfl, h1, rl.back (.bl _) k⟩
  · cases eq
variable {p : Pos} (he : ∀ i, starEach [e] (Xs i).env = (false, eval e (Xs i).env) :: starEach [] (Xs i).env := by intro _; rfl) (hpl : ∀ i, (backTo pos (starEach [] (Xs i).env)).any (·.1) = false := by intro _; rfl)
include he hpl
theorem ce_sum (hm : ∀ i, (Xs i).mg "sum" = none) (ha : CA_ J Xs [e] fs) (hg : ∀ i, Gl (Xs i) "sum" := by intro _; rfl) : CE J Xs (.Call (.Name "sum" p) [e] [] pos) (callS sumL fs) :=
  ce_callB (fun X G => by have := cr_sum (X := X) G.calm; rw [G.hK] at this; exact this) sumL_ok hm (by decide +kernel) ha hg (by decide) (by decide) he hpl
theorem ce_all (hm : ∀ i, (Xs i).mg "all" = none) (ha : CA_ J Xs [e] fs) (hg : ∀ i, Gl (Xs i) "all" := by intro _; rfl) : CE J Xs (.Call (.Name "all" p) [e] [] pos) (callS allL fs) :=
  ce_callB (fun X G => by have := cr_all (X := X) G.calm; rw [G.hK] at this; exact this) allL_ok hm (by decide +kernel) ha hg (by decide) (by decide) he hpl
theorem ce_any (hm : ∀ i, (Xs i).mg "any" = none) (ha : CA_ J Xs [e] fs) (hg : ∀ i, Gl (Xs i) "any" := by intro _; rfl) : CE J Xs (.Call (.Name "any" p) [e] [] pos) (callS anyL fs) :=
  ce_callB (fun X G => by have := cr_any (X := X) G.calm; rw [G.hK] at this; exact this) anyL_ok hm (by decide +kernel) ha hg (by decide) (by decide) he hpl
omit he hpl
/-- list(..), tuple(..) of a list or tuple -/
def listL : List D → Option XV
  | [d] => (seqD d).map fun l => .own (.lst l)
  | _ => none
def tupL : List D → Option XV
  | [.tup l] => some (.dat (.tup l))
  | [d] => (lstD d).map fun l => .dat (.tup l)
  | _ => none
theorem listL_ok : OpNOk C (fun xs H Q => ∃ p ys, xs = [.ref p] ∧ (SqL C.K H p ys ∨ SqT C.K H p ys) ∧ ∀ l, H l = none → Q (.ref l) (upd H l (.lst ys))) listL := by
  intro W σ ρ H G vs ds x Q rl t eq k
  unfold listL at eq
  split at eq
  · rename_i d
    cases z : seqD d with
    | none => rw [z] at eq; cases eq
    | some l =>
      rw [z] at eq; cases eq
      obtain ⟨v, rfl, t0⟩ := t.one
      obtain ⟨a, xs, rfl, h1, h2⟩ := t0.seq rl.gh z
      exact ⟨a, xs, rfl, h1, fun p hp => rl.backLst h2 k hp⟩
  · cases eq
theorem tupL_ok : OpNOk C (fun xs H Q => ∃ p ys, xs = [.ref p] ∧ ((SqL C.K H p ys ∧ ∀ l, H l = none → Q (.ref l) (upd H l (.tup ys))) ∨ (SqT C.K H p ys ∧ Q (.ref p) H))) tupL := by
  intro W σ ρ H G vs ds x Q rl t eq k
  unfold tupL at eq
  split at eq
  · cases eq
    obtain ⟨v, rfl, t0⟩ := t.one
    rcases id t0 with t' | ⟨_, _, t'⟩
    · obtain ⟨a, xs, rfl, h1, h2⟩ := t0.tup rl.gh
      exact ⟨a, xs, rfl, .inr ⟨h1, rl.back t' k⟩⟩
    · exact t'.elim
  · rename_i d _
    cases z : lstD d with
    | none => rw [z] at eq; cases eq
    | some l =>
      rw [z] at eq; cases eq
      obtain ⟨v, rfl, t0⟩ := t.one
      obtain ⟨a, xs, rfl, h1, h2⟩ := t0.lstD rl.gh z
      exact ⟨a, xs, rfl, .inl ⟨h1, fun p hp => rl.backTup h2 k hp⟩⟩
  · cases eq
/-- int(..) -/
def intL : List D → Option XV
  | [.int i] => some (xint i)
  | [.bl b] => some (xint (if b then 1 else 0))
  | _ => none
theorem intL_ok : OpNOk C (fun xs H Q => (∃ i, xs = [.int i] ∧ Q (.int i) H) ∨ ∃ k, xs = [.bl k] ∧ Q (.int (if k then 1 else 0)) H) intL := by
  intro W σ ρ H G vs ds x Q rl t eq k
  unfold intL at eq
  split at eq
  · cases eq
    obtain ⟨v, rfl, t0⟩ := t.one
    rw [t0.int]
    exact .inl ⟨_, rfl, rl.back (.int _) k⟩
  · cases eq
    obtain ⟨v, rfl, t0⟩ := t.one
    rw [t0.bl]
    exact .inr ⟨_, rfl, rl.back (.int _) k⟩
  · cases eq
def absL : List D → Option XV
  | [.int i] => some (xint (if i < 0 then -i else i))
  | _ => none
theorem absL_ok : OpNOk C (fun xs H Q => ∃ i, xs = [.int i] ∧ Q (.int (if i < 0 then -i else i)) H) absL := by
  intro W σ ρ H G vs ds x Q rl t eq k
  unfold absL at eq
  split at eq
  · cases eq
    obtain ⟨v, rfl, t0⟩ := t.one
    rw [t0.int]
    exact ⟨_, rfl, rl.back (.int _) k⟩
  · cases eq
/-- max, min of two ints -/
def max2 : List D → Option XV
  | [.int i, .int j] => some (xint (if j > i then j else i))
  | _ => none
def min2 : List D → Option XV
  | [.int i, .int j] => some (xint (if j < i then j else i))
  | _ => none
theorem max2_ok : OpNOk C (fun xs H Q => ∃ i j, xs = [.int i, .int j] ∧ Q (.int (if j > i then j else i)) H) max2 := by
  intro W σ ρ H G vs ds x Q rl t eq k
  unfold max2 at eq
  split at eq
  · cases eq
    obtain ⟨v, w, rfl, t1, t2⟩ := t.two
    rw [t1.int, t2.int]
    exact ⟨_, _, rfl, rl.back (.int _) k⟩
  · cases eq
theorem min2_ok : OpNOk C (fun xs H Q => ∃ i j, xs = [.int i, .int j] ∧ Q (.int (if j < i then j else i)) H) min2 := by
  intro W σ ρ H G vs ds x Q rl t eq k
  unfold min2 at eq
  split at eq
  · cases eq
    obtain ⟨v, w, rfl, t1, t2⟩ := t.two
    rw [t1.int, t2.int]
    exact ⟨_, _, rfl, rl.back (.int _) k⟩
  · cases eq
/-- math.factorial -/
def facL : List D → Option XV
  | [.int i] => if 0 ≤ i ∧ i.natAbs ≤ 20000 then some (xint ((Builtin.Math.factorialNat i.toNat : Nat) : Int)) else none
  | _ => none
def rFac : List V → Hp → VK → Prop := fun vs H Q => ∃ a : Int, vs = [.int a] ∧ 0 ≤ a ∧ a ≤ 20000 ∧ Q (.int ((Builtin.Math.factorialNat a.toNat : Nat) : Int)) H
theorem cr_fac {X : Cx} : CallR X (.builtin "math.factorial") rFac := by
  intro pins s σ H vs us Q I r h
  obtain ⟨a, rfl, h0, h1, q⟩ := h
  obtain ⟨u, rfl, t, rfl⟩ := vals1 r
  exact PySem.W.mc_factorial h0 h1 fun _ => ⟨.int _, H, I.tok _, ⟨_, rfl⟩, q⟩
theorem facL_ok : OpNOk C rFac facL := by
  intro W σ ρ H G vs ds x Q rl t eq k
  unfold facL at eq
  split at eq
  · split at eq
    · cases eq
      rename_i h
      obtain ⟨v, rfl, t0⟩ := t.one
      rw [t0.int]
      exact ⟨_, rfl, h.1, by have := h.2; omega, rl.back (.int _) k⟩
    · cases eq
  · cases eq
include he hpl
theorem ce_list (hm : ∀ i, (Xs i).mg "list" = none) (ha : CA_ J Xs [e] fs) (hg : ∀ i, Gl (Xs i) "list" := by intro _; rfl) : CE J Xs (.Call (.Name "list" p) [e] [] pos) (callS listL fs) :=
  ce_callTy (fun X G => by have := call_list_of (X := X); rw [G.hK] at this; exact this) listL_ok hm (by decide +kernel) ha hg (by decide) (by decide) he hpl
theorem ce_tuple (hm : ∀ i, (Xs i).mg "tuple" = none) (ha : CA_ J Xs [e] fs) (hg : ∀ i, Gl (Xs i) "tuple" := by intro _; rfl) : CE J Xs (.Call (.Name "tuple" p) [e] [] pos) (callS tupL fs) :=
  ce_callTy (fun X G => by have := call_tuple_of (X := X); rw [G.hK] at this; exact this) tupL_ok hm (by decide +kernel) ha hg (by decide) (by decide) he hpl
theorem ce_intOf (hm : ∀ i, (Xs i).mg "int" = none) (ha : CA_ J Xs [e] fs) (hg : ∀ i, Gl (Xs i) "int" := by intro _; rfl) : CE J Xs (.Call (.Name "int" p) [e] [] pos) (callS intL fs) :=
  ce_callTy (fun X G => call_int1) intL_ok hm (by decide +kernel) ha hg (by decide) (by decide) he hpl
theorem ce_abs (hm : ∀ i, (Xs i).mg "abs" = none) (ha : CA_ J Xs [e] fs) (hg : ∀ i, Gl (Xs i) "abs" := by intro _; rfl) : CE J Xs (.Call (.Name "abs" p) [e] [] pos) (callS absL fs) :=
  ce_callB (fun X G => call_abs) absL_ok hm (by decide +kernel) ha hg (by decide) (by decide) he hpl
theorem ce_fac (hm : ∀ i, (Xs i).mg "factorial" = some (.builtin "math.factorial")) (ha : CA_ J Xs [e] fs) (hg : ∀ i, Gl (Xs i) "factorial" := by intro _; rfl) : CE J Xs (.Call (.Name "factorial" p) [e] [] pos) (callS facL fs) := by
  obtain ⟨t, h1, h2⟩ := ha
  exact ⟨_, fun i G => pe_callBfun cr_fac (hg i) (hm i) (h1 i G) (by decide) (he i) (hpl i), ev_call h2 facL_ok⟩
omit he hpl
variable {e2 : Expr} (he2 : ∀ i, starEach [e, e2] (Xs i).env = (false, eval e (Xs i).env) :: starEach [e2] (Xs i).env := by intro _; rfl) (hpl2 : ∀ i, (backTo pos (starEach [e2] (Xs i).env)).any (·.1) = false := by intro _; rfl)
include he2 hpl2
theorem ce_max2 (hm : ∀ i, (Xs i).mg "max" = none) (ha : CA_ J Xs [e, e2] fs) (hg : ∀ i, Gl (Xs i) "max" := by intro _; rfl) : CE J Xs (.Call (.Name "max" p) [e, e2] [] pos) (callS max2 fs) :=
  ce_callB (fun X G => call_max2 G.calm) max2_ok hm (by decide +kernel) ha hg (by decide) (by decide) he2 hpl2
theorem ce_min2 (hm : ∀ i, (Xs i).mg "min" = none) (ha : CA_ J Xs [e, e2] fs) (hg : ∀ i, Gl (Xs i) "min" := by intro _; rfl) : CE J Xs (.Call (.Name "min" p) [e, e2] [] pos) (callS min2 fs) :=
  ce_callB (fun X G => call_min2 G.calm) min2_ok hm (by decide +kernel) ha hg (by decide) (by decide) he2 hpl2
end
end DL
namespace DL
open PySem L2
open Classical in
/-! ## functions of the text -/
inductive FR where
  | ok (x : XV) (outs : List SV)
  | exc (c : String) (ns : List Str) (vs : List D) (outs : List SV)
  | stuck
abbrev FnM := List SV → FR
/-- what a def promises: what its mirror tells -/
def spF (C : Cst) (n : Nat) (f : FnM) : Sp := fun vs H Q E => ∃ (W : Fm) (G : Hp) (args : List SV), vs.length = n ∧ Rel C W (vs.map some) args H G ∧ (∀ p ∈ W.pin, (Env.at args p.1).isOwn = true) ∧
  (∀ j a, (Env.at args j).isOwn = true → vs[j]? = some (.ref a) → (j, a) ∈ W.pin) ∧ match f args with
  | .ok x outs => ∀ v H' G', Ge G G' → Rel C W (vs.map some) outs H' G' → VOk C W (vs.map some) outs H' G' v x → (∀ i, x ≠ .slot i) → Q v H'
  | .exc c ns ds outs => ∀ d H' G', Ge G G' → Rel C W (vs.map some) outs H' G' → ExcAt C H' G' d ns ds → E (.ref (C.CA c)) d H'
  | .stuck => False

/-! ### a call -/
def argsOf (ρ : Env) : List XV → Option (List SV)
  | [] => some []
  | .dat d :: xs => (argsOf ρ xs).map (SV.dat d :: ·)
  | .slot i :: xs => match ρ.at i with
    | .own d => (argsOf ρ xs).map (SV.own d :: ·)
    | .brw d => (argsOf ρ xs).map (SV.brw d :: ·)
    | _ => none
  | .own _ :: _ => none
/-- the slots, each but once -/
def slotsOf : List XV → List Nat
  | [] => []
  | .slot i :: xs => i :: slotsOf xs
  | _ :: xs => slotsOf xs
def noTwice : List Nat → Bool
  | [] => true
  | i :: l => !l.contains i && noTwice l
def findSlot : List XV → List SV → Nat → Option SV
  | .slot k :: xs, o :: outs, i => if k = i then some o else findSlot xs outs i
  | _ :: xs, _ :: outs, i => findSlot xs outs i
  | _, _, _ => none
def backSV : SV → SV
  | .brw _ => .un
  | s => s
def putBack1 (xs : List XV) (outs : List SV) (i : Nat) (s : SV) : SV := match s with
  | .own d => match findSlot xs outs i with
    | some o => backSV o
    | none => .own d
  | s => s
def putBackL (xs : List XV) (outs : List SV) : Nat → Env → Env
  | _, [] => []
  | i, s :: ρ => putBack1 xs outs i s :: putBackL xs outs (i + 1) ρ
def putBack (xs : List XV) (outs : List SV) (ρ : Env) : Env := match slotsOf xs with
  | [] => ρ
  | _ => putBackL xs outs 0 ρ
def callF (g : FnM) (xs : List XV) (ρ : Env) : R XV := match argsOf ρ xs with
  | some args => if noTwice (slotsOf xs) = true then match g args with
      | .ok x outs => .ok x (putBack xs outs ρ)
      | .exc c ns vs outs => .exc c ns vs (putBack xs outs ρ)
      | .stuck => .stuck
    else .stuck
  | none => .stuck
def fnS (g : FnM) (fs : Env → R (List XV)) : Env → R XV := fun ρ => (fs ρ).bind fun xs ρ => callF g xs ρ

theorem putBackL_len (xs : List XV) (outs : List SV) : ∀ (i : Nat) (ρ : Env), (putBackL xs outs i ρ).length = ρ.length
  | _, [] => rfl
  | i, s :: ρ => by rw [putBackL, List.length_cons, List.length_cons, putBackL_len xs outs (i + 1) ρ]
theorem putBackL_get (xs : List XV) (outs : List SV) : ∀ (i : Nat) (ρ : Env) (j : Nat), (putBackL xs outs i ρ)[j]? = (ρ[j]?).map (putBack1 xs outs (i + j))
  | _, [], _ => by simp [putBackL]
  | i, s :: ρ, 0 => by simp [putBackL]
  | i, s :: ρ, j + 1 => by
    simp only [putBackL, List.getElem?_cons_succ]
    rw [putBackL_get xs outs (i + 1) ρ j, show i + 1 + j = i + (j + 1) by omega]
theorem findSlot_none {i : Nat} : ∀ {xs : List XV} {outs : List SV}, slotsOf xs = [] → findSlot xs outs i = none
  | [], _, _ => by simp [findSlot]
  | .slot k :: xs, _, h => by simp [slotsOf] at h
  | .dat _ :: xs, [], _ => by simp [findSlot]
  | .own _ :: xs, [], _ => by simp [findSlot]
  | .dat _ :: xs, o :: outs, h => by simp only [findSlot]; exact findSlot_none (by simpa [slotsOf] using h)
  | .own _ :: xs, o :: outs, h => by simp only [findSlot]; exact findSlot_none (by simpa [slotsOf] using h)
theorem putBack_at (xs : List XV) (outs : List SV) (ρ : Env) (i : Nat) : Env.at (putBack xs outs ρ) i = putBack1 xs outs i (ρ.at i) := by
  have key : Env.at (putBackL xs outs 0 ρ) i = putBack1 xs outs i (ρ.at i) := by
    unfold Env.at
    rw [putBackL_get, Nat.zero_add]
    cases ρ[i]? <;> rfl
  unfold putBack
  split
  · rename_i h
    unfold putBack1
    cases s : ρ.at i <;> first | rfl | (dsimp only; rw [findSlot_none h])
  · exact key
theorem putBack_len (xs : List XV) (outs : List SV) (ρ : Env) : (putBack xs outs ρ).length = ρ.length := by
  unfold putBack
  split
  · rfl
  · exact putBackL_len _ _ _ _
theorem findSlot_some : ∀ {xs : List XV} {outs : List SV} {i : Nat} {o : SV}, findSlot xs outs i = some o → ∃ j : Nat, xs[j]? = some (.slot i) ∧ outs[j]? = some o
  | .slot k :: xs, o' :: outs, i, o, h => by
    simp only [findSlot] at h
    split at h
    · rename_i e; subst e; cases h; exact ⟨0, rfl, rfl⟩
    · obtain ⟨j, h1, h2⟩ := findSlot_some h; exact ⟨j + 1, by simpa using h1, by simpa using h2⟩
  | .dat _ :: xs, o' :: outs, i, o, h => by
    simp only [findSlot] at h
    obtain ⟨j, h1, h2⟩ := findSlot_some h; exact ⟨j + 1, by simpa using h1, by simpa using h2⟩
  | .own _ :: xs, o' :: outs, i, o, h => by
    simp only [findSlot] at h
    obtain ⟨j, h1, h2⟩ := findSlot_some h; exact ⟨j + 1, by simpa using h1, by simpa using h2⟩
  | [], _, _, _, h => by simp [findSlot] at h
  | .slot _ :: _, [], _, _, h => by simp [findSlot] at h
  | .dat _ :: _, [], _, _, h => by simp [findSlot] at h
  | .own _ :: _, [], _, _, h => by simp [findSlot] at h
theorem findSlot_no : ∀ {xs : List XV} {outs : List SV} {i : Nat}, xs.length = outs.length → findSlot xs outs i = none → ∀ j : Nat, xs[j]? ≠ some (.slot i)
  | [], _, _, _, _, j => by simp
  | .slot k :: xs, o' :: outs, i, hl, h, j => by
    simp only [findSlot] at h
    split at h
    · cases h
    · rename_i e
      cases j with
      | zero => intro z; simp at z; exact e z
      | succ j => simpa using findSlot_no (by simpa using hl) h j
  | .dat _ :: xs, o' :: outs, i, hl, h, j => by
    simp only [findSlot] at h
    cases j with
    | zero => intro z; simp at z
    | succ j => simpa using findSlot_no (by simpa using hl) h j
  | .own _ :: xs, o' :: outs, i, hl, h, j => by
    simp only [findSlot] at h
    cases j with
    | zero => intro z; simp at z
    | succ j => simpa using findSlot_no (by simpa using hl) h j
  | _ :: _, [], _, hl, _, _ => by simp at hl
theorem slot_once : ∀ {xs : List XV}, noTwice (slotsOf xs) = true → ∀ {j k i : Nat}, xs[j]? = some (.slot i) → xs[k]? = some (.slot i) → j = k
  | [], _, j, _, _, h, _ => by simp at h
  | x :: xs, h, 0, 0, i, _, _ => rfl
  | x :: xs, h, 0, k + 1, i, h1, h2 => by
    simp at h1; subst h1
    simp [slotsOf, noTwice] at h
    exact absurd (mem_slots (by simpa using h2)) h.1
  | x :: xs, h, j + 1, 0, i, h1, h2 => by
    simp at h2; subst h2
    simp [slotsOf, noTwice] at h
    exact absurd (mem_slots (by simpa using h1)) h.1
  | x :: xs, h, j + 1, k + 1, i, h1, h2 => by
    have h' : noTwice (slotsOf xs) = true := by
      cases x with
      | slot k => simp [slotsOf, noTwice] at h; exact h.2
      | dat d => simpa [slotsOf] using h
      | own d => simpa [slotsOf] using h
    rw [slot_once h' (j := j) (k := k) (i := i) (by simpa using h1) (by simpa using h2)]
where
  mem_slots : ∀ {xs : List XV} {j i : Nat}, xs[j]? = some (.slot i) → i ∈ slotsOf xs
  | [], j, _, h => by simp at h
  | x :: xs, 0, i, h => by simp at h; subst h; simp [slotsOf]
  | x :: xs, j + 1, i, h => by
    have := mem_slots (xs := xs) (j := j) (i := i) (by simpa using h)
    cases x with
    | slot k => simp [slotsOf]; exact .inr this
    | dat d => simpa [slotsOf] using this
    | own d => simpa [slotsOf] using this

/-- the places of what is handed over -/
def pinsOf (ρ : Env) : Nat → List XV → List V → List (Nat × Addr)
  | j, .slot i :: xs, .ref a :: vs => if (ρ.at i).isOwn = true then (j, a) :: pinsOf ρ (j + 1) xs vs else pinsOf ρ (j + 1) xs vs
  | j, _ :: xs, _ :: vs => pinsOf ρ (j + 1) xs vs
  | _, _, _ => []
theorem pinsOf_mem {ρ : Env} : ∀ {n : Nat} {xs : List XV} {vs : List V} {p : Nat × Addr}, p ∈ pinsOf ρ n xs vs → ∃ j i, p.1 = n + j ∧ xs[j]? = some (.slot i) ∧ vs[j]? = some (.ref p.2) ∧ (ρ.at i).isOwn = true
  | n, [], _, p, h => by simp [pinsOf] at h
  | n, _ :: _, [], p, h => by cases ‹XV› <;> simp [pinsOf] at h
  | n, x :: xs, v :: vs, p, h => by
    have rec' : p ∈ pinsOf ρ (n + 1) xs vs → ∃ j i, p.1 = n + j ∧ (x :: xs)[j]? = some (.slot i) ∧ (v :: vs)[j]? = some (.ref p.2) ∧ (ρ.at i).isOwn = true := fun h => by
      obtain ⟨j, i, h0, h1, h2, h3⟩ := pinsOf_mem h
      exact ⟨j + 1, i, by omega, by simpa using h1, by simpa using h2, h3⟩
    cases x with
    | dat d => simp only [pinsOf] at h; exact rec' h
    | own d => simp only [pinsOf] at h; exact rec' h
    | slot i =>
      cases v <;> first | (simp only [pinsOf] at h; exact rec' h) | skip
      rename_i a
      simp only [pinsOf] at h
      split at h
      · rename_i ho
        rcases List.mem_cons.mp h with e | h
        · subst e; exact ⟨0, i, rfl, rfl, rfl, ho⟩
        · exact rec' h
      · exact rec' h
theorem mem_pinsOf {ρ : Env} : ∀ {n : Nat} {xs : List XV} {vs : List V} {j i : Nat} {a : Addr}, xs[j]? = some (.slot i) → vs[j]? = some (.ref a) → (ρ.at i).isOwn = true → (n + j, a) ∈ pinsOf ρ n xs vs
  | n, [], _, j, _, _, h, _, _ => by simp at h
  | n, _ :: _, [], j, _, _, _, h, _ => by simp at h
  | n, x :: xs, v :: vs, 0, i, a, h1, h2, h3 => by
    simp at h1 h2; subst h1; subst h2
    simp only [pinsOf]; rw [if_pos h3]; exact List.mem_cons_self
  | n, x :: xs, v :: vs, j + 1, i, a, h1, h2, h3 => by
    have := mem_pinsOf (ρ := ρ) (n := n + 1) (xs := xs) (vs := vs) (j := j) (i := i) (a := a) (by simpa using h1) (by simpa using h2) h3
    rw [show n + 1 + j = n + (j + 1) by omega] at this
    cases x with
    | dat d => simp only [pinsOf]; exact this
    | own d => simp only [pinsOf]; exact this
    | slot k =>
      cases v <;> first | (simp only [pinsOf]; exact this) | skip
      simp only [pinsOf]
      split
      · exact List.mem_cons_of_mem _ this
      · exact this
theorem argsOf_get {ρ : Env} : ∀ {xs : List XV} {args : List SV}, argsOf ρ xs = some args → xs.length = args.length ∧ ∀ (j : Nat) x, xs[j]? = some x → (∃ d, x = .dat d ∧ args[j]? = some (.dat d)) ∨
    (∃ i d, x = .slot i ∧ ρ.at i = .own d ∧ args[j]? = some (.own d)) ∨ ∃ i d, x = .slot i ∧ ρ.at i = .brw d ∧ args[j]? = some (.brw d)
  | [], _, h => by cases h; exact ⟨rfl, fun j x h => by simp at h⟩
  | .own _ :: xs, _, h => by cases h
  | .dat d :: xs, args, h => by
    simp only [argsOf] at h
    cases z : argsOf ρ xs with
    | none => rw [z] at h; cases h
    | some l =>
      rw [z] at h; cases h
      obtain ⟨h1, h2⟩ := argsOf_get z
      refine ⟨by simp [h1], fun j x e => ?_⟩
      cases j with
      | zero => simp at e; subst e; exact .inl ⟨d, rfl, rfl⟩
      | succ j => simpa using h2 j x (by simpa using e)
  | .slot k :: xs, args, h => by
    simp only [argsOf] at h
    split at h
    · rename_i d hd
      cases z : argsOf ρ xs with
      | none => rw [z] at h; cases h
      | some l =>
        rw [z] at h; cases h
        obtain ⟨h1, h2⟩ := argsOf_get z
        refine ⟨by simp [h1], fun j x e => ?_⟩
        cases j with
        | zero => simp at e; subst e; exact .inr (.inl ⟨k, d, rfl, hd, rfl⟩)
        | succ j => simpa using h2 j x (by simpa using e)
    · rename_i d hd
      cases z : argsOf ρ xs with
      | none => rw [z] at h; cases h
      | some l =>
        rw [z] at h; cases h
        obtain ⟨h1, h2⟩ := argsOf_get z
        refine ⟨by simp [h1], fun j x e => ?_⟩
        cases j with
        | zero => simp at e; subst e; exact .inr (.inr ⟨k, d, rfl, hd, rfl⟩)
        | succ j => simpa using h2 j x (by simpa using e)
    · cases h
theorem Waits.get {C : Cst} {σ : St} {G : Hp} : ∀ {vs : List V} {xs : List XV}, Waits C σ G vs xs → vs.length = xs.length ∧ ∀ (j : Nat) x, xs[j]? = some x → ∃ v, vs[j]? = some v ∧ Wait C σ G v x
  | [], [], _ => ⟨rfl, fun j x h => by simp at h⟩
  | v :: vs, x :: xs, h => by
    obtain ⟨h1, h2⟩ := Waits.get h.2
    refine ⟨by simp [h1], fun j y e => ?_⟩
    cases j with
    | zero => simp at e; subst e; exact ⟨v, rfl, h.1⟩
    | succ j => simpa using h2 j y (by simpa using e)
  | [], _ :: _, h => h.elim
  | _ :: _, [], h => h.elim

section
variable {C : Cst} {W : Fm} {σ : St} {ρ : Env} {H G H' G' : Hp} {vs : List V} {xs : List XV} {args outs : List SV}
def Passed (σ : St) (ρ : Env) (xs : List XV) (a : Addr) : Prop := ∃ j i : Nat, xs[j]? = some (.slot i) ∧ (ρ.at i).isOwn = true ∧ σ[i]? = some (some (.ref a))
open Classical in
noncomputable def callFm (W : Fm) (σ : St) (ρ : Env) (xs : List XV) (vs : List V) (H G : Hp) : Fm where
  Z := fun a => if Passed σ ρ xs a then none else H a
  N := fun a => ¬ Passed σ ρ xs a ∧ G a = none ∧ ∃ o, H a = some o
  B := fun j b => ∃ i : Nat, xs[j]? = some (.slot i) ∧ W.B i b
  pin := pinsOf ρ 0 xs vs
theorem own_of {s : SV} (h : s.isOwn = true) : ∃ d, s = .own d := by
  cases s with
  | own d => exact ⟨d, rfl⟩
  | _ => cases h
theorem Rel.own (r : Rel C W σ ρ H G) {i : Nat} {d : D} (h : ρ.at i = .own d) : ∃ a, σ[i]? = some (some (.ref a)) ∧ Own C H G a d ∧ G a = none ∧ W.Z a = none ∧ ¬ W.N a := by
  have := r.at_ i
  rw [h] at this
  exact this
theorem Passed.z (r : Rel C W σ ρ H G) {a : Addr} (p : Passed σ ρ xs a) : W.Z a = none ∧ ¬ W.N a := by
  obtain ⟨j, i, _, ho, hs⟩ := p
  obtain ⟨d, hd⟩ := own_of ho
  obtain ⟨b, h1, _, _, h4, h5⟩ := r.own hd
  rw [hs] at h1; cases h1
  exact ⟨h4, h5⟩
theorem at_get {l : List SV} {j : Nat} {s : SV} (h : l[j]? = some s) : Env.at l j = s := by unfold Env.at; rw [h]; rfl
theorem call_in (r : Rel C W σ ρ H G) (w : Waits C σ G vs xs) (ha : argsOf ρ xs = some args) (hn : noTwice (slotsOf xs) = true) :
    Rel C (callFm W σ ρ xs vs H G) (vs.map some) args H G ∧ (∀ p ∈ (callFm W σ ρ xs vs H G).pin, (Env.at args p.1).isOwn = true) ∧ (∀ j a, (Env.at args j).isOwn = true → vs[j]? = some (.ref a) → (j, a) ∈ (callFm W σ ρ xs vs H G).pin) := by
  obtain ⟨hl, hx⟩ := argsOf_get ha
  obtain ⟨wl, wx⟩ := w.get
  have slotAt : ∀ j, (Env.at args j).isOwn = true → ∃ i d v, xs[j]? = some (.slot i) ∧ ρ.at i = .own d ∧ vs[j]? = some v ∧ σ[i]? = some (some v) := fun j hj => by
    cases e : xs[j]? with
    | none =>
      have : args[j]? = none := List.getElem?_eq_none (by have := List.getElem?_eq_none_iff.mp e; omega)
      unfold Env.at at hj; rw [this] at hj; cases hj
    | some x =>
      obtain ⟨v, h1, h2⟩ := wx j x e
      rcases hx j x e with ⟨d, rfl, h3⟩ | ⟨i, d, rfl, h3, h4⟩ | ⟨i, d, rfl, h3, h4⟩
      · rw [at_get h3] at hj; cases hj
      · exact ⟨i, d, v, rfl, h3, h1, h2⟩
      · rw [at_get h4] at hj; cases hj
  have pz : ∀ {a : Addr}, Passed σ ρ xs a → (callFm W σ ρ xs vs H G).Z a = none := fun p => if_pos p
  have pnz : ∀ {a : Addr}, ¬ Passed σ ρ xs a → (callFm W σ ρ xs vs H G).Z a = H a := fun p => if_neg p
  refine ⟨⟨r.gh, fun a o e => ?_, fun a q => ⟨q.2.1, q.2.2⟩, fun j a q => ?_, fun p hp => ?_, by rw [List.length_map, wl, hl], fun j => ?_, fun j k a jk h1 h2 e1 e2 => ?_⟩, fun p hp => ?_, fun j a hj hv => ?_⟩
  · by_cases p : Passed σ ρ xs a
    · rw [pz p] at e; cases e
    · rw [pnz p] at e; exact e
  · obtain ⟨i, _, q⟩ := q
    obtain ⟨o, ho⟩ := r.bz i a q
    have np : ¬ Passed σ ρ xs a := fun p => by rw [(p.z r).1] at ho; cases ho
    exact ⟨o, by rw [pnz np]; exact r.zh _ _ ho⟩
  · obtain ⟨j, i, h0, h1, h2, h3⟩ := pinsOf_mem hp
    rw [h0, Nat.zero_add, List.getElem?_map, h2]; rfl
  · cases e : xs[j]? with
    | none =>
      have : args[j]? = none := List.getElem?_eq_none (by have := List.getElem?_eq_none_iff.mp e; omega)
      unfold Env.at; rw [this]; trivial
    | some x =>
      obtain ⟨v, h1, h2⟩ := wx j x e
      have hv : (vs.map some)[j]? = some (some v) := by rw [List.getElem?_map, h1]; rfl
      rw [hv]
      rcases hx j x e with ⟨d, rfl, h3⟩ | ⟨i, d, rfl, h3, h4⟩ | ⟨i, d, rfl, h3, h4⟩
      · rw [at_get h3]; exact ⟨v, rfl, h2⟩
      · rw [at_get h4]
        obtain ⟨a, q1, q2, q3, q4, q5⟩ := r.own h3
        have : σ[i]? = some (some v) := h2
        rw [q1] at this; cases this
        have p : Passed σ ρ xs a := ⟨j, i, e, by rw [h3]; rfl, q1⟩
        exact ⟨a, rfl, q2, q3, pz p, fun z => z.1 p⟩
      · rw [at_get h4]
        have q := r.at_ i
        rw [h3] at q
        obtain ⟨a, q1, q2, q3⟩ := q
        have : σ[i]? = some (some v) := h2
        rw [q1] at this; cases this
        refine ⟨a, rfl, q2.move (fun o z => ?_) (Ge.refl _), i, e, q3⟩
        have np : ¬ Passed σ ρ xs a := fun p => by rw [(p.z r).1] at z; cases z
        rw [pnz np]; exact r.zh _ _ z
  · obtain ⟨i, d, v, s1, s2, s3, s4⟩ := slotAt j h1
    obtain ⟨i', d', v', t1, t2, t3, t4⟩ := slotAt k h2
    rw [List.getElem?_map, s3] at e1
    rw [List.getElem?_map, t3] at e2
    cases e1; cases e2
    by_cases z : i = i'
    · subst z; exact jk (slot_once hn s1 t1)
    · exact r.ne i i' a z (by rw [s2]; rfl) (by rw [t2]; rfl) s4 t4
  · obtain ⟨j, i, h0, h1, h2, h3⟩ := pinsOf_mem hp
    rw [h0, Nat.zero_add]
    obtain ⟨d, hd⟩ := own_of h3
    rcases hx j _ h1 with ⟨_, e, _⟩ | ⟨i', d', e, h4, h5⟩ | ⟨i', d', e, h4, _⟩
    · cases e
    · rw [at_get h5]; rfl
    · cases e; rw [hd] at h4; cases h4
  · obtain ⟨i, d, v, s1, s2, s3, s4⟩ := slotAt j hj
    have := mem_pinsOf (ρ := ρ) (n := 0) s1 hv (by rw [s2]; rfl)
    rwa [Nat.zero_add] at this
/-- what a slot that was handed over holds now -/
theorem putBack_cases (hl : xs.length = outs.length) (i : Nat) : (∃ (d : D) (o : SV) (j : Nat), ρ.at i = .own d ∧ xs[j]? = some (.slot i) ∧ outs[j]? = some o ∧ Env.at (putBack xs outs ρ) i = backSV o) ∨
    ((∀ d, ρ.at i = .own d → ∀ j : Nat, xs[j]? ≠ some (.slot i)) ∧ Env.at (putBack xs outs ρ) i = ρ.at i) := by
  rw [putBack_at]
  unfold putBack1
  cases s : ρ.at i with
  | own d =>
    dsimp only
    cases z : findSlot xs outs i with
    | none => exact .inr ⟨fun _ _ => findSlot_no hl z, rfl⟩
    | some o =>
      obtain ⟨j, h1, h2⟩ := findSlot_some z
      exact .inl ⟨d, o, j, rfl, h1, h2, rfl⟩
  | un => exact .inr ⟨fun _ e => (by cases e), rfl⟩
  | dat d => exact .inr ⟨fun _ e => (by cases e), rfl⟩
  | brw d => exact .inr ⟨fun _ e => (by cases e), rfl⟩
theorem call_out (r : Rel C W σ ρ H G) (w : Waits C σ G vs xs) (g : Ge G G') (r' : Rel C (callFm W σ ρ xs vs H G) (vs.map some) outs H' G') :
    Rel C W σ (putBack xs outs ρ) H' G' ∧ ∀ v x, (∀ i, x ≠ .slot i) → VOk C (callFm W σ ρ xs vs H G) (vs.map some) outs H' G' v x → VOk C W σ (putBack xs outs ρ) H' G' v x := by
  obtain ⟨wl, wx⟩ := w.get
  have hl : xs.length = outs.length := by rw [← wl, ← r'.ln, List.length_map]
  have pz : ∀ {a : Addr}, Passed σ ρ xs a → (callFm W σ ρ xs vs H G).Z a = none := fun p => if_pos p
  have pnz : ∀ {a : Addr}, ¬ Passed σ ρ xs a → (callFm W σ ρ xs vs H G).Z a = H a := fun p => if_neg p
  have keep : ∀ a o, ¬ Passed σ ρ xs a → H a = some o → H' a = some o := fun a o np e => r'.zh a o (by rw [pnz np]; exact e)
  have handed : ∀ {i j : Nat}, xs[j]? = some (.slot i) → ∃ v, vs[j]? = some v ∧ σ[i]? = some (some v) := fun {i j} h => by
    obtain ⟨v, h1, h2⟩ := wx j _ h
    exact ⟨v, h1, h2⟩
  have ownOf : ∀ i, (Env.at (putBack xs outs ρ) i).isOwn = true → (ρ.at i).isOwn = true := fun i h => by
    rcases putBack_cases (ρ := ρ) hl i with ⟨d, o, j, h1, _⟩ | ⟨_, h1⟩
    · rw [h1]; rfl
    · rw [h1] at h; exact h
  have rel : Rel C W σ (putBack xs outs ρ) H' G' := by
    refine ⟨r'.gh, fun a o e => keep a o (fun p => by rw [(p.z r).1] at e; cases e) (r.zh _ _ e), fun a q => ?_, r.bz, r.pn, by rw [putBack_len]; exact r.ln, fun i => ?_, fun i k a ik h1 h2 e1 e2 => r.ne i k a ik (ownOf i h1) (ownOf k h2) e1 e2⟩
    · have np : ¬ Passed σ ρ xs a := fun p => (p.z r).2 q
      exact r'.nn a ⟨np, (r.nn a q).1, (r.nn a q).2⟩
    · rcases putBack_cases (ρ := ρ) hl i with ⟨d, o, j, h1, h2, h3, h4⟩ | ⟨h1, h2⟩
      · rw [h4]
        obtain ⟨v, v1, v2⟩ := handed h2
        have q := r'.at_ j
        rw [at_get h3, List.getElem?_map, v1] at q
        cases o with
        | un => trivial
        | brw _ => trivial
        | dat d' => obtain ⟨v', e, q⟩ := q; cases e; exact ⟨v, v2, q⟩
        | own d' =>
          obtain ⟨a, e, q1, q2, _, _⟩ := q
          cases e
          obtain ⟨b, b1, _, _, b4, b5⟩ := r.own h1
          rw [v2] at b1; cases b1
          exact ⟨a, v2, q1, q2, b4, b5⟩
      · rw [h2]
        have q := r.at_ i
        cases s : ρ.at i with
        | un => trivial
        | dat d => rw [s] at q; obtain ⟨v, q1, q2⟩ := q; exact ⟨v, q1, q2.ge g⟩
        | brw d => rw [s] at q; obtain ⟨a, q1, q2, q3⟩ := q; exact ⟨a, q1, q2.move (fun _ z => z) g, q3⟩
        | own d =>
          obtain ⟨a, q1, q2, q3, q4, q5⟩ := r.own s
          have np : ¬ Passed σ ρ xs a := fun ⟨j, k, p1, p2, p3⟩ => by
            by_cases z : k = i
            · subst z; exact h1 d s j p1
            · exact r.ne k i a z p2 (by rw [s]; rfl) p3 q1
          exact ⟨a, q1, q2.move (fun o z => keep a o np z) g, (r'.nn a ⟨np, q3, q2.there⟩).1, q4, q5⟩
  refine ⟨rel, fun v x hx h => ?_⟩
  cases x with
  | dat d => exact h
  | slot i => exact absurd rfl (hx i)
  | own d =>
    obtain ⟨a, rfl, h1, h2, h3, h4, h5⟩ := h
    have pass : ∀ o, H a = some o → Passed σ ρ xs a := fun o e => by
      by_cases p : Passed σ ρ xs a
      · exact p
      · rw [pnz p, e] at h3; cases h3
    refine ⟨a, rfl, h1, h2, ?_, fun q => ?_, fun i hi e => ?_⟩
    · cases z : W.Z a with
      | none => rfl
      | some o => rw [((pass o (r.zh _ _ z)).z r).1] at z; cases z
    · obtain ⟨o, ho⟩ := (r.nn a q).2
      exact ((pass o ho).z r).2 q
    · have ho := ownOf i hi
      obtain ⟨d', hd⟩ := own_of ho
      obtain ⟨b, b1, b2, _⟩ := r.own hd
      rw [e] at b1; cases b1
      obtain ⟨o, hoo⟩ := b2.there
      obtain ⟨j, k, p1, p2, p3⟩ := pass o hoo
      have z : k = i := by
        by_cases z : k = i
        · exact z
        · exact (r.ne k i a z p2 ho p3 e).elim
      subst z
      obtain ⟨v, v1, v2⟩ := handed p1
      rw [e] at v2; cases v2
      rcases putBack_cases (ρ := ρ) hl k with ⟨d2, o2, j2, q1, q2, q3, q4⟩ | ⟨q1, _⟩
      · obtain ⟨v, w1, w2⟩ := handed q2
        rw [e] at w2; cases w2
        rw [q4] at hi
        refine h5 j2 ?_ (by rw [List.getElem?_map, w1]; rfl)
        rw [at_get q3]
        cases o2 with
        | own _ => rfl
        | _ => cases hi
      · exact q1 d' hd j p1
end
section
variable {ι : Type} {J : Jd} {Xs : ι → Cx} {e : Expr} {es : List Expr} {fs : Env → R (List XV)} {g : FnM} {x : Str} {p pos : Pos} {f : Addr} {fd : FuncData} {ps : List Str}
theorem callF_ok {W : Fm} {σ : St} {ρ : Env} {H G : Hp} {vs : List V} {xs : List XV} {Q : VK} (n : Nat) (hnl : xs.length = n) (r : Rel J.C W σ ρ H G) (w : Waits J.C σ G vs xs)
    (h : Got J W σ G (callF g xs ρ) (fun x ρ' H' G' => ∀ v, VOk J.C W σ ρ' H' G' v x → Q v H')) : spF J.C n g vs H Q (WE J.EW σ) := by
  unfold callF at h
  cases z : argsOf ρ xs with
  | none => rw [z] at h; exact h.elim
  | some args =>
    rw [z] at h
    dsimp only at h
    split at h
    · rename_i hn
      obtain ⟨c1, c2, c3⟩ := call_in r w z hn
      refine ⟨_, G, args, by rw [w.get.1, hnl], c1, c2, c3, ?_⟩
      cases zg : g args with
      | stuck => rw [zg] at h; exact h.elim
      | ok x outs =>
        rw [zg] at h
        intro v H' G' ge r' vk hx
        obtain ⟨o1, o2⟩ := call_out r w ge r'
        exact h H' G' ge o1 v (o2 v x hx vk)
      | exc c ns ds outs =>
        rw [zg] at h
        intro d H' G' ge r' ex
        obtain ⟨o1, o2⟩ := call_out r w ge r'
        exact h d H' G' ge o1 ex
    · exact h.elim
theorem ev_fn {ta : TA} (n : Nat) (ha : EvA J ta fs) (hn : ∀ ρ xs ρ', fs ρ = .ok xs ρ' → xs.length = n) : EvE J (tCallSD (spF J.C n g) [] (fun σ => WE J.EW σ) ta) (fnS g fs) := by
  intro W σ ρ H G Q pk rl h
  refine ha W σ ρ H G _ pk rl ?_
  unfold fnS at h
  cases z : fs ρ with
  | stuck => rw [z] at h; exact h.elim
  | exc c ns ds ρ' => rw [z] at h; exact h
  | ok xs ρ1 =>
    rw [z] at h
    have h := Got.bind h
    intro H' G' ge r' vs wk
    rw [List.append_nil]
    exact callF_ok n (hn ρ xs ρ1 z) r' wk (h H' G' ge r')
/-- f(e, ..), f a def of the text -/
theorem ce_fn (F : ∀ i, FnOk (Xs i).prog (Xs i).w (Xs i).K (Xs i).mg (Xs i).base (L2.CX (Xs i).prog (Xs i).w) J.k f fd ps (spF J.C ps.length g)) (hm : ∀ i, (Xs i).mg x = some (.ref f)) (hk : PySem.W.keepIn J.C.K (.ref f) = true) (hb : Binds J.C.K fd ps []) (ha : CA_ J Xs (e :: es) fs)
    (hn : ∀ ρ xs ρ', fs ρ = .ok xs ρ' → xs.length = ps.length)
    (hg : ∀ i, Gl (Xs i) x := by intro _; rfl) (hdb : (x == ("__debug__" : Str)) = false := by decide) (he : ∀ i, starEach (e :: es) (Xs i).env = (false, eval e (Xs i).env) :: starEach es (Xs i).env := by intro _; rfl)
    (hpl : ∀ i, (backTo pos (starEach es (Xs i).env)).any (·.1) = false := by intro _; rfl) : CE J Xs (.Call (.Name x p) (e :: es) [] pos) (fnS g fs) := by
  obtain ⟨t, h1, h2⟩ := ha
  refine ⟨_, fun i G => pe_callSD (F i) G.hr (hg i) (hm i) (by rw [G.hK]; exact hk) (by rw [G.hK]; exact hb) .nil (fun σ => passAt G.tk σ) (h1 i G) hdb (he i) (hpl i), ev_fn _ h2 hn⟩
end
end DL
namespace DL
open PySem L2

/-! ## a new object that waits -/
open Classical in
noncomputable def Fm.hold (W : Fm) (a : Addr) (o : HO) : Fm := { W with Z := upd W.Z a o, N := fun b => b = a ∨ W.N b }
section
variable {C : Cst} {W : Fm} {σ : St} {ρ ρ' : Env} {H G H' G' : Hp}
theorem Rel.hold (r : Rel C W σ ρ H G) {a : Addr} {o : HO} {d : D} (v : VOk C W σ ρ H G (.ref a) (.own d)) (ho : H a = some o) : Rel C (W.hold a o) σ ρ H G := by
  obtain ⟨b, e, h1, h2, h3, h4, h5⟩ := v
  cases e
  refine ⟨r.gh, fun b u e => ?_, fun b q => ?_, fun j b q => ?_, r.pn, r.ln, fun i => ?_, r.ne⟩
  · by_cases z : b = a
    · subst z; rw [show (W.hold b o).Z b = some o from upd_same] at e; cases e; exact ho
    · rw [show (W.hold a o).Z b = W.Z b from upd_ne z] at e; exact r.zh _ _ e
  · rcases q with rfl | q
    · exact ⟨h2, _, ho⟩
    · exact r.nn b q
  · obtain ⟨u, hu⟩ := r.bz j b q
    have z : b ≠ a := fun z => by subst z; rw [h3] at hu; cases hu
    exact ⟨u, by rw [show (W.hold a o).Z b = W.Z b from upd_ne z]; exact hu⟩
  · have q := r.at_ i
    cases s : ρ.at i with
    | un => trivial
    | dat d => rw [s] at q; exact q
    | own d' =>
      rw [s] at q
      obtain ⟨b, q1, q2, q3, q4, q5⟩ := q
      have z : b ≠ a := fun z => h5 i (by rw [s]; rfl) (z ▸ q1)
      exact ⟨b, q1, q2, q3, by rw [show (W.hold a o).Z b = W.Z b from upd_ne z]; exact q4, fun y => y.elim z q5⟩
    | brw d' =>
      rw [s] at q
      obtain ⟨b, q1, q2, q3⟩ := q
      refine ⟨b, q1, q2.move (fun u e => ?_) (Ge.refl _), q3⟩
      have z : b ≠ a := fun z => by subst z; rw [h3] at e; cases e
      rw [show (W.hold a o).Z b = W.Z b from upd_ne z]; exact e
theorem Rel.unhold (r : Rel C W σ ρ H G) {a : Addr} {o : HO} {d : D} (v : VOk C W σ ρ H G (.ref a) (.own d)) (ho : H a = some o) (g : Ge G G') (r' : Rel C (W.hold a o) σ ρ' H' G') :
    Rel C W σ ρ' H' G' ∧ VOk C W σ ρ' H' G' (.ref a) (.own d) := by
  obtain ⟨b, e, h1, h2, h3, h4, h5⟩ := v
  cases e
  have hz : ∀ b, b ≠ a → (W.hold a o).Z b = W.Z b := fun b z => upd_ne z
  have ha : H' a = some o := r'.zh a o upd_same
  refine ⟨⟨r'.gh, fun b u e => r'.zh b u ?_, fun b q => r'.nn b (.inr q), r.bz, r'.pn, r'.ln, fun i => ?_, r'.ne⟩, a, rfl, h1.move (fun u q => by rw [ho] at q; cases q; exact ha) g, (r'.nn a (.inl rfl)).1, h3, h4, fun i hi e => ?_⟩
  · have z : b ≠ a := fun z => by subst z; rw [h3] at e; cases e
    rw [hz b z]; exact e
  · have q := r'.at_ i
    cases s : ρ'.at i with
    | un => trivial
    | dat d => rw [s] at q; exact q
    | own d' =>
      rw [s] at q
      obtain ⟨b, q1, q2, q3, q4, q5⟩ := q
      have z : b ≠ a := fun z => q5 (.inl z)
      exact ⟨b, q1, q2, q3, by rw [← hz b z]; exact q4, fun y => q5 (.inr y)⟩
    | brw d' =>
      rw [s] at q
      obtain ⟨b, q1, q2, q3⟩ := q
      refine ⟨b, q1, q2.move (fun u e => ?_) (Ge.refl _), q3⟩
      have z : b ≠ a := fun z => by subst z; obtain ⟨u, hu⟩ := r.bz i b q3; rw [h3] at hu; cases hu
      rw [← hz b z]; exact e
  · obtain ⟨d', hd⟩ := own_of hi
    obtain ⟨b, q1, _, _, _, q5⟩ := r'.own hd
    rw [e] at q1; cases q1
    exact q5 (.inl rfl)
end

/-! ## statements -/
inductive Out where
  | nx | ret (x : XV) | brk | cont
def GotS (J : Jd) (W : Fm) (G : Hp) (r : R Out) (E : Ends) : Prop := match r with
  | .ok .nx ρ => ∀ σ H' G', Ge G G' → Rel J.C W σ ρ H' G' → E.nx σ H'
  | .ok (.ret x) ρ => ∀ v σ H' G', Ge G G' → Rel J.C W σ ρ H' G' → VOk J.C W σ ρ H' G' v x → E.rt v H'
  | .ok .brk ρ => ∀ σ H' G', Ge G G' → Rel J.C W σ ρ H' G' → E.bk σ H'
  | .ok .cont ρ => ∀ σ H' G', Ge G G' → Rel J.C W σ ρ H' G' → E.ct σ H'
  | .exc c ns vs ρ => ∀ d σ H' G', Ge G G' → Rel J.C W σ ρ H' G' → ExcAt J.C H' G' d ns vs → J.EW (.ref (J.C.CA c)) d σ H'
  | .stuck => False
def EvS (J : Jd) (ts : TS) (f : Env → R Out) : Prop := ∀ W σ ρ H G E, PinOk W J.P → Rel J.C W σ ρ H G → GotS J W G (f ρ) E → ts E σ H
section
variable {ι : Type}
def CS (J : Jd) (Xs : ι → Cx) (st : Stmt) (f : Env → R Out) : Prop := ∃ ts, (∀ i, Good J (Xs i) → PS (Xs i) st ts) ∧ EvS J ts f
def CSs (J : Jd) (Xs : ι → Cx) (st : List Stmt) (f : Env → R Out) : Prop := ∃ ts, (∀ i, Good J (Xs i) → PSs (Xs i) st ts) ∧ EvS J ts f
end
section
variable {J : Jd} {W : Fm} {σ : St} {ρ : Env} {H G G' : Hp} {E : Ends}
theorem GotS.later {r : R Out} (g : GotS J W G r E) (e : Ge G G') : GotS J W G' r E := by
  cases r with
  | ok a ρ => cases a with
    | nx => exact fun σ H' G'' e' r => g σ H' G'' (e.trans e') r
    | ret x => exact fun v σ H' G'' e' r => g v σ H' G'' (e.trans e') r
    | brk => exact fun σ H' G'' e' r => g σ H' G'' (e.trans e') r
    | cont => exact fun σ H' G'' e' r => g σ H' G'' (e.trans e') r
  | exc c ns vs ρ => exact fun d σ H' G'' e' r x => g d σ H' G'' (e.trans e') r x
  | stuck => exact g
theorem GotS.bind {α : Type} {r : R α} {g : α → Env → R Out} (h : GotS J W G (r.bind g) E) : Got J W σ G r (fun a ρ _ G' => GotS J W G' (g a ρ) E) := by
  cases r with
  | ok a ρ => exact fun H' G' e r => h.later e
  | exc c ns vs ρ => exact fun d H' G' e r x => h d σ H' G' e r x
  | stuck => exact h
end
def seqS (f g : Env → R Out) : Env → R Out := fun ρ => match f ρ with
  | .ok .nx ρ => g ρ
  | r => r
def nextS : Env → R Out := fun ρ => .ok .nx ρ
theorem GotS.seq {J : Jd} {W : Fm} {G : Hp} {f g : Env → R Out} {u : TS} {E : Ends} {ρ : Env} (hg : EvS J u g) (pk : PinOk W J.P) (h : GotS J W G (seqS f g ρ) E) : GotS J W G (f ρ) { E with nx := u E } := by
  unfold seqS at h
  cases z : f ρ with
  | ok a ρ' =>
    rw [z] at h
    cases a with
    | nx => exact fun σ H' G' e r => hg W σ ρ' H' G' E pk r (h.later e)
    | ret x => exact h
    | brk => exact h
    | cont => exact h
  | exc c ns vs ρ' => rw [z] at h; exact h
  | stuck => rw [z] at h; exact h
section
variable {ι : Type} {J : Jd} {Xs : ι → Cx} {st : Stmt} {rest : List Stmt} {a b c e : Expr} {es : List Expr} {f g : Env → R Out} {fe ge : Env → R XV} {fs : Env → R (List XV)} {ft : Env → R Bool} {pos : Pos}
theorem css_nil : CSs J Xs [] nextS := ⟨_, fun i _ => pss_nil, fun W σ ρ H G E pk r h => h σ H G (Ge.refl _) r⟩
theorem css_cons (h : CS J Xs st f) (h' : CSs J Xs rest g) : CSs J Xs (st :: rest) (seqS f g) := by
  obtain ⟨t, h1, h2⟩ := h
  obtain ⟨u, k1, k2⟩ := h'
  exact ⟨_, fun i G => pss_cons (h1 i G) (k1 i G), fun W σ ρ H G E pk r h => h2 W σ ρ H G _ pk r (GotS.seq k2 pk h)⟩
theorem css_one (h : CS J Xs st f) : CSs J Xs [st] f := by
  obtain ⟨t, h1, h2⟩ := h
  exact ⟨_, fun i G => pss_one (h1 i G), h2⟩
theorem cs_pass : CS J Xs (.Pass pos) nextS := ⟨_, fun i _ => ps_pass, fun W σ ρ H G E pk r h => h σ H G (Ge.refl _) r⟩
def brkS : Env → R Out := fun ρ => .ok .brk ρ
def contS : Env → R Out := fun ρ => .ok .cont ρ
theorem cs_break : CS J Xs (.Break pos) brkS := ⟨_, fun i _ => ps_break, fun W σ ρ H G E pk r h => h σ H G (Ge.refl _) r⟩
theorem cs_continue : CS J Xs (.Continue pos) contS := ⟨_, fun i _ => ps_continue, fun W σ ρ H G E pk r h => h σ H G (Ge.refl _) r⟩
theorem cs_doc {x : Str} {j p} : CS J Xs (.Expr (.Constant (.str x) j p) pos) nextS := ⟨_, fun i _ => ps_doc, fun W σ ρ H G E pk r h => h σ H G (Ge.refl _) r⟩
/-- what is never reached -/
def neverS : Env → R Out := fun _ => .stuck
theorem cs_never : CS J Xs st neverS := ⟨_, fun i _ => ps_never, fun W σ ρ H G E pk r h => h⟩
theorem css_never {sts : List Stmt} : CSs J Xs sts neverS := ⟨_, fun i _ => pss_never, fun W σ ρ H G E pk r h => h⟩
/-- return e -/
def retS (f : Env → R XV) : Env → R Out := fun ρ => (f ρ).bind fun x ρ => .ok (.ret x) ρ
theorem cs_ret (h : CE J Xs e fe) : CS J Xs (.Return (some e) pos) (retS fe) := by
  obtain ⟨t, h1, h2⟩ := h
  refine ⟨_, fun i G => ps_ret (h1 i G), fun W σ ρ H G E pk r h => ?_⟩
  refine h2 W σ ρ H G _ pk r ((GotS.bind h).imp fun x ρ1 H1 G1 e1 r1 k v vk => k v σ H1 G1 (Ge.refl _) r1 vk)
def retN : Env → R Out := fun ρ => .ok (.ret (.dat .non)) ρ
theorem cs_retN : CS J Xs (.Return none pos) retN := ⟨_, fun i _ => ps_retN, fun W σ ρ H G E pk r h => h .non σ H G (Ge.refl _) r .non⟩
/-- an expression, its value dropped -/
def dropS (f : Env → R XV) : Env → R Out := fun ρ => (f ρ).bind fun _ ρ => .ok .nx ρ
theorem cs_expr (h : CE J Xs e fe) (hs : ∀ i, swapsWith e none pos.line (Xs i).env = pure false := by intro _; rfl) : CS J Xs (.Expr e pos) (dropS fe) := by
  obtain ⟨t, h1, h2⟩ := h
  refine ⟨_, fun i G => ps_expr (h1 i G) (hs i), fun W σ ρ H G E pk r h => ?_⟩
  refine h2 W σ ρ H G _ pk r ((GotS.bind h).imp fun x ρ1 H1 G1 e1 r1 k v vk => k σ H1 G1 (Ge.refl _) r1)
/-- if -/
def iteS (t : Env → R Bool) (f g : Env → R Out) : Env → R Out := fun ρ => (t ρ).bind fun b ρ => if b = true then f ρ else g ρ
theorem cs_if {xs ys : List Stmt} (hc : CT J Xs c ft) (ha : CSs J Xs xs f) (hb : CSs J Xs ys g) : CS J Xs (.If c xs ys pos) (iteS ft f g) := by
  obtain ⟨t, h1, h2⟩ := hc
  obtain ⟨u, k1, k2⟩ := ha
  obtain ⟨w, l1, l2⟩ := hb
  refine ⟨_, fun i G => ps_if (h1 i G) (k1 i G) (l1 i G), fun W σ ρ H G E pk r h => ?_⟩
  refine h2 W σ ρ H G _ pk r ((GotS.bind h).imp fun bb ρ1 H1 G1 e1 r1 k => ?_)
  cases bb
  · rw [if_neg (by decide)] at k ⊢; exact l2 W σ ρ1 H1 G1 _ pk r1 k
  · rw [if_pos rfl] at k ⊢; exact k2 W σ ρ1 H1 G1 _ pk r1 k
/-! ### a name stored -/
/-- a value that a name takes over: new, or frozen -/
def takeX (x : XV) (ρ : Env) : R XV := match x with
  | .slot i => match ρ.at i with
    | .own d => .ok (.dat d) (ρ.set i (.dat d))
    | _ => .stuck
  | x => .ok x ρ
def svOf : XV → SV
  | .dat d => .dat d
  | .own d => .own d
  | .slot _ => .un
theorem take_ok {W : Fm} {σ : St} {ρ : Env} {H G : Hp} {v : V} {x : XV} {K : XV → Env → Hp → Hp → Prop} (rl : Rel J.C W σ ρ H G) (vk : VOk J.C W σ ρ H G v x) (h : Got J W σ G (takeX x ρ) K) :
    ∃ x' ρ' G', Ge G G' ∧ Rel J.C W σ ρ' H G' ∧ VOk J.C W σ ρ' H G' v x' ∧ (∀ i, x' ≠ .slot i) ∧ K x' ρ' H G' := by
  cases x with
  | dat d => exact ⟨_, ρ, G, Ge.refl _, rl, vk, fun i e => (by cases e), h H G (Ge.refl _) rl⟩
  | own d => exact ⟨_, ρ, G, Ge.refl _, rl, vk, fun i e => (by cases e), h H G (Ge.refl _) rl⟩
  | slot i =>
    unfold takeX at h
    dsimp only at h
    rcases vk with ⟨h1, ⟨d, h2⟩ | ⟨d, h2⟩⟩
    · rw [h2] at h
      obtain ⟨w, G2, e1, e2, r2, i2⟩ := rl.frzSlot h2
      rw [h1] at e1; cases e1
      exact ⟨.dat d, _, G2, e2, r2, i2, fun i e => (by cases e), h H G2 e2 r2⟩
    · rw [h2] at h; exact h.elim
theorem Rel.setX {C : Cst} {W : Fm} {σ : St} {ρ : Env} {H G : Hp} (r : Rel C W σ ρ H G) {i : Nat} {v : V} {x : XV} (h : VOk C W σ ρ H G v x) (hx : ∀ i, x ≠ .slot i) (hp : ∀ p ∈ W.pin, p.1 ≠ i) : Rel C W (σ.set i (some v)) (ρ.set i (svOf x)) H G := by
  by_cases hi : i < ρ.length
  · cases x with
    | dat d => exact r.setDat h hp hi
    | own d => exact r.setOwn h hp hi
    | slot i => exact absurd rfl (hx i)
  · rw [List.set_eq_of_length_le (by rw [r.ln]; omega), List.set_eq_of_length_le (by omega)]
    exact r
def storeS (i : Nat) (x : XV) (ρ : Env) : R Out := (takeX x ρ).bind fun x ρ => .ok .nx (ρ.set i (svOf x))
def asgS (i : Nat) (f : Env → R XV) : Env → R Out := fun ρ => (f ρ).bind (storeS i)
theorem ev_asg {te : TE} {i : Nat} (h : EvE J te fe) (hp : i ∉ J.P) : EvS J (tAsg te (gName i)) (asgS i fe) := by
  intro W σ ρ H G E pk r k
  refine h W σ ρ H G _ pk r ((GotS.bind k).imp fun x ρ1 H1 G1 e1 r1 k v vk => ?_)
  obtain ⟨x', ρ', G', g1, g2, g3, g4, g5⟩ := take_ok r1 vk (GotS.bind k)
  exact g5 (σ.set i (some v)) H1 G' (Ge.refl _) (g2.setX g3 g4 fun p hp' e => hp (e ▸ pk p hp'))
theorem cs_set {i : Nat} {x : Str} {p : Pos} (h : CE J Xs e fe) (hp : i ∉ J.P) (hi : ∀ j, (Xs j).N[i]? = some x := by intro _; rfl) (hx : ∀ j, Loc (Xs j).env.scope x := by first | exact fun _ => Or.inl rfl | exact fun _ => Or.inr rfl)
    (hs : ∀ j, swapsWith e (some (.Name x p)) pos.line (Xs j).env = pure false := by intro _; rfl) (hf : ∀ j, (Xs j).fn x = true ∨ (Xs j).env.scope.names.lookup x = some .local := by first | exact fun _ => Or.inl rfl | exact fun _ => Or.inr rfl) :
    CS J Xs (.Assign [.Name x p] e pos) (asgS i fe) := by
  obtain ⟨t, h1, h2⟩ := h
  exact ⟨_, fun j G => ps_set G.nd (hi j) (hx j) (h1 j G) (hs j) (hf j), ev_asg h2 hp⟩
/-! ### a, b = x, y -/
def pairS (f g : Env → R XV) : Env → R (XV × XV) := fun ρ => (f ρ).bind fun x ρ => (takeX x ρ).bind fun x ρ => (g ρ).bind fun y ρ => (takeX y ρ).bind fun y ρ => .ok (x, y) ρ
def par2S (i j : Nat) (f g : Env → R XV) : Env → R Out := fun ρ => (pairS f g ρ).bind fun p ρ => .ok .nx ((ρ.set i (svOf p.1)).set j (svOf p.2))
theorem ev_par2 {ta tb : TE} {i j : Nat} (h : EvE J ta fe) (h' : EvE J tb ge) (hi : i ∉ J.P) (hj : j ∉ J.P) : EvS J (tPar i j (tCons ta (tCons tb tNil))) (par2S i j fe ge) := by
  intro W σ ρ H G E pk r k
  have k := GotS.bind (σ := σ) k
  refine h W σ ρ H G _ pk r ((Got.bind k).imp fun x ρ1 H1 G1 e1 r1 k v vk => ?_)
  obtain ⟨x', ρ2, G2, g1, r2, v2, nx, k⟩ := take_ok r1 vk (Got.bind k)
  have fin : ∀ (y : XV) (ρ3 : Env) (H3 G3 : Hp) (w : V), Rel J.C W σ ρ3 H3 G3 → VOk J.C W σ ρ3 H3 G3 v x' → VOk J.C W σ ρ3 H3 G3 w y → (∀ i, y ≠ .slot i) → (∀ d e, x' = .own d → y = .own e → v ≠ w) →
      GotS J W G3 (.ok .nx ((ρ3.set i (svOf x')).set j (svOf y))) E → ∃ v' w', [v, w] = [v', w'] ∧ E.nx ((σ.set i (some v')).set j (some w')) H3 := by
    intro y ρ3 H3 G3 w r3 v3 w3 ny nn k
    refine ⟨v, w, rfl, k _ H3 G3 (Ge.refl _) ?_⟩
    have ra := r3.setX (i := i) v3 nx fun p hp e => hi (e ▸ pk p hp)
    refine ra.setX (i := j) ?_ ny fun p hp e => hj (e ▸ pk p hp)
    cases y with
    | dat d => exact w3
    | slot n => exact absurd rfl (ny n)
    | own d =>
      obtain ⟨b, e, q1, q2, q3, q4, q5⟩ := w3
      refine ⟨b, e, q1, q2, q3, q4, fun n hn en => ?_⟩
      by_cases z : n = i
      · subst z
        by_cases hl : n < ρ3.length
        · rw [Env.at_set hl, if_pos rfl] at hn
          cases x' with
          | dat d' => cases hn
          | slot m => cases hn
          | own d' =>
            refine nn d' d rfl rfl ?_
            have hl' : n < σ.length := by rw [r3.ln]; exact hl
            simp [hl'] at en
            exact en
        · rw [List.set_eq_of_length_le (by omega)] at hn
          rw [Env.at_out (by omega)] at hn
          cases hn
      · rw [Env.at_set_ne z] at hn
        rw [List.getElem?_set_ne (Ne.symm z)] at en
        exact q5 n hn en
  cases x' with
  | slot n => exact absurd rfl (nx n)
  | dat d =>
    refine h' W σ ρ2 H1 G2 _ pk r2 ((Got.bind k).imp fun y ρ3 H3 G3 e3 r3 k w wk => ?_)
    obtain ⟨y', ρ4, G4, g4, r4, w4, ny, k⟩ := take_ok r3 wk (Got.bind k)
    exact fin y' ρ4 H3 G4 w r4 (IsD.ge v2 (e3.trans g4)) w4 ny (fun d e z => by cases z) (k H3 G4 (Ge.refl _) r4)
  | own d =>
    obtain ⟨a, rfl, ow, _⟩ := id v2
    obtain ⟨o, ho⟩ := ow.there
    have rh := r2.hold v2 ho
    have pk' : PinOk (W.hold a o) J.P := pk
    -- the second part runs while the first object is held
    have k2 : Got J (W.hold a o) σ G2 ((ge ρ2).bind fun y ρ => (takeX y ρ).bind fun y ρ => .ok (XV.own d, y) ρ) (fun p ρ _ G' => GotS J W G' (.ok .nx ((ρ.set i (svOf p.1)).set j (svOf p.2))) E) := by
      cases z : (ge ρ2).bind fun y ρ => (takeX y ρ).bind fun y ρ => .ok (XV.own d, y) ρ with
      | stuck => rw [z] at k; exact k
      | ok p ρ' => rw [z] at k; exact fun H' G' e r => k H' G' e (r2.unhold v2 ho e r).1
      | exc c ns vs ρ' => rw [z] at k; exact fun dd H' G' e r x => k dd H' G' e (r2.unhold v2 ho e r).1 x
    refine h' (W.hold a o) σ ρ2 H1 G2 _ pk' rh ((Got.bind k2).imp fun y ρ3 H3 G3 e3 r3 k w wk => ?_)
    obtain ⟨y', ρ4, G4, g4, r4, w4, ny, k⟩ := take_ok r3 wk (Got.bind k)
    obtain ⟨rw, vw⟩ := r2.unhold v2 ho (e3.trans g4) r4
    refine fin y' ρ4 H3 G4 w rw vw ?_ ny (fun d1 e1 _ z => ?_) (k H3 G4 (Ge.refl _) r4)
    · cases y' with
      | dat d => exact w4
      | slot n => exact absurd rfl (ny n)
      | own d' =>
        obtain ⟨b, e, q1, q2, q3, q4, q5⟩ := w4
        have z : b ≠ a := fun z => q4 (.inl z)
        exact ⟨b, e, q1, q2, by rw [← show (W.hold a o).Z b = W.Z b from upd_ne z]; exact q3, fun y => q4 (.inr y), q5⟩
    · subst z
      intro e
      obtain ⟨b, e', _, _, _, q4, _⟩ := w4
      rw [← e] at e'; cases e'
      exact q4 (.inl rfl)
theorem cs_par2 {i j : Nat} {x y : Str} {px py pt : Pos} {kt k2 pt2} (h : CE J Xs a fe) (h' : CE J Xs b ge) (hpi : i ∉ J.P) (hpj : j ∉ J.P) (hij : i ≠ j) (hi : ∀ n, (Xs n).N[i]? = some x := by intro _; rfl) (hj : ∀ n, (Xs n).N[j]? = some y := by intro _; rfl)
    (hx : ∀ n, (Xs n).env.scope.names.lookup x = some .local := by intro _; rfl) (hy : ∀ n, (Xs n).env.scope.names.lookup y = some .local := by intro _; rfl)
    (he : ∀ n, starEach [a, b] (Xs n).env = (false, eval a (Xs n).env) :: starEach [b] (Xs n).env := by intro _; rfl) (he2 : ∀ n, starEach [b] (Xs n).env = (false, eval b (Xs n).env) :: starEach [] (Xs n).env := by intro _; rfl)
    (hw : ∀ n, swappedStores [.Tuple [.Name x px, .Name y py] kt pt] (.Tuple [a, b] k2 pt2) (Xs n).env = pure (some [x, y]) := by intro _; rfl)
    (hs : ∀ n, swapsWithSole [.Tuple [.Name x px, .Name y py] kt pt] (.Tuple [a, b] k2 pt2) pos.line (Xs n).env = pure false := by intro _; rfl) :
    CS J Xs (.Assign [.Tuple [.Name x px, .Name y py] kt pt] (.Tuple [a, b] k2 pt2) pos) (par2S i j fe ge) := by
  obtain ⟨t, h1, h2⟩ := h
  obtain ⟨u, k1, k2⟩ := h'
  exact ⟨_, fun n G => ps_par G.calm G.nd (hi n) (hj n) hij (hx n) (hy n) (pa_cons (h1 n G) (pa_cons (k1 n G) pa_nil (he2 n)) (he n)) (hw n) (hs n), ev_par2 h2 k2 hpi hpj⟩
end

/-! ## a def by its body -/
def outsOf : List SV → Env → List SV
  | [], _ => []
  | .own _ :: l, ρ => backSV (ρ.at 0) :: outsOf l ρ.tail
  | s :: l, ρ => s :: outsOf l ρ.tail
def ownIn (P : List Nat) : Nat → List SV → Bool
  | _, [] => true
  | j, .own _ :: l => P.contains j && ownIn P (j + 1) l
  | j, _ :: l => ownIn P (j + 1) l
/-- what a body's end hands back -/
def endF (n : Nat) (args : List SV) : R Out → FR
  | .ok .nx ρ => .ok (.dat .non) (outsOf args ρ)
  | .ok (.ret (.dat d)) ρ => .ok (.dat d) (outsOf args ρ)
  | .ok (.ret (.own d)) ρ => .ok (.own d) (outsOf args ρ)
  | .ok (.ret (.slot i)) ρ => if n ≤ i then match ρ.at i with
      | .own d => .ok (.own d) (outsOf args ρ)
      | _ => .stuck
    else .stuck
  | .exc c ns vs ρ => .exc c ns vs (outsOf args ρ)
  | _ => .stuck
def runF (n m : Nat) (P : List Nat) (b : Env → R Out) : FnM := fun args => if ownIn P 0 args = true then endF n args (b (args ++ List.replicate m .un)) else .stuck
theorem outsOf_len : ∀ (l : List SV) (ρ : Env), (outsOf l ρ).length = l.length
  | [], _ => rfl
  | s :: l, ρ => by cases s <;> simp [outsOf, outsOf_len l ρ.tail]
theorem at_tail (ρ : Env) (i : Nat) : Env.at ρ.tail i = Env.at ρ (i + 1) := by
  unfold Env.at
  cases ρ with
  | nil => simp
  | cons s ρ => simp
theorem at_cons (s : SV) (ρ : List SV) (i : Nat) : Env.at (s :: ρ) (i + 1) = Env.at ρ i := by unfold Env.at; simp
theorem outsOf_at : ∀ (l : List SV) (ρ : Env) (i : Nat), i < l.length → Env.at (outsOf l ρ) i = if (Env.at l i).isOwn = true then backSV (ρ.at i) else Env.at l i
  | [], _, _, h => by simp at h
  | s :: l, ρ, 0, _ => by cases s <;> rfl
  | s :: l, ρ, i + 1, h => by
    have ih := outsOf_at l ρ.tail i (by simpa using h)
    rw [at_cons, ← at_tail ρ]
    cases s <;> (simp only [outsOf]; rw [at_cons]; exact ih)
theorem ownIn_mem {P : List Nat} : ∀ {n : Nat} {l : List SV} {i : Nat}, ownIn P n l = true → (Env.at l i).isOwn = true → n + i ∈ P
  | n, [], i, _, h => by simp [Env.at] at h; cases h
  | n, s :: l, 0, h, h' => by
    have : s.isOwn = true := h'
    obtain ⟨d, rfl⟩ := own_of this
    simp [ownIn] at h
    simpa using h.1
  | n, s :: l, i + 1, h, h' => by
    rw [at_cons] at h'
    have : ownIn P (n + 1) l = true := by
      cases s <;> first | (simp [ownIn] at h; exact h.2) | (simp only [ownIn] at h; exact h)
    have := ownIn_mem this h'
    rwa [show n + (i + 1) = n + 1 + i by omega]
section
variable {C : Cst} {W : Fm} {σ : St} {ρ : Env} {H G H' G' : Hp}
theorem Rel.more (r : Rel C W σ ρ H G) (m : Nat) : Rel C W (σ ++ List.replicate m none) (ρ ++ List.replicate m .un) H G := by
  have atL : ∀ i, Env.at (ρ ++ List.replicate m .un) i = ρ.at i := fun i => by
    unfold Env.at
    by_cases h : i < ρ.length
    · rw [List.getElem?_append_left h]
    · rw [List.getElem?_append_right (by omega), List.getElem?_eq_none (l := ρ) (by omega), List.getElem?_replicate]
      split <;> rfl
  have own : ∀ i, (ρ.at i).isOwn = true → i < σ.length := fun i h => by
    rw [r.ln]
    exact own_lt fun z => by rw [z] at h; cases h
  have slot : ∀ i, i < σ.length → (σ ++ List.replicate m none)[i]? = σ[i]? := fun i h => List.getElem?_append_left h
  refine ⟨r.gh, r.zh, r.nn, r.bz, fun p hp => ?_, by rw [List.length_append, List.length_append, List.length_replicate, List.length_replicate, r.ln], fun i => ?_, fun i j a ij h1 h2 e1 e2 => ?_⟩
  · have := r.pn p hp
    rw [slot _ (List.getElem?_eq_some_iff.mp this).1]; exact this
  · rw [atL]
    have q := r.at_ i
    by_cases h : i < σ.length
    · rw [slot i h]; exact q
    · rw [Env.at_out (by rw [← r.ln]; omega)]; trivial
  · rw [atL] at h1 h2
    rw [slot i (own i h1)] at e1
    rw [slot j (own j h2)] at e2
    exact r.ne i j a ij h1 h2 e1 e2
/-- a slot that was handed over and is held still -/
theorem own_out {vs : List V} {args : List SV} {σ' : St} {ρ' : Env} (r : Rel C W (vs.map some) args H G) (hp : ∀ j a, (Env.at args j).isOwn = true → vs[j]? = some (.ref a) → (j, a) ∈ W.pin) (r' : Rel C W σ' ρ' H' G') :
    (∀ j, (Env.at args j).isOwn = true → ∃ a, (vs.map some)[j]? = some (some (.ref a)) ∧ σ'[j]? = some (some (.ref a)) ∧ W.Z a = none ∧ ¬ W.N a) ∧
    ∀ i, (Env.at (outsOf args ρ') i).isOwn = true → i < args.length ∧ (Env.at args i).isOwn = true ∧ (ρ'.at i).isOwn = true ∧ Env.at (outsOf args ρ') i = ρ'.at i := by
  have slotV : ∀ j, (Env.at args j).isOwn = true → ∃ a, (vs.map some)[j]? = some (some (.ref a)) ∧ σ'[j]? = some (some (.ref a)) ∧ W.Z a = none ∧ ¬ W.N a := fun j hj => by
    obtain ⟨d, hd⟩ := own_of hj
    obtain ⟨a, h1, _, _, h4, h5⟩ := r.own hd
    have hv : vs[j]? = some (.ref a) := by
      rw [List.getElem?_map] at h1
      cases e : vs[j]? with
      | none => rw [e] at h1; cases h1
      | some v => rw [e] at h1; cases h1; rfl
    exact ⟨a, h1, r'.pn _ (hp j a hj hv), h4, h5⟩
  have ownOut : ∀ i, (Env.at (outsOf args ρ') i).isOwn = true → i < args.length ∧ (Env.at args i).isOwn = true ∧ (ρ'.at i).isOwn = true ∧ Env.at (outsOf args ρ') i = ρ'.at i := fun i h => by
    have hi : i < args.length := by
      have := own_lt (ρ := outsOf args ρ') (i := i) fun z => by rw [z] at h; cases h
      rwa [outsOf_len] at this
    have e := outsOf_at args ρ' i hi
    by_cases ho : (Env.at args i).isOwn = true
    · rw [if_pos ho] at e
      cases s : ρ'.at i with
      | own d => exact ⟨hi, ho, rfl, by rw [e, s]; rfl⟩
      | un => rw [e, s] at h; cases h
      | dat d => rw [e, s] at h; cases h
      | brw d => rw [e, s] at h; cases h
    · rw [if_neg ho] at e; rw [e] at h; exact absurd h ho
  exact ⟨slotV, ownOut⟩
/-- back from the body to the arguments -/
theorem body_rel {vs : List V} {args : List SV} {σ' : St} {ρ' : Env} (r : Rel C W (vs.map some) args H G) (g : Ge G G') (hp : ∀ j a, (Env.at args j).isOwn = true → vs[j]? = some (.ref a) → (j, a) ∈ W.pin)
    (r' : Rel C W σ' ρ' H' G') : Rel C W (vs.map some) (outsOf args ρ') H' G' := by
  obtain ⟨slotV, ownOut⟩ := own_out r hp r'
  refine ⟨r'.gh, r'.zh, r'.nn, r.bz, r.pn, by rw [outsOf_len]; exact r.ln, fun i => ?_, fun i j a ij h1 h2 e1 e2 => ?_⟩
  · by_cases hi : i < args.length
    · rw [outsOf_at args ρ' i hi]
      by_cases ho : (Env.at args i).isOwn = true
      · rw [if_pos ho]
        obtain ⟨a, h1, h2, _⟩ := slotV i ho
        have q := r'.at_ i
        rw [h2] at q
        rw [h1]
        cases s : ρ'.at i with
        | un => trivial
        | brw d => trivial
        | dat d => rw [s] at q; exact q
        | own d => rw [s] at q; exact q
      · rw [if_neg ho]
        have q := r.at_ i
        cases s : Env.at args i with
        | un => trivial
        | dat d => rw [s] at q; obtain ⟨v, q1, q2⟩ := q; exact ⟨v, q1, q2.ge g⟩
        | own d => rw [s] at ho; exact absurd rfl ho
        | brw d => rw [s] at q; obtain ⟨a, q1, q2, q3⟩ := q; exact ⟨a, q1, q2.move (fun _ z => z) g, q3⟩
    · rw [Env.at_out (by rw [outsOf_len]; omega)]; trivial
  · obtain ⟨_, o1, p1, _⟩ := ownOut i h1
    obtain ⟨_, o2, p2, _⟩ := ownOut j h2
    obtain ⟨b, b1, b2, _⟩ := slotV i o1
    obtain ⟨c, c1, c2, _⟩ := slotV j o2
    rw [b1] at e1; cases e1
    rw [c1] at e2; cases e2
    exact r'.ne i j a ij p1 p2 b2 c2
theorem body_own {vs : List V} {args : List SV} {σ' : St} {ρ' : Env} (r : Rel C W (vs.map some) args H G) (hp : ∀ j a, (Env.at args j).isOwn = true → vs[j]? = some (.ref a) → (j, a) ∈ W.pin)
    (r' : Rel C W σ' ρ' H' G') {v : V} {d : D} (h : VOk C W σ' ρ' H' G' v (.own d)) : VOk C W (vs.map some) (outsOf args ρ') H' G' v (.own d) := by
  obtain ⟨slotV, ownOut⟩ := own_out r hp r'
  obtain ⟨a, rfl, h1, h2, h3, h4, h5⟩ := h
  refine ⟨a, rfl, h1, h2, h3, h4, fun i hi e => ?_⟩
  obtain ⟨_, o1, p1, _⟩ := ownOut i hi
  obtain ⟨b, b1, b2, _⟩ := slotV i o1
  rw [b1] at e; cases e
  exact h5 i p1 b2
theorem body_slot {vs : List V} {args : List SV} {σ' : St} {ρ' : Env} (r : Rel C W (vs.map some) args H G) (hp : ∀ j a, (Env.at args j).isOwn = true → vs[j]? = some (.ref a) → (j, a) ∈ W.pin)
    (r' : Rel C W σ' ρ' H' G') {v : V} {d : D} {n : Nat} (hn : args.length ≤ n) (h : ρ'.at n = .own d) (hv : σ'[n]? = some (some v)) : VOk C W (vs.map some) (outsOf args ρ') H' G' v (.own d) := by
  obtain ⟨slotV, ownOut⟩ := own_out r hp r'
  obtain ⟨a, q1, q2, q3, q4, q5⟩ := r'.own h
  rw [hv] at q1; cases q1
  refine ⟨a, rfl, q2, q3, q4, q5, fun i hi e => ?_⟩
  obtain ⟨l, o1, p1, _⟩ := ownOut i hi
  obtain ⟨b, b1, b2, _⟩ := slotV i o1
  rw [b1] at e; cases e
  exact r'.ne i n a (by omega) p1 (by rw [h]; rfl) b2 hv
end
section
variable {P : Program} {w : World} {C : Cst} {mg : Str → Option Value} {base : Heap}
/-- THE RULE of a def -/
theorem fn_ok {x qual : Str} {st : Stmt} {f : Addr} {fd : FuncData} {N ps : List Str} {k n m : Nat} {Pn : List Nat} {b : Env → R Out} (F : Fun C.K x qual st f fd) (S : FnScope N ps (defScope st)) (hn : ps.length = n) (hm : N.length = n + m)
    (hb : ∀ (cdv : Value) (A : Around) (outer : List PySem.Env) (s : Shared) (H : Hp) (E : XK), CSs ⟨C, k, fun c d _ H => E c d H, Pn⟩ (fun _ : Unit => cxOf (L2.CX P w) P w C.K mg base N qual (defScope st) f cdv A outer s H E) (defBody st) b) :
    FnOk P w C.K mg base (L2.CX P w) (k + 1) f fd ps (spF C n (runF n m Pn b)) := by
  refine F.okX S (fun vs H Q E h => ?_) (fun cdv A outer s H vs Q E hr h => ?_)
  · obtain ⟨W, G, args, h1, _⟩ := h
    rw [h1, hn]
  · obtain ⟨W, G, args, h1, h2, h3, h4, h5⟩ := h
    obtain ⟨t, t1, t2⟩ := hb cdv A outer s H E
    refine ⟨t, t1 () ⟨rfl, rfl, S.nd, hr, takes_of rfl rfl rfl rfl, passes_of rfl⟩, ?_⟩
    have hal : args.length = n := by rw [← h2.ln, List.length_map, h1]
    have hst : L2.start N vs = vs.map some ++ List.replicate m none := by
      unfold L2.start
      rw [h1, hm, show n + m - n = m by omega]
    rw [hst]
    unfold runF at h5
    by_cases ho : ownIn Pn 0 args = true
    · rw [if_pos ho] at h5
      refine t2 W _ _ H G _ (fun p hp => ?_) (h2.more m) ?_
      · have := ownIn_mem (n := 0) ho (h3 p hp)
        rwa [Nat.zero_add] at this
      · have fin : ∀ {σ' : St} {ρ' : Env} {H' G' : Hp}, Ge G G' → Rel C W σ' ρ' H' G' → Rel C W (vs.map some) (outsOf args ρ') H' G' := fun g r' => body_rel h2 g h4 r'
        cases z : b (args ++ List.replicate m .un) with
        | stuck => rw [z] at h5; exact h5
        | exc c ns ds ρ' =>
          rw [z] at h5
          exact fun d σ' H' G' g r' ex => h5 d H' G' g (fin g r') ex
        | ok o ρ' =>
          rw [z] at h5
          cases o with
          | brk => exact h5.elim
          | cont => exact h5.elim
          | nx => exact fun σ' H' G' g r' => h5 .non H' G' g (fin g r') .non fun i e => (by cases e)
          | ret y =>
            intro v σ' H' G' g r' vk
            cases y with
            | dat d => exact h5 v H' G' g (fin g r') vk fun i e => (by cases e)
            | own d => exact h5 v H' G' g (fin g r') (body_own h2 h4 r' vk) fun i e => (by cases e)
            | slot i =>
              unfold endF at h5
              dsimp only at h5
              by_cases hni : n ≤ i
              · rw [if_pos hni] at h5
                rcases vk with ⟨v1, ⟨d, v2⟩ | ⟨d, v2⟩⟩
                · rw [v2] at h5
                  exact h5 v H' G' g (fin g r') (body_slot h2 h4 r' (by omega) v2 v1) fun i e => (by cases e)
                · rw [v2] at h5; exact h5.elim
              · rw [if_neg hni] at h5; exact h5.elim
    · rw [if_neg ho] at h5
      exact h5.elim
end
end DL
namespace DL
open PySem L2

/-! ## what is walked -/
/-- a walk over these items, wherever W's frame stands and G is frozen -/
def WalkOk (C : Cst) (W : Fm) (G : Hp) (It : It) (items : List D) : Prop := ∃ (Gd : Hp → Prop) (Y : Nat → Hp → V → Hp → Prop), Walk It items.length Gd Y ∧
  (∀ σ ρ H G', Ge G G' → Rel C W σ ρ H G' → Gd H) ∧
  ∀ i d, items[i]? = some d → ∀ W' σ ρ H G' x H', Rel C W' σ ρ H G' → Ge G G' → Y i H x H' → (∀ a o, W.Z a = some o → W'.Z a = some o) → ∃ G2, Ge G' G2 ∧ Rel C W' σ ρ H' G2 ∧ IsD C G2 x d
def EvI (J : Jd) (wi : TI) (fi : Env → R (List D)) : Prop := ∀ W σ ρ H G (K : It → Hp → Prop), PinOk W J.P → Rel J.C W σ ρ H G →
  Got J W σ G (fi ρ) (fun items _ H' G' => ∀ It, WalkOk J.C W G' It items → K It H') → wi σ H K
def CI {ι : Type} (J : Jd) (Xs : ι → Cx) (tg iter : Expr) (fi : Env → R (List D)) : Prop := ∃ wi, (∀ i, Good J (Xs i) → PI (Xs i) tg iter wi) ∧ EvI J wi fi

/-! ## targets -/
def EvG (J : Jd) (g : TG) (ts : List Nat) (ft : D → Env → Option Env) : Prop := ∀ W σ ρ H G v d ρ' (Q : St → Hp → Prop), PinOk W J.P → Rel J.C W σ ρ H G → IsD J.C G v d → ft d ρ = some ρ' →
  (∀ σ', (∀ vs : List Nat, (∀ j ∈ ts, j ∈ vs) → wipe σ' vs = wipe σ vs) → Rel J.C W σ' ρ' H G → Q σ' H) → g v σ H Q
def EvGs (J : Jd) (g : TGs) (ts : List Nat) (ft : List D → Env → Option Env) : Prop := ∀ W σ ρ H G vs ds ρ' (Q : St → Hp → Prop), PinOk W J.P → Rel J.C W σ ρ H G → IsDs J.C G vs ds → ft ds ρ = some ρ' →
  (∀ σ', (∀ vs : List Nat, (∀ j ∈ ts, j ∈ vs) → wipe σ' vs = wipe σ vs) → Rel J.C W σ' ρ' H G → Q σ' H) → g vs σ H Q
section
variable {ι : Type}
def CG (J : Jd) (Xs : ι → Cx) (tg : Expr) (ts : List Nat) (ft : D → Env → Option Env) : Prop := ∃ g, (∀ i, Good J (Xs i) → PG (Xs i) tg g) ∧ EvG J g ts ft
def CGs (J : Jd) (Xs : ι → Cx) (tg : List Expr) (ts : List Nat) (ft : List D → Env → Option Env) : Prop := ∃ g, (∀ i, Good J (Xs i) → PGs (Xs i) tg g) ∧ EvGs J g ts ft
end
theorem wipe_set {σ : St} {j : Nat} {o : Option V} : ∀ {vs : List Nat}, j ∈ vs → wipe (σ.set j o) vs = wipe σ vs
  | [], h => by cases h
  | v :: vs, h => by
    simp only [wipe]
    by_cases e : j ∈ vs
    · rw [wipe_set e]
    · have : j = v := by simpa [e] using h
      subst this
      rw [wipe_setc σ vs j o]
where
  wipe_setc (σ : St) : ∀ (vs : List Nat) (j : Nat) (o : Option V), (wipe (σ.set j o) vs).set j none = (wipe σ vs).set j none
    | [], j, o => by simp [wipe]
    | v :: vs, j, o => by
      simp only [wipe]
      by_cases e : v = j
      · subst e; rw [List.set_set, List.set_set, wipe_setc σ vs v o]
      · rw [List.set_comm _ _ e, List.set_comm _ _ e, wipe_setc σ vs j o]
theorem wipe_at {σ : St} {i : Nat} : ∀ {vs : List Nat}, i ∉ vs → (wipe σ vs)[i]? = σ[i]? := fun h => wipe_out h
def nameT (j : Nat) (d : D) (ρ : Env) : Option Env := some (ρ.set j (.dat d))
def nilT : List D → Env → Option Env
  | [], ρ => some ρ
  | _, _ => none
def consT (f : D → Env → Option Env) (g : List D → Env → Option Env) : List D → Env → Option Env
  | d :: ds, ρ => (f d ρ).bind (g ds)
  | _, _ => none
def tupT (n : Nat) (g : List D → Env → Option Env) : D → Env → Option Env
  | .tup ds, ρ => if ds.length = n then g ds ρ else none
  | _, _ => none
section
variable {ι : Type} {J : Jd} {Xs : ι → Cx} {e : Expr} {es : List Expr} {pos : Pos} {ts us : List Nat} {f : D → Env → Option Env} {fs : List D → Env → Option Env}
theorem cg_name {j : Nat} {x : Str} (hp : j ∉ J.P) (hj : ∀ i, (Xs i).N[j]? = some x := by intro _; rfl) (hx : ∀ i, Loc (Xs i).env.scope x := by first | exact fun _ => Or.inl rfl | exact fun _ => Or.inr rfl)
    (hf : ∀ i, (Xs i).fn x = true ∨ (Xs i).env.scope.names.lookup x = some .local := by first | exact fun _ => Or.inl rfl | exact fun _ => Or.inr rfl) : CG J Xs (.Name x pos) [j] (nameT j) := by
  refine ⟨gName j, fun i G => pg_name G.nd (hj i) (hx i) (hf i), fun W σ ρ H G v d ρ' Q pk r hd e k => ?_⟩
  cases e
  refine k (σ.set j (some v)) (fun vs h => wipe_set (h j (List.mem_singleton.mpr rfl))) ?_
  exact r.setX (x := .dat d) hd (fun i e => by cases e) fun p hp' e => hp (e ▸ pk p hp')
theorem cgs_nil : CGs J Xs [] [] nilT := by
  refine ⟨gNil, fun i G => pgs_nil, fun W σ ρ H G vs ds ρ' Q pk r hd e k => ?_⟩
  cases hd with
  | nil => cases e; exact ⟨rfl, k σ (fun _ _ => rfl) r⟩
  | cons _ _ => cases e
theorem cgs_cons (h : CG J Xs e ts f) (h' : CGs J Xs es us fs) (hs : ∀ i, (assignEach (e :: es) (Xs i).env).map (·.2) = assign e (Xs i).env :: (assignEach es (Xs i).env).map (·.2) := by intro _; rfl) : CGs J Xs (e :: es) (ts ++ us) (consT f fs) := by
  obtain ⟨g, g1, g2⟩ := h
  obtain ⟨u, u1, u2⟩ := h'
  refine ⟨_, fun i G => pgs_cons (g1 i G) (u1 i G) (hs i), fun W σ ρ H G vs ds ρ' Q pk r hd e k => ?_⟩
  cases hd with
  | nil => cases e
  | cons h1 h2 =>
    rename_i v vs d ds
    simp only [consT] at e
    cases z : f d ρ with
    | none => rw [z] at e; cases e
    | some ρ1 =>
      rw [z] at e
      refine ⟨v, vs, rfl, g2 W σ ρ H G v d ρ1 _ pk r h1 z fun σ1 w1 r1 => ?_⟩
      refine u2 W σ1 ρ1 H G vs ds ρ' _ pk r1 h2 e fun σ2 w2 r2 => ?_
      refine k σ2 (fun vs h => ?_) r2
      rw [w2 vs fun j hj => h j (List.mem_append_right _ hj), w1 vs fun j hj => h j (List.mem_append_left _ hj)]
theorem cg_tup {k n : Nat} (h : CGs J Xs es ts fs) (hn : ∀ i, (assignEach es (Xs i).env).length = n := by intro _; rfl) (hst : ∀ i, (assignEach es (Xs i).env).findIdx? (·.1) = none := by intro _; rfl) : CG J Xs (.Tuple es k pos) ts (tupT n fs) := by
  obtain ⟨g, g1, g2⟩ := h
  refine ⟨gTup J.C.K n g, fun i G => ?_, fun W σ ρ H G v d ρ' Q pk r hd e k => ?_⟩
  · have := pg_tup (pos := pos) (k := k) G.calm (g1 i G) (hn i) (hst i)
    rw [G.hK] at this
    exact this
  · cases d <;> first | (cases e; done) | skip
    rename_i ds
    simp only [tupT] at e
    split at e
    · rename_i hl
      cases hd with
      | tup h1 h2 => exact ⟨_, _, rfl, r.gh.sqT h1, by rw [h2.length]; exact hl, g2 W σ ρ H G _ ds ρ' Q pk r h2 e k⟩
    · cases e
end

/-! ## for -/
def forget : List Nat → Env → Env
  | [], ρ => ρ
  | i :: l, ρ => forget l (ρ.set i .un)
theorem Rel.forget {C : Cst} {W : Fm} {σ : St} {H G : Hp} : ∀ {l : List Nat} {ρ : Env}, Rel C W σ ρ H G → Rel C W σ (forget l ρ) H G
  | [], _, r => r
  | i :: l, _, r => Rel.forget (l := l) (r.un i)
def forL (fg : List Nat) (ft : D → Env → Option Env) (fb : Env → R Out) : List D → Env → R Out
  | [], ρ => .ok .nx (forget fg ρ)
  | d :: ds, ρ => match ft d (forget fg ρ) with
    | none => .stuck
    | some ρ1 => match fb ρ1 with
      | .ok .nx ρ2 => forL fg ft fb ds ρ2
      | .ok .cont ρ2 => forL fg ft fb ds ρ2
      | .ok .brk ρ2 => .ok .nx ρ2
      | r => r
section
variable {J : Jd} {W : Fm} {σ : St} {ρ : Env} {H G : Hp} {E : Ends} {g : TG} {tb : TS} {ts fg : List Nat} {ft : D → Env → Option Env} {fb : Env → R Out}
theorem for_core {It : It} {items : List D} (w : WalkOk J.C W G It items) (r : Rel J.C W σ ρ H G) (pk : PinOk W J.P) (hg : EvG J g ts ft) (hb : EvS J tb fb) (h : GotS J W G (forL fg ft fb items ρ) E) :
    ∃ W' : Nat → Nat → St → Hp → Prop, (∃ m, W' 0 m σ H) ∧ ∀ i m σ H, W' i m σ H →
      (It.stop i H ∧ E.nx σ H) ∨ (It.go i H ∧ ∃ N : St → Hp → Prop, (∀ σ' H', N σ' H' → ∃ m', m' < m ∧ W' (i + 1) m' σ' H') ∧ ∀ x H', It.yld i H x H' → g x σ H' fun σ2 H2 => tb { E with nx := N, ct := N, bk := E.nx } σ2 H2) := by
  obtain ⟨Gd, Y, wk, hG, hY⟩ := w
  refine for_it wk (fun i σ H => ∃ ρ G', Ge G G' ∧ Rel J.C W σ ρ H G' ∧ GotS J W G' (forL fg ft fb (items.drop i) ρ) E) ⟨ρ, G, Ge.refl _, r, h⟩ (fun i σ H _ ⟨ρ, G', e, r, _⟩ => hG σ ρ H G' e r) ?_ ?_
  · rintro i x σ H H' hi ⟨ρ, G1, e1, r1, h1⟩ y
    have hd : items.drop i = items[i] :: items.drop (i + 1) := List.drop_eq_getElem_cons hi
    rw [hd, forL] at h1
    obtain ⟨G2, e2, r2, d2⟩ := hY i items[i] (List.getElem?_eq_getElem hi) W σ (forget fg ρ) H G1 x H' r1.forget e1 y fun _ _ z => z
    cases z : ft items[i] (forget fg ρ) with
    | none => rw [z] at h1; exact h1.elim
    | some ρ1 =>
      rw [z] at h1
      dsimp only at h1
      refine hg W σ _ H' G2 x _ ρ1 _ pk r2 d2 z fun σ1 _ r3 => ?_
      refine hb W σ1 ρ1 H' G2 _ pk r3 ?_
      have h1 := h1.later e2
      cases zb : fb ρ1 with
      | stuck => rw [zb] at h1; exact h1
      | exc c ns vs ρ2 => rw [zb] at h1; exact h1
      | ok o ρ2 =>
        rw [zb] at h1
        cases o with
        | nx => exact fun σ H G' e r => ⟨ρ2, G', e1.trans (e2.trans e), r, h1.later e⟩
        | cont => exact fun σ H G' e r => ⟨ρ2, G', e1.trans (e2.trans e), r, h1.later e⟩
        | brk => exact h1
        | ret x => exact h1
  · rintro σ H ⟨ρ, G1, e1, r1, h1⟩
    rw [List.drop_length] at h1
    exact h1 σ H G1 (Ge.refl _) r1.forget
end
def forS (fg : List Nat) (fi : Env → R (List D)) (ft : D → Env → Option Env) (fb : Env → R Out) : Env → R Out := fun ρ => (fi ρ).bind fun items ρ => forL fg ft fb items ρ
theorem ev_for {J : Jd} {wi : TI} {g : TG} {tb : TS} {ts fg : List Nat} {fi : Env → R (List D)} {ft : D → Env → Option Env} {fb : Env → R Out} (hi : EvI J wi fi) (hg : EvG J g ts ft) (hb : EvS J tb fb) : EvS J (tFor wi g tb) (forS fg fi ft fb) := by
  intro W σ ρ H G E pk r h
  refine hi W σ ρ H G _ pk r ((GotS.bind h).imp fun items ρ1 H1 G1 e1 r1 k It w => ?_)
  exact for_core w r1 pk hg hb k
section
variable {ι : Type} {J : Jd} {Xs : ι → Cx} {tg iter : Expr} {body : List Stmt} {pos : Pos} {ts : List Nat} {fi : Env → R (List D)} {ft : D → Env → Option Env} {fb : Env → R Out}
theorem cs_for (fg : List Nat) (hi : CI J Xs tg iter fi) (hg : CG J Xs tg ts ft) (hb : CSs J Xs body fb) (hs : ∀ i x, foldedSetIterable iter (Xs i).env x = pure x := by intro _ _; rfl) : CS J Xs (.For tg iter body [] pos) (forS fg fi ft fb) := by
  obtain ⟨wi, i1, i2⟩ := hi
  obtain ⟨g, g1, g2⟩ := hg
  obtain ⟨tb, b1, b2⟩ := hb
  exact ⟨_, fun i G => ps_for G.po G.calm (i1 i G) (g1 i G) (b1 i G) (hs i), ev_for i2 g2 b2⟩
end

/-! ## sources -/
theorem WalkOk.of {C : Cst} {W : Fm} {G : Hp} {It : It} {items : List D} {xs : List V} {Gd : Hp → Prop} (w : Walk It xs.length Gd (YAt xs)) (hs : IsDs C G xs items) (hG : ∀ σ ρ H G', Ge G G' → Rel C W σ ρ H G' → Gd H) : WalkOk C W G It items := by
  refine ⟨Gd, YAt xs, by rw [← hs.length]; exact w, hG, fun i d e W' σ ρ H G' x H' r g y _ => ?_⟩
  obtain ⟨rfl, y2⟩ := y
  obtain ⟨v, h1, h2⟩ := hs.get e
  rw [h1] at y2; cases y2
  exact ⟨G', Ge.refl _, r, h2.ge g⟩
theorem walk_lstD {C : Cst} {W : Fm} {G : Hp} {a : Addr} {xs : List V} {items : List D} (h : SqL C.K G a xs) (hs : IsDs C G xs items) : WalkOk C W G (Itl C.K a) items :=
  WalkOk.of walk_list hs fun σ ρ H G' g r => (g.trans r.gh).sqL h
theorem walk_tupD {C : Cst} {W : Fm} {G : Hp} {a : Addr} {xs : List V} {items : List D} (h : SqT C.K G a xs) (hs : IsDs C G xs items) : WalkOk C W G (Itt C.K a) items :=
  WalkOk.of walk_tup hs fun σ ρ H G' g r => (g.trans r.gh).sqT h
/-- the items of a frozen list or tuple -/
def itL (d : D) (ρ : Env) : R (List D) := match lstD d with
  | some l => .ok l ρ
  | none => .stuck
def itT (d : D) (ρ : Env) : R (List D) := match d with
  | .tup l => .ok l ρ
  | _ => .stuck
def itV (d : D) (ρ : Env) : R (List D) := match seqD d with
  | some l => .ok l ρ
  | none => .stuck
def inV_ (f : Env → R XV) (it : D → Env → R (List D)) : Env → R (List D) := fun ρ => (valS f ρ).bind it
section
variable {J : Jd} {te : TE} {f : Env → R XV}
theorem ev_inL (h : EvE J te f) : EvI J (iList J.C.K te) (inV_ f itL) := by
  intro W σ ρ H G K pk r k
  refine h.val W σ ρ H G _ pk r ((Got.bind k).imp fun d ρ1 H1 G1 e1 r1 k v vk => ?_)
  unfold itL at k
  cases z : lstD d with
  | none => rw [z] at k; exact k.elim
  | some l =>
    rw [z] at k
    cases d <;> cases z
    · cases vk with
      | lst h1 h2 => exact ⟨_, rfl, ⟨_, SqL.of (r1.gh _ _ h1)⟩, k H1 G1 (Ge.refl _) r1 _ (walk_lstD (SqL.of h1) h2)⟩
    · cases vk with
      | rol h1 h2 => exact ⟨_, rfl, ⟨_, r1.gh.sqL h1⟩, k H1 G1 (Ge.refl _) r1 _ (walk_lstD h1 h2)⟩
theorem ev_inT (h : EvE J te f) : EvI J (iTup J.C.K te) (inV_ f itT) := by
  intro W σ ρ H G K pk r k
  refine h.val W σ ρ H G _ pk r ((Got.bind k).imp fun d ρ1 H1 G1 e1 r1 k v vk => ?_)
  cases d <;> first | (exact k.elim) | skip
  cases vk with
  | tup h1 h2 => exact ⟨_, rfl, ⟨_, r1.gh.sqT h1⟩, k H1 G1 (Ge.refl _) r1 _ (walk_tupD h1 h2)⟩
theorem EvI.or {t u : TI} {f f1 f2 : Env → R (List D)} (h1 : EvI J t f1) (h2 : EvI J u f2) (h : ∀ ρ, f ρ = f1 ρ ∨ f ρ = f2 ρ) : EvI J (fun σ H Q => t σ H Q ∨ u σ H Q) f := by
  intro W σ ρ H G Q pk rl g
  rcases h ρ with e | e
  · rw [e] at g; exact .inl (h1 W σ ρ H G Q pk rl g)
  · rw [e] at g; exact .inr (h2 W σ ρ H G Q pk rl g)
theorem PI.or {X : Cx} {tg e : Expr} {t u : TI} (h : PI X tg e t) (h' : PI X tg e u) : PI X tg e (fun σ H Q => t σ H Q ∨ u σ H Q) :=
  ⟨fun pins s σ H Q I q => q.elim (h.run pins s σ H Q I) (h'.run pins s σ H Q I)⟩
theorem inV_or (ρ : Env) : inV_ f itV ρ = inV_ f itL ρ ∨ inV_ f itV ρ = inV_ f itT ρ := by
  unfold inV_
  cases valS f ρ with
  | stuck => exact .inl rfl
  | exc _ _ _ _ => exact .inl rfl
  | ok d ρ1 => cases d <;> first | exact .inl rfl | exact .inr rfl
end
section
variable {ι : Type} {J : Jd} {Xs : ι → Cx} {tg e a b : Expr} {es : List Expr} {f g h : Env → R XV} {p pos : Pos}
/-- over a list or tuple, its value frozen -/
theorem ci_val (h : CE J Xs e f) : CI J Xs tg e (inV_ f itV) := by
  obtain ⟨te, h1, h2⟩ := h
  refine ⟨_, fun i G => ?_, EvI.or (ev_inL h2) (ev_inT h2) inV_or⟩
  have := PI.or (pi_list (tg := tg) (h1 i G)) (pi_tup (tg := tg) (h1 i G))
  rw [G.hK] at this
  exact this
/-- ints from lo on, n of them -/
def rangeD (lo : Int) : Nat → List D
  | 0 => []
  | n + 1 => .int lo :: rangeD (lo + 1) n
theorem rangeD_len : ∀ (lo : Int) (n : Nat), (rangeD lo n).length = n
  | _, 0 => rfl
  | lo, n + 1 => by simp [rangeD, rangeD_len (lo + 1) n]
theorem rangeD_get : ∀ (lo : Int) (n i : Nat), i < n → (rangeD lo n)[i]? = some (.int (lo + i))
  | _, 0, _, h => by omega
  | lo, n + 1, 0, _ => by simp [rangeD]
  | lo, n + 1, i + 1, h => by
    simp only [rangeD, List.getElem?_cons_succ]
    rw [rangeD_get (lo + 1) n i (by omega)]
    congr 2
    omega
theorem walk_rangeD {C : Cst} {W : Fm} {G : Hp} {lo : Int} {n : Nat} : WalkOk C W G (Itr lo n) (rangeD lo n) := by
  refine ⟨_, _, by rw [rangeD_len]; exact walk_range, fun _ _ _ _ _ _ => trivial, fun i d e W' σ ρ H G' x H' r g y _ => ?_⟩
  obtain ⟨rfl, rfl⟩ := y
  have hi : i < n := by have := (List.getElem?_eq_some_iff.mp e).1; rwa [rangeD_len] at this
  rw [rangeD_get lo n i hi] at e
  cases e
  exact ⟨G', Ge.refl _, r, .int _⟩
def rg1 (xs : List XV) (ρ : Env) : R (List D) := match xs with
  | [.dat (.int j)] => if j.natAbs < 4611686018427387904 then .ok (rangeD 0 j.toNat) ρ else .stuck
  | _ => .stuck
def rg2 (xs : List XV) (ρ : Env) : R (List D) := match xs with
  | [.dat (.int i), .dat (.int j)] => if i.natAbs < 4611686018427387904 ∧ j.natAbs < 4611686018427387904 then .ok (rangeD i (j - i).toNat) ρ else .stuck
  | _ => .stuck
def rangeI (rg : List XV → Env → R (List D)) (fs : Env → R (List XV)) : Env → R (List D) := fun ρ => (fs ρ).bind rg
theorem Waits.one {C : Cst} {σ : St} {G : Hp} {vs : List V} {x : XV} (h : Waits C σ G vs [x]) : ∃ v, vs = [v] ∧ Wait C σ G v x := by
  cases vs with
  | nil => exact h.elim
  | cons v l => cases l with
    | nil => exact ⟨v, rfl, h.1⟩
    | cons _ _ => exact h.2.elim
theorem Waits.two {C : Cst} {σ : St} {G : Hp} {vs : List V} {x y : XV} (h : Waits C σ G vs [x, y]) : ∃ v w, vs = [v, w] ∧ Wait C σ G v x ∧ Wait C σ G w y := by
  cases vs with
  | nil => exact h.elim
  | cons v l =>
    obtain ⟨w, rfl, hw⟩ := Waits.one h.2
    exact ⟨v, w, rfl, h.1, hw⟩
variable {fs : Env → R (List XV)}
theorem ci_range1 (hm : ∀ i, (Xs i).mg "range" = none) (ha : CA_ J Xs [a] fs) (hg : ∀ i, Gl (Xs i) "range" := by intro _; rfl) (hs : ∀ i, starEach [a] (Xs i).env = [(false, eval a (Xs i).env)] := by intro _; rfl) : CI J Xs tg (.Call (.Name "range" p) [a] [] pos) (rangeI rg1 fs) := by
  obtain ⟨ta, a1, a2⟩ := ha
  refine ⟨_, fun i G => pi_range1 (hg i) (hm i) (a1 i G) (hs i), fun W σ ρ H G K pk r k => ?_⟩
  refine a2 W σ ρ H G _ pk r ((Got.bind k).imp fun xs ρ1 H1 G1 e1 r1 k vs vk => ?_)
  unfold rg1 at k
  split at k
  · split at k
    · rename_i j hj
      obtain ⟨v, rfl, hv⟩ := Waits.one vk
      cases hv
      exact ⟨j, rfl, by omega, by omega, k H1 G1 (Ge.refl _) r1 _ walk_rangeD⟩
    · exact k.elim
  · exact k.elim
theorem ci_range2 (hm : ∀ i, (Xs i).mg "range" = none) (ha : CA_ J Xs [a, b] fs) (hg : ∀ i, Gl (Xs i) "range" := by intro _; rfl) (hs : ∀ i, starEach [a, b] (Xs i).env = [(false, eval a (Xs i).env), (false, eval b (Xs i).env)] := by intro _; rfl)
    (hs2 : ∀ i, starEach [b] (Xs i).env = [(false, eval b (Xs i).env)] := by intro _; rfl) : CI J Xs tg (.Call (.Name "range" p) [a, b] [] pos) (rangeI rg2 fs) := by
  obtain ⟨ta, a1, a2⟩ := ha
  refine ⟨_, fun i G => pi_range2 (hg i) (hm i) (a1 i G) (hs i) (hs2 i), fun W σ ρ H G K pk r k => ?_⟩
  refine a2 W σ ρ H G _ pk r ((Got.bind k).imp fun xs ρ1 H1 G1 e1 r1 k vs vk => ?_)
  unfold rg2 at k
  split at k
  · split at k
    · rename_i i j hj
      obtain ⟨v, w, rfl, hv, hw⟩ := Waits.two vk
      cases hv
      cases hw
      exact ⟨i, j, rfl, by omega, k H1 G1 (Ge.refl _) r1 _ walk_rangeD⟩
    · exact k.elim
  · exact k.elim
/-- range(a, b, -1) -/
def downD (lo : Int) : Nat → List D
  | 0 => []
  | n + 1 => .int lo :: downD (lo - 1) n
theorem downD_len : ∀ (lo : Int) (n : Nat), (downD lo n).length = n
  | _, 0 => rfl
  | lo, n + 1 => by simp [downD, downD_len (lo - 1) n]
theorem downD_get : ∀ (lo : Int) (n i : Nat), i < n → (downD lo n)[i]? = some (.int (lo + (i : Nat) * (-1)))
  | _, 0, _, h => by omega
  | lo, n + 1, 0, _ => by simp [downD]
  | lo, n + 1, i + 1, h => by
    simp only [downD, List.getElem?_cons_succ]
    rw [downD_get (lo - 1) n i (by omega)]
    congr 2
    omega
theorem walk_downD {C : Cst} {W : Fm} {G : Hp} {lo : Int} {n : Nat} : WalkOk C W G (Itc lo (-1) n) (downD lo n) := by
  refine ⟨_, _, by rw [downD_len]; exact walk_rangeC, fun _ _ _ _ _ _ => trivial, fun i d e W' σ ρ H G' x H' r g y _ => ?_⟩
  obtain ⟨rfl, rfl⟩ := y
  have hi : i < n := by have := (List.getElem?_eq_some_iff.mp e).1; rwa [downD_len] at this
  rw [downD_get lo n i hi] at e
  cases e
  exact ⟨G', Ge.refl _, r, .int _⟩
def rg3 (xs : List XV) (ρ : Env) : R (List D) := match xs with
  | [.dat (.int i), .dat (.int j), .dat (.int c)] => if c = -1 ∧ i.natAbs < 4611686018427387904 ∧ j.natAbs < 4611686018427387904 then .ok (downD i (i - j).toNat) ρ else .stuck
  | _ => .stuck
theorem ci_range3 {c : Expr} (hm : ∀ i, (Xs i).mg "range" = none) (ha : CA_ J Xs [a, b, c] fs) (hg : ∀ i, Gl (Xs i) "range" := by intro _; rfl) (hs : ∀ i, starEach [a, b, c] (Xs i).env = (false, eval a (Xs i).env) :: starEach [b, c] (Xs i).env := by intro _; rfl)
    (hpl : ∀ i, (backTo pos (starEach [b, c] (Xs i).env)).any (·.1) = false := by intro _; rfl) : CI J Xs tg (.Call (.Name "range" p) [a, b, c] [] pos) (rangeI rg3 fs) := by
  obtain ⟨ta, a1, a2⟩ := ha
  refine ⟨_, fun i G => pi_range3 (hg i) (hm i) (a1 i G) (hs i) (hpl i), fun W σ ρ H G K pk r k => ?_⟩
  refine a2 W σ ρ H G _ pk r ((Got.bind k).imp fun xs ρ1 H1 G1 e1 r1 k vs vk => ?_)
  unfold rg3 at k
  split at k
  · split at k
    · rename_i i j c hj
      cases vs with
      | nil => exact vk.elim
      | cons u l =>
        obtain ⟨v, w, rfl, hv, hw⟩ := Waits.two vk.2
        have h0 := vk.1
        cases h0
        cases hv
        cases hw
        obtain ⟨rfl, q1, q2⟩ := hj
        exact ⟨i, j, -1, (i - j).toNat, rfl, RgC.neg (by omega) (by omega) (by omega) (by omega), k H1 G1 (Ge.refl _) r1 _ walk_downD⟩
    · exact k.elim
  · exact k.elim
/-! ### enumerate, zip: new pairs -/
def enumD (n : Nat) : List D → List D
  | [] => []
  | d :: ds => .tup [.int (n : Int), d] :: enumD (n + 1) ds
theorem enumD_len : ∀ (n : Nat) (l : List D), (enumD n l).length = l.length
  | _, [] => rfl
  | n, d :: ds => by simp [enumD, enumD_len (n + 1) ds]
theorem enumD_get : ∀ (n : Nat) (l : List D) (i : Nat) (d : D), (enumD n l)[i]? = some d → ∃ e, l[i]? = some e ∧ d = .tup [.int ((n + i : Nat) : Int), e]
  | _, [], _, _, h => by simp [enumD] at h
  | n, d :: ds, 0, _, h => by simp [enumD] at h; subst h; exact ⟨d, rfl, by simp⟩
  | n, d :: ds, i + 1, _, h => by
    simp only [enumD, List.getElem?_cons_succ] at h
    obtain ⟨e, h1, h2⟩ := enumD_get (n + 1) ds i _ h
    exact ⟨e, by simpa using h1, by rw [h2, show n + 1 + i = n + (i + 1) by omega]⟩
def zipD : List D → List D → List D
  | d :: ds, e :: es => .tup [d, e] :: zipD ds es
  | _, _ => []
theorem zipD_len : ∀ l m : List D, (zipD l m).length = min l.length m.length
  | [], _ => by simp [zipD]
  | _ :: _, [] => by simp [zipD]
  | d :: ds, e :: es => by simp [zipD, zipD_len ds es]
theorem zipD_get : ∀ (l m : List D) (i : Nat) (d : D), (zipD l m)[i]? = some d → ∃ e f, l[i]? = some e ∧ m[i]? = some f ∧ d = .tup [e, f]
  | [], _, _, _, h => by simp [zipD] at h
  | _ :: _, [], _, _, h => by simp [zipD] at h
  | d :: ds, e :: es, 0, _, h => by simp [zipD] at h; subst h; exact ⟨d, e, rfl, rfl, rfl⟩
  | d :: ds, e :: es, i + 1, _, h => by
    simp only [zipD, List.getElem?_cons_succ] at h
    obtain ⟨e, f, h1, h2, h3⟩ := zipD_get ds es i _ h
    exact ⟨e, f, by simpa using h1, by simpa using h2, h3⟩
/-- a pair just made -/
theorem pair_new {C : Cst} {W : Fm} {σ : St} {ρ : Env} {H G : Hp} {T : Addr} {x y : V} {d e : D} (r : Rel C W σ ρ H G) (hT : H T = none) (hx : IsD C G x d) (hy : IsD C G y e) : ∃ G2, Ge G G2 ∧ Rel C W σ ρ (upd H T (.tup [x, y])) G2 ∧ IsD C G2 (.ref T) (.tup [d, e]) := by
  have g : Ge G (upd G T (.tup [x, y])) := Ge.upd (r.gNone hT)
  exact ⟨_, g, r.frz hT, .tup (SqT.of upd_same) (.cons (hx.ge g) (.cons (hy.ge g) .nil))⟩
theorem walk_enumD {C : Cst} {W : Fm} {G : Hp} {a : Addr} {xs : List V} {items : List D} (h : SqL C.K G a xs) (hs : IsDs C G xs items) : WalkOk C W G (Ite C.K a) (enumD 0 items) := by
  refine ⟨_, _, by rw [enumD_len, ← hs.length]; exact walk_enum, fun σ ρ H G' g r => (g.trans r.gh).sqL h, fun i d e W' σ ρ H G' x H' r g y _ => ?_⟩
  obtain ⟨T, u, v, rfl, hT, rfl, h1, h2⟩ := y
  obtain ⟨d', e1, rfl⟩ := enumD_get 0 items i d e
  dsimp only at h1 h2
  obtain ⟨w, w1, w2⟩ := hs.get e1
  rw [w1] at h2; cases h2
  cases h1
  rw [Nat.zero_add]
  exact pair_new r hT (.int _) (w2.ge g)
theorem walk_zipD {C : Cst} {W : Fm} {G : Hp} {a b : Addr} {xs ys : List V} {l m : List D} (h : SqL C.K G a xs) (h' : SqL C.K G b ys) (hs : IsDs C G xs l) (hs' : IsDs C G ys m) : WalkOk C W G (Itz C.K a b) (zipD l m) := by
  refine ⟨_, _, walk_zip (by rw [zipD_len, hs.length, hs'.length]), fun σ ρ H G' g r => ⟨(g.trans r.gh).sqL h, (g.trans r.gh).sqL h'⟩, fun i d e W' σ ρ H G' x H' r g y _ => ?_⟩
  obtain ⟨T, u, v, rfl, hT, rfl, h1, h2⟩ := y
  obtain ⟨d1, d2, e1, e2, rfl⟩ := zipD_get l m i d e
  dsimp only at h1 h2
  obtain ⟨w, w1, w2⟩ := hs.get e1
  obtain ⟨z, z1, z2⟩ := hs'.get e2
  rw [w1] at h1; cases h1
  rw [z1] at h2; cases h2
  exact pair_new r hT (w2.ge g) (z2.ge g)
theorem walk_zipTD {C : Cst} {W : Fm} {G : Hp} {a b : Addr} {xs ys : List V} {l m : List D} (h : SqT C.K G a xs) (h' : SqT C.K G b ys) (hs : IsDs C G xs l) (hs' : IsDs C G ys m) : WalkOk C W G (RZ.ItzT C.K a b) (zipD l m) := by
  have w : Walk (RZ.ItzT C.K a b) (min xs.length ys.length) (fun H => SqT C.K H a xs ∧ SqT C.K H b ys) (YPair (fun i => xs[i]?) (fun i => ys[i]?)) := by
    refine ⟨fun i _ hi q => ?_, fun _ q => ⟨xs, ys, q.1, q.2, by omega⟩, fun i H v H' _ q y => ?_⟩
    · have h1 : i < xs.length := by omega
      have h2 : i < ys.length := by omega
      exact ⟨xs, ys, xs[i], ys[i], q.1, q.2, by simp [h1], by simp [h2]⟩
    · obtain ⟨T, x, z, h1, h2, h3, h4, h5⟩ := y
      exact ⟨T, x, z, h1, h2, h3, h4 xs q.1, h5 ys q.2⟩
  have hl : min xs.length ys.length = (zipD l m).length := by rw [zipD_len, hs.length, hs'.length]
  rw [hl] at w
  refine ⟨_, _, w, fun σ ρ H G' g r => ⟨(g.trans r.gh).sqT h, (g.trans r.gh).sqT h'⟩, fun i d e W' σ ρ H G' x H' r g y _ => ?_⟩
  obtain ⟨T, u, v, rfl, hT, rfl, h1, h2⟩ := y
  obtain ⟨d1, d2, e1, e2, rfl⟩ := zipD_get l m i d e
  dsimp only at h1 h2
  obtain ⟨w, w1, w2⟩ := hs.get e1
  obtain ⟨z, z1, z2⟩ := hs'.get e2
  rw [w1] at h1; cases h1
  rw [z1] at h2; cases h2
  exact pair_new r hT (w2.ge g) (z2.ge g)
def enumL (xs : List XV) (ρ : Env) : R (List D) := match xs with
  | [.dat d] => match lstD d with
    | some l => .ok (enumD 0 l) ρ
    | none => .stuck
  | _ => .stuck
def zipL (xs : List XV) (ρ : Env) : R (List D) := match xs with
  | [.dat (.tup l), .dat (.tup m)] => .ok (zipD l m) ρ
  | [.dat d, .dat e] => match lstD d, lstD e with
    | some l, some m => .ok (zipD l m) ρ
    | _, _ => .stuck
  | _ => .stuck
theorem IsD.lstD {C : Cst} {G : Hp} {v : V} {d : D} {l : List D} (h : IsD C G v d) (e : lstD d = some l) : ∃ a xs, v = .ref a ∧ SqL C.K G a xs ∧ IsDs C G xs l := by
  cases d <;> cases e
  · cases h with
    | lst h1 h2 => exact ⟨_, _, rfl, SqL.of h1, h2⟩
  · cases h with
    | rol h1 h2 => exact ⟨_, _, rfl, h1, h2⟩
variable {elts : List Expr} {kk : Nat} {tpos : Pos}
theorem ci_enum (hm : ∀ i, (Xs i).mg "enumerate" = none) (ha : CA_ J Xs [a] fs) (hg : ∀ i, Gl (Xs i) "enumerate" := by intro _; rfl) (hs : ∀ i, starEach [a] (Xs i).env = [(false, eval a (Xs i).env)] := by intro _; rfl) :
    CI J Xs (.Tuple elts kk tpos) (.Call (.Name "enumerate" p) [a] [] pos) (rangeI enumL fs) := by
  obtain ⟨ta, a1, a2⟩ := ha
  refine ⟨iEnum J.C.K ta, fun i G => ?_, fun W σ ρ H G K pk r k => ?_⟩
  · have := pi_enum (elts := elts) (kk := kk) (tpos := tpos) (p := p) (pos := pos) (hg i) (hm i) (a1 i G) (hs i)
    rw [G.hK] at this
    exact this
  · refine a2 W σ ρ H G _ pk r ((Got.bind k).imp fun xs ρ1 H1 G1 e1 r1 k vs vk => ?_)
    unfold enumL at k
    split at k
    · split at k
      · rename_i d l z
        obtain ⟨v, rfl, hv⟩ := Waits.one vk
        obtain ⟨a, xs, rfl, q1, q2⟩ := IsD.lstD hv z
        exact ⟨a, xs, rfl, r1.gh.sqL q1, k H1 G1 (Ge.refl _) r1 _ (walk_enumD q1 q2)⟩
      · exact k.elim
    · exact k.elim
theorem ci_zip (hm : ∀ i, (Xs i).mg "zip" = none) (ha : CA_ J Xs [a, b] fs) (hg : ∀ i, Gl (Xs i) "zip" := by intro _; rfl) (hs : ∀ i, starEach [a, b] (Xs i).env = (false, eval a (Xs i).env) :: starEach [b] (Xs i).env := by intro _; rfl)
    (hpl : ∀ i, (backTo pos (starEach [b] (Xs i).env)).any (·.1) = false := by intro _; rfl) : CI J Xs (.Tuple elts kk tpos) (.Call (.Name "zip" p) [a, b] [] pos) (rangeI zipL fs) := by
  obtain ⟨ta, a1, a2⟩ := ha
  refine ⟨RZ.iZipA J.C.K ta, fun i G => ?_, fun W σ ρ H G K pk r k => ?_⟩
  · have := RZ.pi_zipA (elts := elts) (kk := kk) (tpos := tpos) (p := p) (pos := pos) (hg i) (hm i) (a1 i G) (hs i) (hpl i)
    rw [G.hK] at this
    exact this
  · refine a2 W σ ρ H G _ pk r ((Got.bind k).imp fun xs ρ1 H1 G1 e1 r1 k vs vk => ?_)
    unfold zipL at k
    split at k
    · obtain ⟨v, w, rfl, hv, hw⟩ := Waits.two vk
      cases hv with
      | tup p1 p2 => cases hw with
        | tup q1 q2 => exact ⟨_, _, _, _, rfl, .inr ⟨r1.gh.sqT p1, r1.gh.sqT q1, k H1 G1 (Ge.refl _) r1 _ (walk_zipTD p1 q1 p2 q2)⟩⟩
    · split at k
      · rename_i z1 z2
        obtain ⟨v, w, rfl, hv, hw⟩ := Waits.two vk
        obtain ⟨a, xs, rfl, p1, p2⟩ := IsD.lstD hv z1
        obtain ⟨b, ys, rfl, q1, q2⟩ := IsD.lstD hw z2
        exact ⟨_, _, _, _, rfl, .inl ⟨r1.gh.sqL p1, r1.gh.sqL q1, k H1 G1 (Ge.refl _) r1 _ (walk_zipD p1 q1 p2 q2)⟩⟩
      · exact k.elim
    · exact k.elim
end
end DL
namespace DL
open PySem L2

/-! ## a held object that changes, that is let go -/
section
variable {C : Cst} {W : Fm} {σ : St} {ρ ρ' : Env} {H G H' G' : Hp} {a : Addr} {o o' : HO}
theorem hold_ne {b : Addr} (z : b ≠ a) : (W.hold a o).Z b = W.Z b := upd_ne z
theorem hold_eq : (W.hold a o).Z a = some o := upd_same
theorem Rel.rehold (r : Rel C (W.hold a o) σ ρ H G) (hb : ∀ i, ¬ W.B i a) : Rel C (W.hold a o') σ ρ (upd H a o') G := by
  have hg : G a = none := (r.nn a (.inl rfl)).1
  have keep : ∀ b u, b ≠ a → H b = some u → upd H a o' b = some u := fun b u z e => by rw [upd_ne z]; exact e
  refine ⟨fun b u e => keep b u (ne_of_none e hg) (r.gh _ _ e), fun b u e => ?_, fun b q => ⟨(r.nn b q).1, ?_⟩, fun j b q => ?_, r.pn, r.ln, fun i => ?_, r.ne⟩
  · by_cases z : b = a
    · subst z; rw [hold_eq] at e; cases e; exact upd_same
    · rw [hold_ne z] at e; exact keep b u z (r.zh b u (by rw [hold_ne z]; exact e))
  · by_cases z : b = a
    · subst z; exact ⟨_, upd_same⟩
    · obtain ⟨u, hu⟩ := (r.nn b q).2; exact ⟨u, keep b u z hu⟩
  · have z : b ≠ a := fun z => hb j (z ▸ q)
    obtain ⟨u, hu⟩ := r.bz j b q
    rw [hold_ne z] at hu
    exact ⟨u, by rw [hold_ne z]; exact hu⟩
  · have q := r.at_ i
    cases s : ρ.at i with
    | un => trivial
    | dat d => rw [s] at q; exact q
    | own d' =>
      rw [s] at q
      obtain ⟨b, q1, q2, q3, q4, q5⟩ := q
      have z : b ≠ a := fun z => q5 (.inl z)
      rw [hold_ne z] at q4
      exact ⟨b, q1, q2.move (fun u q => keep b u z q) (Ge.refl _), q3, by rw [hold_ne z]; exact q4, q5⟩
    | brw d' =>
      rw [s] at q
      obtain ⟨b, q1, q2, q3⟩ := q
      have z : b ≠ a := fun z => hb i (z ▸ q3)
      exact ⟨b, q1, q2.move (fun u e => by rw [hold_ne z] at e ⊢; exact e) (Ge.refl _), q3⟩
theorem Rel.release (r : Rel C (W.hold a o) σ ρ H G) (hz : W.Z a = none) (hn : ¬ W.N a) (hb : ∀ i, ¬ W.B i a) : Rel C W σ ρ H G ∧ ∀ d, Own C H G a d → VOk C W σ ρ H G (.ref a) (.own d) := by
  refine ⟨⟨r.gh, fun b u e => r.zh b u ?_, fun b q => r.nn b (.inr q), fun j b q => ?_, r.pn, r.ln, fun i => ?_, r.ne⟩, fun d ow => ⟨a, rfl, ow, (r.nn a (.inl rfl)).1, hz, hn, fun i hi e => ?_⟩⟩
  · have z : b ≠ a := fun z => by subst z; rw [hz] at e; cases e
    rw [hold_ne z]; exact e
  · have z : b ≠ a := fun z => hb j (z ▸ q)
    obtain ⟨u, hu⟩ := r.bz j b q
    rw [hold_ne z] at hu
    exact ⟨u, hu⟩
  · have q := r.at_ i
    cases s : ρ.at i with
    | un => trivial
    | dat d => rw [s] at q; exact q
    | own d' =>
      rw [s] at q
      obtain ⟨b, q1, q2, q3, q4, q5⟩ := q
      have z : b ≠ a := fun z => q5 (.inl z)
      rw [hold_ne z] at q4
      exact ⟨b, q1, q2, q3, q4, fun y => q5 (.inr y)⟩
    | brw d' =>
      rw [s] at q
      obtain ⟨b, q1, q2, q3⟩ := q
      have z : b ≠ a := fun z => hb i (z ▸ q3)
      exact ⟨b, q1, q2.move (fun u e => by rw [hold_ne z] at e; exact e) (Ge.refl _), q3⟩
  · obtain ⟨d', hd⟩ := own_of hi
    obtain ⟨b, q1, _, _, _, q5⟩ := r.own hd
    rw [e] at q1; cases q1
    exact q5 (.inl rfl)
theorem Rel.noB (r : Rel C W σ ρ H G) (hz : W.Z a = none) : ∀ i, ¬ W.B i a := fun i q => by obtain ⟨u, hu⟩ := r.bz i a q; rw [hz] at hu; cases hu
end

/-! ## a slot's object lent for a while -/
open Classical in
noncomputable def Fm.lend (W : Fm) (i : Nat) (a : Addr) (o : HO) : Fm := { Z := upd W.Z a o, N := fun b => b = a ∨ W.N b, B := fun j b => (j = i ∧ b = a) ∨ W.B j b, pin := (i, a) :: W.pin }
section
variable {C : Cst} {W : Fm} {σ σ' : St} {ρ ρ' : Env} {H G H' G' : Hp} {a : Addr} {o : HO} {i : Nat} {d : D}
theorem lend_ne {b : Addr} (z : b ≠ a) : (W.lend i a o).Z b = W.Z b := upd_ne z
theorem Rel.lend (r : Rel C W σ ρ H G) (h : ρ.at i = .own d) (hs : σ[i]? = some (some (.ref a))) (ho : H a = some o) : Rel C (W.lend i a o) σ (ρ.set i (.brw d)) H G := by
  obtain ⟨b, e, h1, h2, h3, h4⟩ := r.own h
  rw [hs] at e; cases e
  have hl : i < ρ.length := own_lt (by rw [h]; intro z; cases z)
  refine ⟨r.gh, fun b u e => ?_, fun b q => ?_, fun j b q => ?_, fun p hp => ?_, by rw [List.length_set]; exact r.ln, fun j => ?_, fun j k b jk k1 k2 e1 e2 => ?_⟩
  · by_cases z : b = a
    · subst z; rw [show (W.lend i b o).Z b = some o from upd_same] at e; cases e; exact ho
    · rw [lend_ne z] at e; exact r.zh _ _ e
  · rcases q with rfl | q
    · exact ⟨h2, _, ho⟩
    · exact r.nn b q
  · rcases q with ⟨_, rfl⟩ | q
    · exact ⟨_, upd_same⟩
    · obtain ⟨u, hu⟩ := r.bz j b q
      have z : b ≠ a := fun z => by subst z; rw [h3] at hu; cases hu
      exact ⟨u, by rw [lend_ne z]; exact hu⟩
  · rcases List.mem_cons.mp hp with rfl | hp
    · exact hs
    · exact r.pn p hp
  · rw [Env.at_set hl]
    split
    · rename_i e; subst e
      exact ⟨a, hs, h1.r.move (fun u q => by rw [ho] at q; cases q; exact upd_same) (Ge.refl _), .inl ⟨rfl, rfl⟩⟩
    · rename_i e
      have q := r.at_ j
      cases s : ρ.at j with
      | un => trivial
      | dat d => rw [s] at q; exact q
      | own d' =>
        rw [s] at q
        obtain ⟨b, q1, q2, q3, q4, q5⟩ := q
        have z : b ≠ a := fun z => r.ne j i a e (by rw [s]; rfl) (by rw [h]; rfl) (z ▸ q1) hs
        exact ⟨b, q1, q2, q3, by rw [lend_ne z]; exact q4, fun y => y.elim z q5⟩
      | brw d' =>
        rw [s] at q
        obtain ⟨b, q1, q2, q3⟩ := q
        refine ⟨b, q1, q2.move (fun u e => ?_) (Ge.refl _), .inr q3⟩
        have z : b ≠ a := fun z => by subst z; rw [h3] at e; cases e
        rw [lend_ne z]; exact e
  · rw [Env.at_set hl] at k1 k2
    refine r.ne j k b jk ?_ ?_ e1 e2
    · split at k1
      · cases k1
      · exact k1
    · split at k2
      · cases k2
      · exact k2
/-- given back -/
theorem Rel.unlend (r : Rel C W σ ρ H G) (h : ρ.at i = .own d) (hs : σ[i]? = some (some (.ref a))) (ho : H a = some o) (g : Ge G G') (r' : Rel C (W.lend i a o) σ' ρ' H' G') (hl : i < ρ'.length) :
    Rel C W σ' (ρ'.set i (.own d)) H' G' ∧ ∀ v x, VOk C (W.lend i a o) σ' ρ' H' G' v x → VOk C W σ' (ρ'.set i (.own d)) H' G' v x := by
  obtain ⟨b, e, h1, h2, h3, h4⟩ := r.own h
  rw [hs] at e; cases e
  have ha : H' a = some o := r'.zh a o upd_same
  have hs' : σ'[i]? = some (some (.ref a)) := r'.pn (i, a) List.mem_cons_self
  have ow : Own C H' G' a d := h1.move (fun u q => by rw [ho] at q; cases q; exact ha) g
  have hN := r'.nn a (.inl rfl)
  have hB := r.noB h3
  have oth : ∀ j d', j ≠ i → ρ'.at j = .own d' → ∃ b, σ'[j]? = some (some (.ref b)) ∧ b ≠ a ∧ Own C H' G' b d' ∧ G' b = none ∧ W.Z b = none ∧ ¬ W.N b := fun j d' ji s => by
    obtain ⟨b, q1, q2, q3, q4, q5⟩ := r'.own s
    have z : b ≠ a := fun z => q5 (.inl z)
    rw [lend_ne z] at q4
    exact ⟨b, q1, z, q2, q3, q4, fun y => q5 (.inr y)⟩
  have rel : Rel C W σ' (ρ'.set i (.own d)) H' G' := by
    refine ⟨r'.gh, fun b u e => r'.zh b u ?_, fun b q => r'.nn b (.inr q), r.bz, fun p hp => r'.pn p (List.mem_cons_of_mem _ hp), by rw [List.length_set]; exact r'.ln, fun j => ?_, fun j k b jk k1 k2 e1 e2 => ?_⟩
    · have z : b ≠ a := fun z => by subst z; rw [h3] at e; cases e
      rw [lend_ne z]; exact e
    · rw [Env.at_set hl]
      split
      · rename_i e; subst e
        exact ⟨a, hs', ow, hN.1, h3, h4⟩
      · rename_i e
        have q := r'.at_ j
        cases s : ρ'.at j with
        | un => trivial
        | dat d => rw [s] at q; exact q
        | own d' =>
          obtain ⟨b, q1, _, q2, q3, q4, q5⟩ := oth j d' e s
          exact ⟨b, q1, q2, q3, q4, q5⟩
        | brw d' =>
          rw [s] at q
          obtain ⟨b, q1, q2, q3⟩ := q
          have q3 : W.B j b := q3.elim (fun y => absurd y.1 e) id
          have z : b ≠ a := fun z => hB j (z ▸ q3)
          exact ⟨b, q1, q2.move (fun u e => by rw [lend_ne z] at e; exact e) (Ge.refl _), q3⟩
    · rw [Env.at_set hl] at k1 k2
      by_cases zj : j = i
      · by_cases zk : k = i
        · exact jk (zj.trans zk.symm)
        · rw [if_neg zk] at k2
          obtain ⟨d', hd⟩ := own_of k2
          obtain ⟨b', q1, q2, _⟩ := oth k d' zk hd
          subst zj
          rw [hs'] at e1; cases e1
          rw [q1] at e2; cases e2
          exact q2 rfl
      · rw [if_neg zj] at k1
        obtain ⟨d', hd⟩ := own_of k1
        obtain ⟨b', q1, q2, _⟩ := oth j d' zj hd
        by_cases zk : k = i
        · subst zk
          rw [hs'] at e2; cases e2
          rw [q1] at e1; cases e1
          exact q2 rfl
        · rw [if_neg zk] at k2
          exact r'.ne j k b jk k1 k2 e1 e2
  refine ⟨rel, fun v x vk => ?_⟩
  cases x with
  | dat d' => exact vk
  | slot n =>
    obtain ⟨v1, v2⟩ := vk
    refine ⟨v1, ?_⟩
    by_cases z : n = i
    · subst z; rw [Env.at_set hl, if_pos rfl]; exact .inl ⟨d, rfl⟩
    · rw [Env.at_set_ne z]; exact v2
  | own d' =>
    obtain ⟨b, rfl, v1, v2, v3, v4, v5⟩ := vk
    have z : b ≠ a := fun z => v4 (.inl z)
    rw [lend_ne z] at v3
    refine ⟨b, rfl, v1, v2, v3, fun y => v4 (.inr y), fun n hn en => ?_⟩
    by_cases zn : n = i
    · subst zn; rw [hs'] at en; cases en; exact z rfl
    · rw [Env.at_set_ne zn] at hn
      exact v5 n hn en
end
end DL
namespace DL
open PySem L2

/-! ## list comprehensions -/
def lcL (vs : List Nat) (ft : D → Env → Option Env) (tt : Env → R Bool) (fe : Env → R XV) : List D → List D → Env → R (List D)
  | [], acc, ρ => .ok acc ρ
  | d :: ds, acc, ρ => match ft d ρ with
    | none => .stuck
    | some ρ1 => match tt ρ1 with
      | .ok true ρ2 => match valS fe ρ2 with
        | .ok y ρ3 => if acc.length < LIM then lcL vs ft tt fe ds (acc ++ [y]) (forget vs ρ3) else .stuck
        | _ => .stuck
      | .ok false ρ2 => lcL vs ft tt fe ds acc (forget vs ρ2)
      | _ => .stuck
def clear (vs : List Nat) (ρ : Env) : Bool := vs.all fun j => match ρ.at j with
  | .un => true
  | .dat _ => true
  | _ => false
def restore : List Nat → Env → Env → Env
  | [], _, ρ => ρ
  | j :: vs, ρ0, ρ => (restore vs ρ0 ρ).set j (ρ0.at j)
def lcR (vs : List Nat) (ft : D → Env → Option Env) (tt : Env → R Bool) (fe : Env → R XV) (items : List D) (ρ : Env) : R XV :=
  if clear vs ρ = true then match lcL vs ft tt fe items [] (forget vs ρ) with
    | .ok out ρ2 => .ok (.own (.lst out)) (restore vs ρ ρ2)
    | _ => .stuck
  else .stuck
def lcS (vs : List Nat) (fi : Env → R (List D)) (ft : D → Env → Option Env) (tt : Env → R Bool) (fe : Env → R XV) : Env → R XV := fun ρ => (fi ρ).bind (lcR vs ft tt fe)

theorem forget_at {j : Nat} : ∀ {l : List Nat} {ρ : Env}, Env.at (forget l ρ) j = if j ∈ l then .un else ρ.at j
  | [], ρ => by simp [forget]
  | i :: l, ρ => by
    rw [forget, forget_at (l := l)]
    by_cases h : j ∈ l
    · simp [h]
    · rw [if_neg h]
      by_cases e : j = i
      · subst e
        rw [if_pos List.mem_cons_self]
        by_cases hl : j < ρ.length
        · rw [Env.at_set hl, if_pos rfl]
        · rw [Env.at_out (by rw [List.length_set]; omega)]
      · rw [if_neg (by simp [e, h]), Env.at_set_ne e]
theorem forget_len : ∀ {l : List Nat} {ρ : Env}, (forget l ρ).length = ρ.length
  | [], _ => rfl
  | i :: l, ρ => by rw [forget, forget_len (l := l), List.length_set]
theorem restore_at {ρ0 ρ : Env} {j : Nat} (hl : ρ0.length = ρ.length) : ∀ {vs : List Nat}, Env.at (restore vs ρ0 ρ) j = if j ∈ vs then ρ0.at j else ρ.at j
  | [] => by simp [restore]
  | i :: vs => by
    rw [restore]
    have hlen : ∀ vs : List Nat, (restore vs ρ0 ρ).length = ρ.length := fun vs => by
      induction vs with
      | nil => rfl
      | cons i vs ih => rw [restore, List.length_set, ih]
    by_cases e : j = i
    · subst e
      rw [if_pos List.mem_cons_self]
      by_cases h : j < ρ.length
      · rw [Env.at_set (by rw [hlen]; exact h), if_pos rfl]
      · rw [Env.at_out (by rw [List.length_set, hlen]; omega), Env.at_out (by omega)]
    · rw [Env.at_set_ne e, restore_at hl (vs := vs)]
      by_cases h : j ∈ vs
      · rw [if_pos h, if_pos (List.mem_cons_of_mem _ h)]
      · rw [if_neg h, if_neg (by simp [e, h])]
theorem restore_len {ρ0 ρ : Env} : ∀ {vs : List Nat}, (restore vs ρ0 ρ).length = ρ.length
  | [] => rfl
  | i :: vs => by rw [restore, List.length_set, restore_len (vs := vs)]
theorem clear_at {vs : List Nat} {ρ : Env} (h : clear vs ρ = true) {j : Nat} (hj : j ∈ vs) : ρ.at j = .un ∨ ∃ d, ρ.at j = .dat d := by
  have := List.all_eq_true.mp h j hj
  cases s : ρ.at j with
  | un => exact .inl rfl
  | dat d => exact .inr ⟨d, rfl⟩
  | own d => rw [s] at this; cases this
  | brw d => rw [s] at this; cases this
section
variable {C : Cst} {W : Fm} {σ : St} {ρ ρ' : Env} {H G H' G' : Hp} {vs : List Nat}
/-- the block's own slots forgotten -/
theorem Rel.wiped (r : Rel C W σ ρ H G) (hu : ∀ j ∈ vs, ρ.at j = .un) (hp : ∀ p ∈ W.pin, p.1 ∉ vs) : Rel C W (wipe σ vs) ρ H G := by
  have own : ∀ i, (ρ.at i).isOwn = true → i ∉ vs := fun i h z => by rw [hu i z] at h; cases h
  refine ⟨r.gh, r.zh, r.nn, r.bz, fun p q => by rw [wipe_at (hp p q)]; exact r.pn p q, by rw [wipe_length]; exact r.ln, fun i => ?_, fun i j a ij h1 h2 e1 e2 => ?_⟩
  · by_cases z : i ∈ vs
    · rw [hu i z]; trivial
    · rw [wipe_at z]; exact r.at_ i
  · rw [wipe_at (own i h1)] at e1
    rw [wipe_at (own j h2)] at e2
    exact r.ne i j a ij h1 h2 e1 e2
/-- and back -/
theorem Rel.unwiped (r : Rel C W σ ρ H G) (g : Ge G G') (c : clear vs ρ = true) (hp : ∀ p ∈ W.pin, p.1 ∉ vs) (r' : Rel C W (wipe σ vs) ρ' H' G') :
    Rel C W σ (restore vs ρ ρ') H' G' ∧ ∀ v d, VOk C W (wipe σ vs) ρ' H' G' v (.own d) → VOk C W σ (restore vs ρ ρ') H' G' v (.own d) := by
  have hl : ρ.length = ρ'.length := by rw [← r.ln, ← r'.ln, wipe_length]
  have own : ∀ i, (Env.at (restore vs ρ ρ') i).isOwn = true → i ∉ vs ∧ (ρ'.at i).isOwn = true := fun i h => by
    rw [restore_at hl] at h
    by_cases z : i ∈ vs
    · rw [if_pos z] at h
      rcases clear_at c z with e | ⟨d, e⟩ <;> (rw [e] at h; cases h)
    · rw [if_neg z] at h; exact ⟨z, h⟩
  refine ⟨⟨r'.gh, r'.zh, r'.nn, r.bz, r.pn, by rw [restore_len, ← hl]; exact r.ln, fun i => ?_, fun i j a ij h1 h2 e1 e2 => ?_⟩, fun v d h => ?_⟩
  · rw [restore_at hl]
    by_cases z : i ∈ vs
    · rw [if_pos z]
      have q := r.at_ i
      rcases clear_at c z with e | ⟨d, e⟩
      · rw [e]; trivial
      · rw [e] at q ⊢
        obtain ⟨v, q1, q2⟩ := q
        exact ⟨v, q1, q2.ge g⟩
    · rw [if_neg z]
      have q := r'.at_ i
      rw [wipe_at z] at q
      exact q
  · obtain ⟨z1, o1⟩ := own i h1
    obtain ⟨z2, o2⟩ := own j h2
    exact r'.ne i j a ij o1 o2 (by rw [wipe_at z1]; exact e1) (by rw [wipe_at z2]; exact e2)
  · obtain ⟨a, rfl, h1, h2, h3, h4, h5⟩ := h
    refine ⟨a, rfl, h1, h2, h3, h4, fun i hi e => ?_⟩
    obtain ⟨z, o⟩ := own i hi
    exact h5 i o (by rw [wipe_at z]; exact e)
end
theorem wipe_wipe {σ : St} : ∀ {vs : List Nat}, wipe (wipe σ vs) vs = wipe σ vs := by
  intro vs
  apply List.ext_getElem?
  intro i
  by_cases h : i ∈ vs
  · have e : ∀ τ : St, τ.length = σ.length → (wipe τ vs)[i]? = if i < σ.length then some none else none := fun τ hτ => by
      cases z : (wipe τ vs)[i]? with
      | none =>
        have := List.getElem?_eq_none_iff.mp z
        rw [wipe_length] at this
        rw [if_neg (by omega)]
      | some o =>
        have hl := (List.getElem?_eq_some_iff.mp z).1
        rw [wipe_length] at hl
        rw [if_pos (by omega)]
        cases o with
        | none => rfl
        | some v => exact absurd h (wipe_some z).2
    rw [e _ (wipe_length _ _), e _ rfl]
  · rw [wipe_out h]
def Jd.blk (J : Jd) : Jd := { J with EW := fun _ _ _ _ => False }
theorem Good.blk {J : Jd} {X : Cx} (G : Good J X) {s : Shared} {H : Hp} {scope : Scope} {env : PySem.Env} {fp : List Addr} : Good J.blk (X.blk s H scope env fp) :=
  ⟨G.hK, G.calm, G.nd, G.hr, takes0, PassesOwn.never⟩
section
variable {J : Jd} {W : Fm} {σ : St} {ρ : Env} {H G : Hp} {Q : VK} {g : TG} {tt : TT} {te : TE} {ts vs : List Nat} {ft : D → Env → Option Env} {ftt : Env → R Bool} {fe : Env → R XV}
theorem lc_core {It : It} {items : List D} (w : WalkOk J.C W G It items) (r : Rel J.C W σ ρ H G) (pk : PinOk W J.P) (hP : ∀ j ∈ vs, j ∉ J.P) (hts : ∀ j ∈ ts, j ∈ vs) (hg : EvG J.blk g ts ft) (ht : EvT J.blk tt ftt) (he : EvE J.blk te fe)
    (h : Got J W σ G (lcR vs ft ftt fe items ρ) (fun x ρ' H' G' => ∀ v, VOk J.C W σ ρ' H' G' v x → Q v H')) : ∀ D, H D = none →
    ∃ W' : Nat → Nat → Hp → Prop, (∃ m, W' 0 m (upd H D (.lst []))) ∧ ∀ i m H, W' i m H →
      (It.stop i H ∧ Q (.ref D) H) ∨ (It.go i H ∧ ∃ Nx : Hp → Prop, (∀ H', Nx H' → ∃ m', m' < m ∧ W' (i + 1) m' H') ∧ ∀ x H', It.yld i H x H' → g x (wipe σ vs) H' fun σ2 H2 => wipe σ2 vs = wipe σ vs ∧ tt σ2 H2 fun b H3 =>
        if b = true then te σ2 H3 fun y H4 => ∃ acc, H4 D = some (.lst acc) ∧ acc.length < sizeLine ∧ Nx (upd H4 D (.lst (acc ++ [y]))) else Nx H3) := by
  intro D hD
  obtain ⟨Gd, Y, wk, hG, hY⟩ := w
  have hp : ∀ p ∈ W.pin, p.1 ∉ vs := fun p q z => hP p.1 z (pk p q)
  have hzD : W.Z D = none := by
    cases z : W.Z D with
    | none => rfl
    | some u => have := r.zh _ _ z; rw [hD] at this; cases this
  have hnD : ¬ W.N D := fun q => by obtain ⟨u, hu⟩ := (r.nn D q).2; rw [hD] at hu; cases hu
  have hbD := r.noB hzD
  unfold lcR at h
  by_cases c : clear vs ρ = true
  case neg => rw [if_neg c] at h; exact h.elim
  rw [if_pos c] at h
  -- what is left at each turn
  let Rest (G' : Hp) (r : R (List DL.D)) : Prop := match r with
    | .ok out ρ2 => ∀ H2 G2, Ge G' G2 → Rel J.C W σ (restore vs ρ ρ2) H2 G2 → ∀ v, VOk J.C W σ (restore vs ρ ρ2) H2 G2 v (.own (.lst out)) → Q v H2
    | _ => False
  have later : ∀ {G1 G2 : Hp} {r : R (List DL.D)}, Ge G1 G2 → Rest G1 r → Rest G2 r := fun {G1 G2 r} e k => by
    cases r with
    | ok out ρ2 => exact fun H2 G2 e2 => k H2 G2 (e.trans e2)
    | exc _ _ _ _ => exact k
    | stuck => exact k
  have h0 : Rest G (lcL vs ft ftt fe items [] (forget vs ρ)) := by
    cases z : lcL vs ft ftt fe items [] (forget vs ρ) with
    | ok out ρ2 => rw [z] at h; exact h
    | exc _ _ _ _ => rw [z] at h; exact h
    | stuck => rw [z] at h; exact h
  have un : ∀ {ρ : Env}, ∀ j ∈ vs, (forget vs ρ).at j = .un := fun {ρ} j hj => by rw [forget_at, if_pos hj]
  refine lc_it wk (fun i H => ∃ ρi Gi accV accD, Ge G Gi ∧ H D = some (.lst accV) ∧ IsDs J.C Gi accV accD ∧ Rel J.C (W.hold D (.lst accV)) (wipe σ vs) ρi H Gi ∧ (∀ j ∈ vs, ρi.at j = .un) ∧ Rest Gi (lcL vs ft ftt fe (items.drop i) accD ρi)) ?_ ?_ ?_ ?_
  · have r1 : Rel J.C W (wipe σ vs) (forget vs ρ) H G := (r.forget (l := vs)).wiped un hp
    have r2 := (r1.new (o := .lst []) hD).hold (d := .lst []) (r1.newV hD ⟨[], upd_same, .nil⟩) upd_same
    exact ⟨forget vs ρ, G, [], [], Ge.refl _, upd_same, .nil, r2, un, h0⟩
  · rintro i H _ ⟨ρi, Gi, accV, accD, e, hD, ha, ri, _, _⟩
    exact hG (wipe σ vs) ρi H Gi e (ri.release hzD hnD hbD).1
  · rintro i x H H' hi ⟨ρi, Gi, accV, accD, e, hDi, ha, ri, hu, hr⟩ y
    have hd : items.drop i = items[i] :: items.drop (i + 1) := List.drop_eq_getElem_cons hi
    rw [hd, lcL] at hr
    obtain ⟨G2, e2, r2, d2⟩ := hY i items[i] (List.getElem?_eq_getElem hi) _ (wipe σ vs) ρi H Gi x H' ri e y fun a o z => by
      rw [hold_ne (fun q => by subst q; rw [hzD] at z; cases z)]; exact z
    cases z : ft items[i] ρi with
    | none => rw [z] at hr; exact hr.elim
    | some ρ1 =>
      rw [z] at hr
      dsimp only at hr
      refine hg (W.hold D (.lst accV)) (wipe σ vs) ρi H' G2 x _ ρ1 _ pk r2 d2 z fun σ1 w1 r3 => ⟨(w1 vs hts).trans wipe_wipe, ?_⟩
      have hw : wipe σ1 vs = wipe σ vs := (w1 vs hts).trans wipe_wipe
      refine ht (W.hold D (.lst accV)) σ1 ρ1 H' G2 _ pk r3 ?_
      cases zt : ftt ρ1 with
      | stuck => rw [zt] at hr; exact hr.elim
      | exc _ _ _ _ => rw [zt] at hr; exact hr.elim
      | ok b ρ2 =>
        rw [zt] at hr
        intro H3 G3 e3 r4
        cases b with
        | false =>
          rw [if_neg (by decide)]
          dsimp only at hr
          have r5 : Rel J.C (W.hold D (.lst accV)) (wipe σ vs) (forget vs ρ2) H3 G3 := by
            have := (r4.forget (l := vs)).wiped un (fun p q => hp p q)
            rwa [hw] at this
          exact ⟨forget vs ρ2, G3, accV, accD, e.trans (e2.trans e3), r4.zh D _ hold_eq, ha.ge (e2.trans e3), r5, un, later (e2.trans e3) hr⟩
        | true =>
          rw [if_pos rfl]
          dsimp only at hr
          refine he.val (W.hold D (.lst accV)) σ1 ρ2 H3 G3 _ pk r4 ?_
          cases zv : valS fe ρ2 with
          | stuck => rw [zv] at hr; exact hr.elim
          | exc _ _ _ _ => rw [zv] at hr; exact hr.elim
          | ok yd ρ3 =>
            rw [zv] at hr
            dsimp only at hr
            intro H4 G4 e4 r5 yv hy
            by_cases hlen : accD.length < LIM
            · rw [if_pos hlen] at hr
              have hD4 := r5.zh D _ hold_eq
              have r6 : Rel J.C (W.hold D (.lst accV)) (wipe σ vs) (forget vs ρ3) H4 G4 := by
                have := (r5.forget (l := vs)).wiped un (fun p q => hp p q)
                rwa [hw] at this
              have ee := e2.trans (e3.trans e4)
              refine ⟨accV, hD4, by rw [ha.length]; exact lim_lt hlen, forget vs ρ3, G4, accV ++ [yv], accD ++ [yd], e.trans ee, upd_same, (ha.ge ee).append (.cons hy .nil), r6.rehold hbD, un, later ee hr⟩
            · rw [if_neg hlen] at hr; exact hr.elim
  · rintro H ⟨ρi, Gi, accV, accD, e, hDi, ha, ri, hu, hr⟩
    rw [List.drop_length] at hr
    obtain ⟨r1, v1⟩ := ri.release hzD hnD hbD
    obtain ⟨r2, v2⟩ := r.unwiped e c hp r1
    exact hr H Gi (Ge.refl _) r2 _ (v2 _ _ (v1 (.lst accD) ⟨accV, hDi, ha⟩))
end
section
variable {ι : Type}
/-- the contexts of a comprehension's block -/
abbrev blkF (Xs : ι → Cx) (scope : Scope) : ι × (Shared × Hp × Addr × List (Str × Addr) × List Addr) → Cx := fun p => (Xs p.1).blk p.2.1 p.2.2.1 scope (compEnvC scope p.2.2.2.2.1 p.2.2.2.1 (Xs p.1).env) p.2.2.2.2.2
def CTs (J : Jd) (Xs : ι → Cx) (ifs : List Expr) (f : Env → R Bool) : Prop := ∃ t, (∀ i, Good J (Xs i) → PTs (Xs i) ifs t) ∧ EvT J t f
def yesT : Env → R Bool := fun ρ => .ok true ρ
variable {J : Jd} {Xs : ι → Cx} {tg iter elt c : Expr} {ifs : List Expr} {scope : Scope} {own : List (Str × Nat)} {pos : Pos} {ts vs : List Nat} {fi : Env → R (List D)} {ft : D → Env → Option Env} {tt : Env → R Bool} {fe : Env → R XV}
theorem cts_nil : CTs J Xs [] yesT := ⟨_, fun i _ => pts_nil, fun W σ ρ H G Q pk r k => k H G (Ge.refl _) r⟩
theorem cts_one (h : CT J Xs c tt) : CTs J Xs [c] tt := by
  obtain ⟨t, h1, h2⟩ := h
  exact ⟨t, fun i G => pts_one (h1 i G), h2⟩
theorem ev_lc {wi : TI} {g : TG} {t : TT} {te : TE} (hi : EvI J wi fi) (hP : ∀ j ∈ vs, j ∉ J.P) (hts : ∀ j ∈ ts, j ∈ vs) (hg : EvG J.blk g ts ft) (ht : EvT J.blk t tt) (he : EvE J.blk te fe) : EvE J (tLc wi g t te vs) (lcS vs fi ft tt fe) := by
  intro W σ ρ H G Q pk r h
  refine hi W σ ρ H G _ pk r ((Got.bind h).imp fun items ρ1 H1 G1 e1 r1 k It w => ?_)
  exact lc_core w r1 pk hP hts hg ht he k
/-- [elt for tg in iter if ..] -/
theorem ce_lc (hi : CI J Xs tg iter fi) (ok : ∀ i, BlkOk (Xs i).N (Xs i).env.scope scope own) (hg : CG J.blk (blkF Xs scope) tg ts ft) (ht : CTs J.blk (blkF Xs scope) ifs tt) (he : CE J.blk (blkF Xs scope) elt fe)
    (hvs : own.map (·.2) = vs) (hts : ∀ j ∈ ts, j ∈ vs) (hP : ∀ j ∈ vs, j ∉ J.P) (hs : ∀ i x, foldedSetIterable iter (Xs i).env x = pure x := by intro _ _; rfl) : CE J Xs (.ListComp elt [⟨tg, iter, ifs, 0⟩] scope pos) (lcS vs fi ft tt fe) := by
  obtain ⟨wi, i1, i2⟩ := hi
  obtain ⟨g, g1, g2⟩ := hg
  obtain ⟨t, t1, t2⟩ := ht
  obtain ⟨te, e1, e2⟩ := he
  subst hvs
  exact ⟨_, fun i G => pe_lc G.calm G.nd (i1 i G) (ok i) (fun s H C cl fp => g1 (i, s, H, C, cl, fp) G.blk) (fun s H C cl fp => t1 (i, s, H, C, cl, fp) G.blk) (fun s H C cl fp => e1 (i, s, H, C, cl, fp) G.blk) (hs i), ev_lc i2 hP hts g2 t2 e2⟩
/-- y = [..] on one line, y a local -/
theorem cs_setLc {j : Nat} {y : Str} {py spos : Pos} (hi : CI J Xs tg iter fi) (ok : ∀ i, BlkOk (Xs i).N (Xs i).env.scope scope own) (hg : CG J.blk (blkF Xs scope) tg ts ft) (ht : CTs J.blk (blkF Xs scope) ifs tt) (he : CE J.blk (blkF Xs scope) elt fe)
    (hvs : own.map (·.2) = vs) (hts : ∀ j ∈ ts, j ∈ vs) (hP : ∀ j ∈ vs, j ∉ J.P) (hp : j ∉ J.P) (hy : ∀ i, (Xs i).N[j]? = some y := by intro _; rfl) (hyl : ∀ i, (Xs i).env.scope.names.lookup y = some .local := by intro _; rfl)
    (hsw : ∀ i, swapsWith (.ListComp elt [⟨tg, iter, ifs, 0⟩] scope pos) (some (.Name y py)) spos.line (Xs i).env = pure true) (hs : ∀ i x, foldedSetIterable iter (Xs i).env x = pure x := by intro _ _; rfl) :
    CS J Xs (.Assign [.Name y py] (.ListComp elt [⟨tg, iter, ifs, 0⟩] scope pos) spos) (asgS j (lcS vs fi ft tt fe)) := by
  obtain ⟨wi, i1, i2⟩ := hi
  obtain ⟨g, g1, g2⟩ := hg
  obtain ⟨t, t1, t2⟩ := ht
  obtain ⟨te, e1, e2⟩ := he
  subst hvs
  exact ⟨_, fun i G => ps_setLc G.calm G.nd (hy i) (hyl i) (hsw i) (i1 i G) (ok i) (fun s H C cl fp => g1 (i, s, H, C, cl, fp) G.blk) (fun s H C cl fp => t1 (i, s, H, C, cl, fp) G.blk) (fun s H C cl fp => e1 (i, s, H, C, cl, fp) G.blk) (hs i), ev_asg (ev_lc i2 hP hts g2 t2 e2) hp⟩
end
end DL
namespace DL
open PySem L2

/-! ## loops over a slot's own list -/
def giveBack {α : Type} (i : Nat) (d : D) : R α → R α
  | .ok a ρ => .ok a (ρ.set i (.own d))
  | .exc c ns vs ρ => .exc c ns vs (ρ.set i (.own d))
  | .stuck => .stuck
def overS {α : Type} (i : Nat) (body : List D → Env → R α) : Env → R α := fun ρ => match ρ.at i with
  | .own (.lst l) => giveBack i (.lst l) (body l (ρ.set i (.brw (.lst l))))
  | .brw (.lst l) => body l ρ
  | .dat (.lst l) => body l ρ
  | .dat (.rol l) => body l ρ
  | .dat (.tup l) => body l ρ
  | _ => .stuck
def Jd.pin (J : Jd) (i : Nat) : Jd := { J with P := i :: J.P }
theorem Good.pin {J : Jd} {X : Cx} (G : Good J X) (i : Nat) : Good (J.pin i) X := ⟨G.hK, G.calm, G.nd, G.hr, G.tk, G.po⟩
theorem PinOk.pin {W : Fm} {J : Jd} (pk : PinOk W J.P) (i : Nat) : PinOk W (J.pin i).P := fun p q => List.mem_cons_of_mem _ (pk p q)
section
variable {J : Jd} {W : Fm} {σ : St} {ρ : Env} {H G : Hp} {i : Nat}
/-- the reading of a walk over the i-th name, list or tuple -/
def iSlot (K : PySem.W.Frag) (i : Nat) : TI := fun σ H R => iList K (tVar i) σ H R ∨ iTup K (tVar i) σ H R
theorem lend_len {a : Addr} {o : HO} {C : Cst} {σ' : St} {ρ2 : Env} {H' G' : Hp} (r' : Rel C (W.lend i a o) σ' ρ2 H' G') : i < ρ2.length := by
  rw [← r'.ln]
  exact (List.getElem?_eq_some_iff.mp (r'.pn (i, a) List.mem_cons_self)).1
theorem GotS.lend {d : D} {a : Addr} {o : HO} {r0 : R Out} {E : Ends} (r : Rel J.C W σ ρ H G) (s : ρ.at i = .own d) (q1 : σ[i]? = some (some (.ref a))) (q6 : H a = some o) (h : GotS J W G (giveBack i d r0) E) : GotS (J.pin i) (W.lend i a o) G r0 E := by
  cases r0 with
  | stuck => exact h
  | exc c ns vs ρ2 => exact fun dd σ' H' G' g r' x => h dd σ' H' G' g (r.unlend s q1 q6 g r' (lend_len r')).1 x
  | ok b ρ2 =>
    cases b with
    | nx => exact fun σ' H' G' g r' => h σ' H' G' g (r.unlend s q1 q6 g r' (lend_len r')).1
    | brk => exact fun σ' H' G' g r' => h σ' H' G' g (r.unlend s q1 q6 g r' (lend_len r')).1
    | cont => exact fun σ' H' G' g r' => h σ' H' G' g (r.unlend s q1 q6 g r' (lend_len r')).1
    | ret x =>
      intro v σ' H' G' g r' vk
      obtain ⟨u1, u2⟩ := r.unlend s q1 q6 g r' (lend_len r')
      exact h v σ' H' G' g u1 (u2 v x vk)
theorem Got.lend {d : D} {a : Addr} {o : HO} {r0 : R XV} {Q : VK} (r : Rel J.C W σ ρ H G) (s : ρ.at i = .own d) (q1 : σ[i]? = some (some (.ref a))) (q6 : H a = some o)
    (h : Got J W σ G (giveBack i d r0) (fun x ρ' H' G' => ∀ v, VOk J.C W σ ρ' H' G' v x → Q v H')) : Got (J.pin i) (W.lend i a o) σ G r0 (fun x ρ' H' G' => ∀ v, VOk J.C (W.lend i a o) σ ρ' H' G' v x → Q v H') := by
  cases r0 with
  | stuck => exact h
  | exc c ns vs ρ2 => exact fun dd H' G' g r' x => h dd H' G' g (r.unlend s q1 q6 g r' (lend_len r')).1 x
  | ok b ρ2 =>
    intro H' G' g r' v vk
    obtain ⟨u1, u2⟩ := r.unlend s q1 q6 g r' (lend_len r')
    exact h H' G' g u1 v (u2 v b vk)
theorem lend_pk {a : Addr} {o : HO} (pk : PinOk W J.P) : PinOk (W.lend i a o) (J.pin i).P := fun p q => by
  rcases List.mem_cons.mp q with rfl | q
  · exact List.mem_cons_self
  · exact List.mem_cons_of_mem _ (pk p q)
theorem ev_forB {g : TG} {tb : TS} {ts fg : List Nat} {ft : D → Env → Option Env} {fb : Env → R Out} (hg : EvG (J.pin i) g ts ft) (hb : EvS (J.pin i) tb fb) : EvS J (tFor (iSlot J.C.K i) g tb) (overS i (forL fg ft fb)) := by
  intro W σ ρ H G E pk r h
  unfold overS at h
  have q := r.at_ i
  cases s : ρ.at i with
  | un => rw [s] at h; exact h.elim
  | dat d =>
    rw [s] at q h
    obtain ⟨v, q1, q2⟩ := q
    cases d <;> first | (exact h.elim) | skip
    · cases q2 with
      | tup h1 h2 => exact .inr ⟨_, q1, _, rfl, ⟨_, r.gh.sqT h1⟩, for_core (J := J.pin i) (walk_tupD h1 h2) r (pk.pin i) hg hb h⟩
    · cases q2 with
      | lst h1 h2 => exact .inl ⟨_, q1, _, rfl, ⟨_, SqL.of (r.gh _ _ h1)⟩, for_core (J := J.pin i) (walk_lstD (SqL.of h1) h2) r (pk.pin i) hg hb h⟩
    · cases q2 with
      | rol h1 h2 => exact .inl ⟨_, q1, _, rfl, ⟨_, r.gh.sqL h1⟩, for_core (J := J.pin i) (walk_lstD h1 h2) r (pk.pin i) hg hb h⟩
  | brw d =>
    rw [s] at q h
    obtain ⟨a, q1, q2, q3⟩ := q
    cases d <;> first | (exact h.elim) | skip
    obtain ⟨xs, q4, q5⟩ := q2
    exact .inl ⟨_, q1, a, rfl, ⟨xs, SqL.of (r.zh _ _ q4)⟩, for_core (J := J.pin i) (WalkOk.of walk_list q5 fun σ ρ H G' g r => SqL.of (r.zh _ _ q4)) r (pk.pin i) hg hb h⟩
  | own d =>
    rw [s] at h
    obtain ⟨a, q1, q2, q3, q4, q5⟩ := r.own s
    cases d <;> first | (exact h.elim) | skip
    rename_i l
    obtain ⟨xs, q6, q7⟩ := q2
    exact .inl ⟨_, q1, a, rfl, ⟨xs, SqL.of q6⟩, for_core (J := J.pin i) (W := W.lend i a (.lst xs)) (WalkOk.of walk_list q7 fun σ ρ H G' g r => SqL.of (r.zh _ _ upd_same)) (r.lend s q1 q6) (lend_pk pk) hg hb (GotS.lend r s q1 q6 h)⟩
theorem ev_lcB {g : TG} {t : TT} {te : TE} {ts vs : List Nat} {ft : D → Env → Option Env} {tt : Env → R Bool} {fe : Env → R XV} (hP : ∀ j ∈ vs, j ∉ (J.pin i).P) (hts : ∀ j ∈ ts, j ∈ vs) (hg : EvG (J.pin i).blk g ts ft) (ht : EvT (J.pin i).blk t tt) (he : EvE (J.pin i).blk te fe) :
    EvE J (tLc (iSlot J.C.K i) g t te vs) (overS i (lcR vs ft tt fe)) := by
  intro W σ ρ H G Q pk r h
  unfold overS at h
  have q := r.at_ i
  cases s : ρ.at i with
  | un => rw [s] at h; exact h.elim
  | dat d =>
    rw [s] at q h
    obtain ⟨v, q1, q2⟩ := q
    cases d <;> first | (exact h.elim) | skip
    · cases q2 with
      | tup h1 h2 => exact .inr ⟨_, q1, _, rfl, ⟨_, r.gh.sqT h1⟩, lc_core (J := J.pin i) (walk_tupD h1 h2) r (pk.pin i) hP hts hg ht he h⟩
    · cases q2 with
      | lst h1 h2 => exact .inl ⟨_, q1, _, rfl, ⟨_, SqL.of (r.gh _ _ h1)⟩, lc_core (J := J.pin i) (walk_lstD (SqL.of h1) h2) r (pk.pin i) hP hts hg ht he h⟩
    · cases q2 with
      | rol h1 h2 => exact .inl ⟨_, q1, _, rfl, ⟨_, r.gh.sqL h1⟩, lc_core (J := J.pin i) (walk_lstD h1 h2) r (pk.pin i) hP hts hg ht he h⟩
  | brw d =>
    rw [s] at q h
    obtain ⟨a, q1, q2, q3⟩ := q
    cases d <;> first | (exact h.elim) | skip
    obtain ⟨xs, q4, q5⟩ := q2
    exact .inl ⟨_, q1, a, rfl, ⟨xs, SqL.of (r.zh _ _ q4)⟩, lc_core (J := J.pin i) (WalkOk.of walk_list q5 fun σ ρ H G' g r => SqL.of (r.zh _ _ q4)) r (pk.pin i) hP hts hg ht he h⟩
  | own d =>
    rw [s] at h
    obtain ⟨a, q1, q2, q3, q4, q5⟩ := r.own s
    cases d <;> first | (exact h.elim) | skip
    rename_i l
    obtain ⟨xs, q6, q7⟩ := q2
    exact .inl ⟨_, q1, a, rfl, ⟨xs, SqL.of q6⟩, lc_core (J := J.pin i) (W := W.lend i a (.lst xs)) (WalkOk.of walk_list q7 fun σ ρ H G' g r => SqL.of (r.zh _ _ upd_same)) (r.lend s q1 q6) (lend_pk pk) hP hts hg ht he (Got.lend r s q1 q6 h)⟩
end
section
variable {ι : Type} {J : Jd} {Xs : ι → Cx} {tg elt : Expr} {body : List Stmt} {ifs : List Expr} {scope : Scope} {own : List (Str × Nat)} {p pos : Pos} {ts vs : List Nat} {x : Str} {ft : D → Env → Option Env} {tt : Env → R Bool} {fe : Env → R XV} {fb : Env → R Out}
theorem pi_slot {X : Cx} {J : Jd} (i : Nat) (G : Good J X) (hN : X.N[i]? = some x) (hv : Vis X.env.scope x) (hd : (x == ("__debug__" : Str)) = false) (hcd : (x == ("__classdict__" : Str)) = false) : PI X tg (.Name x p) (iSlot J.C.K i) := by
  have h := pe_var (pos := p) hN hv hd hcd
  have := PI.or (pi_list (tg := tg) h) (pi_tup (tg := tg) h)
  rw [G.hK] at this
  exact this
variable (i : Nat) (hN : ∀ j, (Xs j).N[i]? = some x := by intro _; rfl) (hv : ∀ j, Vis (Xs j).env.scope x := by first | exact fun _ => Or.inl rfl | exact fun _ => Or.inr (Or.inl rfl) | exact fun _ => Or.inr (Or.inr rfl))
  (hd : (x == ("__debug__" : Str)) = false := by decide) (hcd : (x == ("__classdict__" : Str)) = false := by decide)
include hN hv hd hcd
theorem cs_forB (fg : List Nat) (hg : CG (J.pin i) Xs tg ts ft) (hb : CSs (J.pin i) Xs body fb) (hs : ∀ j y, foldedSetIterable (.Name x p) (Xs j).env y = pure y := by intro _ _; rfl) : CS J Xs (.For tg (.Name x p) body [] pos) (overS i (forL fg ft fb)) := by
  obtain ⟨g, g1, g2⟩ := hg
  obtain ⟨tb, b1, b2⟩ := hb
  exact ⟨_, fun j G => ps_for G.po G.calm (pi_slot i G (hN j) (hv j) hd hcd) (g1 j (G.pin i)) (b1 j (G.pin i)) (hs j), ev_forB g2 b2⟩
theorem ce_lcB (ok : ∀ j, BlkOk (Xs j).N (Xs j).env.scope scope own) (hg : CG (J.pin i).blk (blkF Xs scope) tg ts ft) (ht : CTs (J.pin i).blk (blkF Xs scope) ifs tt) (he : CE (J.pin i).blk (blkF Xs scope) elt fe)
    (hvs : own.map (·.2) = vs) (hts : ∀ j ∈ ts, j ∈ vs) (hP : ∀ j ∈ vs, j ∉ (J.pin i).P) (hs : ∀ j y, foldedSetIterable (.Name x p) (Xs j).env y = pure y := by intro _ _; rfl) : CE J Xs (.ListComp elt [⟨tg, (.Name x p), ifs, 0⟩] scope pos) (overS i (lcR vs ft tt fe)) := by
  obtain ⟨g, g1, g2⟩ := hg
  obtain ⟨t, t1, t2⟩ := ht
  obtain ⟨te, e1, e2⟩ := he
  subst hvs
  exact ⟨_, fun j G => pe_lc G.calm G.nd (pi_slot i G (hN j) (hv j) hd hcd) (ok j) (fun s H C cl fp => g1 (j, s, H, C, cl, fp) (G.pin i).blk) (fun s H C cl fp => t1 (j, s, H, C, cl, fp) (G.pin i).blk) (fun s H C cl fp => e1 (j, s, H, C, cl, fp) (G.pin i).blk) (hs j), ev_lcB hP hts g2 t2 e2⟩
theorem cs_setLcB {n : Nat} {y : Str} {py spos : Pos} (ok : ∀ j, BlkOk (Xs j).N (Xs j).env.scope scope own) (hg : CG (J.pin i).blk (blkF Xs scope) tg ts ft) (ht : CTs (J.pin i).blk (blkF Xs scope) ifs tt) (he : CE (J.pin i).blk (blkF Xs scope) elt fe)
    (hvs : own.map (·.2) = vs) (hts : ∀ j ∈ ts, j ∈ vs) (hP : ∀ j ∈ vs, j ∉ (J.pin i).P) (hp : n ∉ J.P) (hy : ∀ j, (Xs j).N[n]? = some y := by intro _; rfl) (hyl : ∀ j, (Xs j).env.scope.names.lookup y = some .local := by intro _; rfl)
    (hsw : ∀ j, swapsWith (.ListComp elt [⟨tg, (.Name x p), ifs, 0⟩] scope pos) (some (.Name y py)) spos.line (Xs j).env = pure true) (hs : ∀ j y, foldedSetIterable (.Name x p) (Xs j).env y = pure y := by intro _ _; rfl) :
    CS J Xs (.Assign [.Name y py] (.ListComp elt [⟨tg, (.Name x p), ifs, 0⟩] scope pos) spos) (asgS n (overS i (lcR vs ft tt fe))) := by
  obtain ⟨g, g1, g2⟩ := hg
  obtain ⟨t, t1, t2⟩ := ht
  obtain ⟨te, e1, e2⟩ := he
  subst hvs
  exact ⟨_, fun j G => ps_setLc G.calm G.nd (hy j) (hyl j) (hsw j) (pi_slot i G (hN j) (hv j) hd hcd) (ok j) (fun s H C cl fp => g1 (j, s, H, C, cl, fp) (G.pin i).blk) (fun s H C cl fp => t1 (j, s, H, C, cl, fp) (G.pin i).blk) (fun s H C cl fp => e1 (j, s, H, C, cl, fp) (G.pin i).blk) (hs j), ev_asg (ev_lcB hP hts g2 t2 e2) hp⟩
end

/-! ## while -/
def whileL (fg : List Nat) (tt : Env → R Bool) (fb : Env → R Out) : Nat → Env → R Out
  | 0, _ => .stuck
  | n + 1, ρ => match tt (forget fg ρ) with
    | .ok true ρ1 => match fb ρ1 with
      | .ok .nx ρ2 => whileL fg tt fb n ρ2
      | .ok .cont ρ2 => whileL fg tt fb n ρ2
      | .ok .brk ρ2 => .ok .nx ρ2
      | r => r
    | .ok false ρ1 => .ok .nx ρ1
    | .exc c ns vs ρ1 => .exc c ns vs ρ1
    | .stuck => .stuck
def whileS (fg : List Nat) (fuel : Env → Nat) (tt : Env → R Bool) (fb : Env → R Out) : Env → R Out := fun ρ => whileL fg tt fb (fuel ρ) ρ
theorem ev_while {J : Jd} {t : TT} {tb : TS} {fg : List Nat} {fuel : Env → Nat} {tt : Env → R Bool} {fb : Env → R Out} (ht : EvT J t tt) (hb : EvS J tb fb) : EvS J (tWhile t tb) (whileS fg fuel tt fb) := by
  intro W σ ρ H G E pk r h
  refine ⟨fun m σ H => ∃ ρ G', Ge G G' ∧ Rel J.C W σ ρ H G' ∧ GotS J W G' (whileL fg tt fb m ρ) E, ⟨fuel ρ, ρ, G, Ge.refl _, r, h⟩, ?_⟩
  rintro m σ H ⟨ρ, G1, e1, r1, h1⟩
  cases m with
  | zero => exact h1.elim
  | succ m =>
    rw [whileL] at h1
    refine ht W σ (forget fg ρ) H G1 _ pk r1.forget ?_
    cases z : tt (forget fg ρ) with
    | stuck => rw [z] at h1; exact h1
    | exc c ns vs ρ1 => rw [z] at h1; exact fun d H' G' e r x => h1 d σ H' G' e r x
    | ok b ρ1 =>
      rw [z] at h1
      intro H2 G2 e2 r2
      cases b with
      | false => rw [if_neg (by decide)]; exact h1 σ H2 G2 e2 r2
      | true =>
        rw [if_pos rfl]
        dsimp only at h1
        refine ⟨fun σ H => ∃ ρ G', Ge G G' ∧ Rel J.C W σ ρ H G' ∧ GotS J W G' (whileL fg tt fb m ρ) E, fun σ' H' k => ⟨m, Nat.lt_succ_self m, k⟩, ?_⟩
        refine hb W σ ρ1 H2 G2 _ pk r2 ?_
        have h1 : GotS J W G2 (match fb ρ1 with
          | .ok .nx ρ2 => whileL fg tt fb m ρ2
          | .ok .cont ρ2 => whileL fg tt fb m ρ2
          | .ok .brk ρ2 => .ok .nx ρ2
          | r => r) E := GotS.later h1 e2
        cases zb : fb ρ1 with
        | stuck => rw [zb] at h1; exact h1
        | exc c ns vs ρ2 => rw [zb] at h1; exact h1
        | ok o ρ2 =>
          rw [zb] at h1
          cases o with
          | nx => exact fun σ H G' e r => ⟨ρ2, G', e1.trans (e2.trans e), r, h1.later e⟩
          | cont => exact fun σ H G' e r => ⟨ρ2, G', e1.trans (e2.trans e), r, h1.later e⟩
          | brk => exact h1
          | ret x => exact h1
theorem cs_while {ι : Type} {J : Jd} {Xs : ι → Cx} {c : Expr} {body : List Stmt} {pos : Pos} {tt : Env → R Bool} {fb : Env → R Out} (fg : List Nat) (fuel : Env → Nat) (hc : CT J Xs c tt) (hb : CSs J Xs body fb) : CS J Xs (.While c body [] pos) (whileS fg fuel tt fb) := by
  obtain ⟨t, t1, t2⟩ := hc
  obtain ⟨tb, b1, b2⟩ := hb
  exact ⟨_, fun i G => ps_while G.po (t1 i G) (b1 i G), ev_while t2 b2⟩
end DL
namespace DL
open PySem L2

/-! ## displays -/
def datsOf : List XV → Option (List D)
  | [] => some []
  | .dat d :: xs => (datsOf xs).map (d :: ·)
  | _ :: _ => none
theorem dats_of {C : Cst} {σ : St} {G : Hp} : ∀ {vs : List V} {xs : List XV} {ds : List D}, Waits C σ G vs xs → datsOf xs = some ds → IsDs C G vs ds
  | [], [], _, _, e => by cases e; exact .nil
  | v :: vs, x :: xs, ds, h, e => by
    cases x <;> first | (cases e; done) | skip
    simp only [datsOf] at e
    cases z : datsOf xs with
    | none => rw [z] at e; cases e
    | some l => rw [z] at e; cases e; exact .cons h.1 (dats_of h.2 z)
  | [], _ :: _, _, h, _ => h.elim
  | _ :: _, [], _, h, _ => h.elim
def tupO (xs : List XV) (ρ : Env) : R XV := match datsOf xs with
  | some ds => if ds.length ≤ LIM then .ok (.dat (.tup ds)) ρ else .stuck
  | none => .stuck
def lstO (xs : List XV) (ρ : Env) : R XV := match datsOf xs with
  | some ds => if ds.length ≤ LIM then .ok (.own (.lst ds)) ρ else .stuck
  | none => .stuck
def tupS (fs : Env → R (List XV)) : Env → R XV := fun ρ => (fs ρ).bind tupO
def lstS (fs : Env → R (List XV)) : Env → R XV := fun ρ => (fs ρ).bind lstO
section
variable {ι : Type} {J : Jd} {Xs : ι → Cx} {e a b c : Expr} {es : List Expr} {f g h : Env → R XV} {fs : Env → R (List XV)} {p pos apos : Pos}
theorem ce_tup {k : Nat} (ha : CA_ J Xs es fs) : CE J Xs (.Tuple es k pos) (tupS fs) := by
  obtain ⟨t, h1, h2⟩ := ha
  refine ⟨_, fun i G => pe_tup (h1 i G), fun W σ ρ H G Q pk r h => ?_⟩
  refine h2 W σ ρ H G _ pk r ((Got.bind h).imp fun xs ρ1 H1 G1 e1 r1 k vs wk => ?_)
  unfold tupO at k
  cases z : datsOf xs with
  | none => rw [z] at k; exact k.elim
  | some ds =>
    rw [z] at k
    dsimp only at k
    have hd := dats_of wk z
    by_cases hl : ds.length ≤ LIM
    · rw [if_pos hl] at k
      exact ⟨by rw [hd.length]; exact lim_le hl, fun p hp => r1.backTup hd (fun v' H' G' a b c => k H' G' a b v' c) hp⟩
    · rw [if_neg hl] at k; exact k.elim
theorem ce_lst (ha : CA_ J Xs es fs) : CE J Xs (.List es pos) (lstS fs) := by
  obtain ⟨t, h1, h2⟩ := ha
  refine ⟨_, fun i G => pe_lst (h1 i G), fun W σ ρ H G Q pk r h => ?_⟩
  refine h2 W σ ρ H G _ pk r ((Got.bind h).imp fun xs ρ1 H1 G1 e1 r1 k vs wk => ?_)
  unfold lstO at k
  cases z : datsOf xs with
  | none => rw [z] at k; exact k.elim
  | some ds =>
    rw [z] at k
    dsimp only at k
    have hd := dats_of wk z
    by_cases hl : ds.length ≤ LIM
    · rw [if_pos hl] at k
      exact ⟨by rw [hd.length]; exact lim_le hl, fun p hp => r1.backLst hd (fun v' H' G' a b c => k H' G' a b v' c) hp⟩
    · rw [if_neg hl] at k; exact k.elim
/-- *xs -/
def starO (fs : Env → R (List XV)) (d : D) (ρ : Env) : R (List XV) := match seqD d with
  | some l => (fs ρ).bind fun xs ρ => .ok (l.map XV.dat ++ xs) ρ
  | none => .stuck
def starS (f : Env → R XV) (fs : Env → R (List XV)) : Env → R (List XV) := fun ρ => (valS f ρ).bind (starO fs)
theorem waits_dats {C : Cst} {σ : St} {G : Hp} : ∀ {vs : List V} {ds : List D} {ws : List V} {xs : List XV}, IsDs C G vs ds → Waits C σ G ws xs → Waits C σ G (vs ++ ws) (ds.map XV.dat ++ xs)
  | _, _, _, _, .nil, k => k
  | _, _, _, _, .cons h hs, k => ⟨h, waits_dats hs k⟩
theorem IsD.seq {C : Cst} {G : Hp} {v : V} {d : D} {l : List D} (h : IsD C G v d) (e : seqD d = some l) : ∃ a xs, v = .ref a ∧ (SqT C.K G a xs ∨ SqL C.K G a xs) ∧ IsDs C G xs l := by
  cases d <;> cases e
  · cases h with
    | tup h1 h2 => exact ⟨_, _, rfl, .inl h1, h2⟩
  · cases h with
    | lst h1 h2 => exact ⟨_, _, rfl, .inr (SqL.of h1), h2⟩
  · cases h with
    | rol h1 h2 => exact ⟨_, _, rfl, .inr h1, h2⟩
theorem ca_star (he : CE J Xs e f) (hr : CA_ J Xs es fs) (hs : ∀ i, starEach (.Starred e p :: es) (Xs i).env = (true, eval e (Xs i).env) :: starEach es (Xs i).env := by intro _; rfl) : CA_ J Xs (.Starred e p :: es) (starS f fs) := by
  obtain ⟨t, h1, h2⟩ := he
  obtain ⟨u, k1, k2⟩ := hr
  refine ⟨StX.tStar J.C.K t u, fun i G => ?_, fun W σ ρ H G Q pk r h => ?_⟩
  · have := StX.pa_star (p := p) (h1 i G) (k1 i G) (hs i)
    rw [G.hK] at this
    exact this
  · refine h2.val W σ ρ H G _ pk r ((Got.bind h).imp fun d ρ1 H1 G1 e1 r1 k v vk => ?_)
    unfold starO at k
    cases z : seqD d with
    | none => rw [z] at k; exact k.elim
    | some l =>
      rw [z] at k
      dsimp only at k
      obtain ⟨a, xs, rfl, q1, q2⟩ := IsD.seq vk z
      have q1' : SqT J.C.K H1 a xs ∨ SqL J.C.K H1 a xs := q1.imp r1.gh.sqT r1.gh.sqL
      refine ⟨a, xs, rfl, q1', ?_⟩
      refine k2 W σ ρ1 H1 G1 _ pk r1 ((Got.bind k).imp fun ys ρ2 H2 G2 e2 r2 k ws wk => ?_)
      exact k H2 G2 (Ge.refl _) r2 _ (waits_dats (q2.ge e2) wk)
/-! ## slices -/
def CP (J : Jd) (Xs : ι → Cx) (eo : Option Expr) (f : Env → R (Option Int)) : Prop := ∃ to, (∀ i, Good J (Xs i) → PO (Xs i) eo to) ∧
  ∀ W σ ρ H G Q, PinOk W J.P → Rel J.C W σ ρ H G → Got J W σ G (f ρ) (fun o _ H' _ => Q o H') → to σ H Q
def noP : Env → R (Option Int) := fun ρ => .ok none ρ
def someP (f : Env → R XV) : Env → R (Option Int) := fun ρ => (f ρ).bind fun x ρ => match x with
  | .dat (.int i) => .ok (some i) ρ
  | _ => .stuck
theorem cp_none : CP J Xs none noP := ⟨_, fun i _ => po_none, fun W σ ρ H G Q pk r k => k H G (Ge.refl _) r⟩
theorem cp_some (h : CE J Xs e f) : CP J Xs (some e) (someP f) := by
  obtain ⟨t, h1, h2⟩ := h
  refine ⟨_, fun i G => po_some (h1 i G), fun W σ ρ H G Q pk r k => ?_⟩
  refine h2 W σ ρ H G _ pk r ((Got.bind k).imp fun x ρ1 H1 G1 e1 r1 k v vk => ?_)
  cases x with
  | own d => exact k.elim
  | slot i => exact k.elim
  | dat d =>
    cases d <;> first | (exact k.elim) | skip
    cases vk
    exact ⟨_, rfl, k H1 G1 (Ge.refl _) r1⟩
def cutD (xs : List D) (lo hi : Option Int) : List D := (xs.drop (HT.sIx xs.length 0 lo)).take (HT.sIx xs.length xs.length hi - HT.sIx xs.length 0 lo)
theorem cut_of {C : Cst} {G : Hp} {xs : List V} {ds : List D} (h : IsDs C G xs ds) (lo hi : Option Int) : IsDs C G (cutV xs lo hi) (cutD ds lo hi) := by
  unfold cutV cutD
  rw [h.length]
  exact (h.drop _).take _
def slD (d : D) (lo hi : Option Int) : Option XV := match d with
  | .lst l => some (.own (.lst (cutD l lo hi)))
  | .rol l => some (.own (.lst (cutD l lo hi)))
  | .tup l => some (.dat (.tup (cutD l lo hi)))
  | .str z => if z.length ≤ LIM then some (.dat (.str (cutS z lo hi))) else none
  | _ => none
def slO (fl fh : Env → R (Option Int)) (x : XV) (ρ : Env) : R XV := (fl ρ).bind fun lo ρ => (fh ρ).bind fun hi ρ => match cont ρ x with
  | some d => match slD d lo hi with
    | some z => .ok z ρ
    | none => .stuck
  | none => .stuck
def sliceS (f : Env → R XV) (fl fh : Env → R (Option Int)) : Env → R XV := fun ρ => (opnd f ρ).bind (slO fl fh)
theorem ce_slice {lo hi : Option Expr} {fl fh : Env → R (Option Int)} {p2 : Pos} (he : CE J Xs e f) (hl : CP J Xs lo fl) (hh : CP J Xs hi fh) : CE J Xs (.Subscript e (.Slice lo hi none p2) pos) (sliceS f fl fh) := by
  obtain ⟨t, h1, h2⟩ := he
  obtain ⟨tl, l1, l2⟩ := hl
  obtain ⟨th, u1, u2⟩ := hh
  refine ⟨tSl (fun x lo hi H Q => rSlL J.C.K x lo hi H Q ∨ rSlA J.C.K x lo hi H Q ∨ rSlS x lo hi H Q) t tl th, fun i G => ?_, fun W σ ρ H G Q pk r h => ?_⟩
  · have := pe_slice (pos := pos) (p2 := p2) (SlR.or (sl_list (X := Xs i)) (SlR.or sl_tupA sl_str)) (h1 i G) (l1 i G) (u1 i G)
    rw [G.hK] at this
    exact this
  · refine h2.opnd W σ ρ H G _ pk r ((Got.bind h).imp fun x ρ1 H1 G1 e1 r1 k v vk => ?_)
    refine l2 W σ ρ1 H1 G1 _ pk r1 ((Got.bind k).imp fun lo ρ2 H2 G2 e2 r2 k => ?_)
    refine u2 W σ ρ2 H2 G2 _ pk r2 ((Got.bind k).imp fun hi ρ3 H3 G3 e3 r3 k => ?_)
    cases z : cont ρ3 x with
    | none => rw [z] at k; exact k.elim
    | some d =>
      rw [z] at k
      dsimp only at k
      have tp := (vk.ge (e2.trans e3)).top r3 z
      cases d <;> first | (exact k.elim) | skip
      · -- a text
        rename_i s
        unfold slD at k
        dsimp only at k
        by_cases hl : s.length ≤ LIM
        · rw [if_pos hl] at k
          rw [tp.str]
          exact .inr (.inr ⟨s, rfl, lim_le hl, k H3 G3 (Ge.refl _) r3 _ (.str _)⟩)
        · rw [if_neg hl] at k; exact k.elim
      · -- a tuple
        rename_i l
        rcases id tp with tp' | ⟨_, _, z⟩
        · obtain ⟨a, xs, rfl, q1, q2⟩ := tp.tup r3.gh
          refine .inr (.inl ⟨a, xs, rfl, q1, fun w => ?_, fun w p hp => r3.backTup (cut_of q2 lo hi) (fun v' H' G' a b c => k H' G' a b v' c) hp⟩)
          have e : cutD l lo hi = l := by
            unfold cutD
            rw [← q2.length, w.1, w.2, List.drop_zero, Nat.sub_zero, q2.length, List.take_length]
          have k := k H3 G3 (Ge.refl _) r3 (.ref a)
          rw [e] at k
          exact k tp'
        · exact z.elim
      · obtain ⟨a, xs, rfl, q1, q2⟩ := tp.lst r3.gh
        exact .inl ⟨a, xs, rfl, SqL.of q1, fun p hp => r3.backLst (cut_of q2 lo hi) (fun v' H' G' a b c => k H' G' a b v' c) hp⟩
      · obtain ⟨a, xs, rfl, q1, q2⟩ := tp.rol r3.gh
        exact .inl ⟨a, xs, rfl, q1, fun p hp => r3.backLst (cut_of q2 lo hi) (fun v' H' G' a b c => k H' G' a b v' c) hp⟩
/-! ## attributes -/
def lookD (f : Str) : List Str → List D → Option D
  | n :: ns, v :: vs => if n = f then some v else lookD f ns vs
  | _, _ => none
theorem look_of {C : Cst} {G : Hp} {f : Str} : ∀ {fs : List (Str × V)} {vs : List D} {d : D}, IsDs C G (fs.map Prod.snd) vs → lookD f (fs.map Prod.fst) vs = some d → ∃ v, fs.lookup f = some v ∧ IsD C G v d
  | [], _, _, .nil, e => by cases e
  | q :: fs, d :: ds, _, .cons h hs, e => by
    simp only [List.map_cons, lookD] at e
    by_cases z : q.1 = f
    · rw [if_pos z] at e
      cases e
      obtain ⟨n, v⟩ := q
      cases z
      exact ⟨v, by simp [List.lookup], h⟩
    · rw [if_neg z] at e
      obtain ⟨v, h1, h2⟩ := look_of hs e
      refine ⟨v, ?_, h2⟩
      obtain ⟨n, w⟩ := q
      rw [List.lookup, beq_eq_false_iff_ne.mpr (fun y => z y.symm)]
      exact h1
def fldD (cs : List String) (f : Str) (d : D) : Option XV := match d with
  | .ins c ns vs => if cs.contains c = true then (lookD f ns vs).map XV.dat else none
  | _ => none
def fldS (cs : List String) (f : Str) (g : Env → R XV) : Env → R XV := op1S (fldD cs f) g
def rFld (K : PySem.W.Frag) (f : Str) : V → Hp → VK → Prop := fun x H Q => ∃ a C dx fs v, x = .ref a ∧ H a = some (.ins C dx fs) ∧ Cls K C ∧ NoAttr K C f ∧ fs.lookup f = some v ∧ Q v H
theorem ce_fld {nm : Str} (cs : List String) (hcs : ∀ c ∈ cs, Cls J.C.K (J.C.CA c) ∧ NoAttr J.C.K (J.C.CA c) nm) (h : CE J Xs e f) (hb : ∀ i, attributeBase e nm (Xs i).env (eval e (Xs i).env) = eval e (Xs i).env := by intro _; rfl) : CE J Xs (.Attribute e nm pos) (fldS cs nm f) := by
  obtain ⟨t, h1, h2⟩ := h
  refine ⟨tUn (rFld J.C.K nm) t, fun i G => ?_, ev_op1 h2 ?_⟩
  · have := pe_fld (pos := pos) (h1 i G) (hb i)
    rw [G.hK] at this
    exact this
  · intro W σ ρ H G v d x Q rl tp eq k
    cases d <;> first | (cases eq; done) | skip
    rename_i c ns vs
    unfold fldD at eq
    dsimp only at eq
    by_cases hc : cs.contains c = true
    · rw [if_pos hc] at eq
      cases z : lookD nm ns vs with
      | none => rw [z] at eq; cases eq
      | some y =>
        rw [z] at eq; cases eq
        obtain ⟨a, dx, fs, rfl, q1, rfl, q2⟩ := tp.ins rl.gh
        obtain ⟨u, u1, u2⟩ := look_of q2 z
        obtain ⟨k1, k2⟩ := hcs c (by simpa using hc)
        exact ⟨a, _, dx, fs, u, rfl, q1, k1, k2, u1, rl.back u2 k⟩
    · rw [if_neg hc] at eq; cases eq
/-- self.f = e -/
def putNs (f : Str) : List Str → List Str
  | [] => [f]
  | g :: r => if g = f then g :: r else g :: putNs f r
def putVs (f : Str) (d : D) : List Str → List D → List D
  | g :: r, x :: xs => if g = f then d :: xs else x :: putVs f d r xs
  | _, _ => [d]
theorem put_of {C : Cst} {G : Hp} {f : Str} {v : V} {d : D} (h : IsD C G v d) : ∀ {fs : List (Str × V)} {vs : List D}, IsDs C G (fs.map Prod.snd) vs →
    (putF f v fs).map Prod.fst = putNs f (fs.map Prod.fst) ∧ IsDs C G ((putF f v fs).map Prod.snd) (putVs f d (fs.map Prod.fst) vs)
  | [], _, .nil => ⟨rfl, .cons h .nil⟩
  | q :: fs, e :: es, .cons k ks => by
    obtain ⟨n, w⟩ := q
    obtain ⟨i1, i2⟩ := put_of (f := f) h ks
    simp only [putF, List.map_cons, putNs, putVs]
    by_cases z : n = f
    · simp only [if_pos z, List.map_cons]; exact ⟨trivial, .cons h ks⟩
    · simp only [if_neg z, List.map_cons, i1]; exact ⟨trivial, .cons k i2⟩
def setFldO (cs : List String) (i : Nat) (f : Str) (d : D) (ρ : Env) : R Out := match ρ.at i with
  | .own (.ins c ns vs) => if cs.contains c = true ∧ ns.length < 1000 then .ok .nx (ρ.set i (.own (.ins c (putNs f ns) (putVs f d ns vs)))) else .stuck
  | _ => .stuck
def setFldS (cs : List String) (i : Nat) (nm : Str) (f : Env → R XV) : Env → R Out := fun ρ => (valS f ρ).bind (setFldO cs i nm)
theorem cs_fld {nm x : Str} {pos' p : Pos} (cs : List String) (i : Nat) (hcs : ∀ c ∈ cs, Cls J.C.K (J.C.CA c) ∧ NoAttr J.C.K (J.C.CA c) nm) (h : CE J Xs e f) (hN : ∀ j, (Xs j).N[i]? = some x := by intro _; rfl)
    (hv : ∀ j, Vis (Xs j).env.scope x := by first | exact fun _ => Or.inl rfl | exact fun _ => Or.inr (Or.inl rfl) | exact fun _ => Or.inr (Or.inr rfl)) (hd : (x == ("__debug__" : Str)) = false := by decide) (hcd : (x == ("__classdict__" : Str)) = false := by decide)
    (hs : ∀ j, swapsWith e (some (.Attribute (.Name x p) nm pos')) pos.line (Xs j).env = pure false := by intro _; rfl) : CS J Xs (.Assign [.Attribute (.Name x p) nm pos'] e pos) (setFldS cs i nm f) := by
  obtain ⟨t, h1, h2⟩ := h
  refine ⟨sFld J.C.K (tVar i) t nm, fun j G => ?_, fun W σ ρ H G E pk r h => ?_⟩
  · have := ps_fld (pos := pos) (pe_var (pos := p) (hN j) (hv j) hd hcd) (h1 j G) (hs j)
    rw [G.hK] at this
    exact this
  · refine h2.val W σ ρ H G _ pk r ((GotS.bind h).imp fun d ρ1 H1 G1 e1 r1 k v vk => ?_)
    unfold setFldO at k
    cases s : ρ1.at i with
    | un => rw [s] at k; exact k.elim
    | dat _ => rw [s] at k; exact k.elim
    | brw _ => rw [s] at k; exact k.elim
    | own o =>
      rw [s] at k
      obtain ⟨a, q1, q2, _⟩ := r1.own s
      cases o <;> first | (exact k.elim) | skip
      rename_i c ns vs
      dsimp only at k
      by_cases hc : cs.contains c = true ∧ ns.length < 1000
      · rw [if_pos hc] at k
        obtain ⟨dx, fs, q3, rfl, q4⟩ := q2
        obtain ⟨k1, k2⟩ := hcs c (by simpa using hc.1)
        refine ⟨_, q1, a, _, dx, fs, rfl, q3, k1, k2, by have := hc.2; rwa [List.length_map] at this, ?_⟩
        obtain ⟨p1, p2⟩ := put_of (f := nm) vk q4
        exact k σ _ G1 (Ge.refl _) (r1.write s q1 ⟨dx, putF nm v fs, upd_same, p1, p2⟩)
      · rw [if_neg hc] at k; exact k.elim
/-! ## isinstance -/
def tyD : D → Option String
  | .non => some "NoneType"
  | .bl _ => some "bool"
  | .int _ => some "int"
  | .str _ => some "str"
  | .tup _ => some "tuple"
  | .lst _ => some "list"
  | .rol _ => some "list"
  | .dct _ _ => none
  | .ins _ _ _ => none
theorem tyX_of {C : Cst} {H : Hp} {v : V} {d : D} {t : String} (h : IsD C H v d) (e : tyD d = some t) : TyX C.K H v (.type t) := by
  cases h <;> cases e
  · exact .base .non
  · exact .base (.bl _)
  · exact .base (.int _)
  · exact .base (.str _)
  · rename_i h _
    rcases h with (h | ⟨o, h⟩) | ⟨o, its, n, h1, h2, _⟩
    · exact .base (.tup h)
    · exact .fTuple h
    · exact .kTuple h1 h2
  · rename_i h _; exact .base (.lst h)
  · rename_i h _
    rcases h with (h | ⟨o, h⟩) | ⟨o, its, n, h1, h2, _⟩
    · exact .base (.lst h)
    · exact .base (.frz h)
    · exact .kList h1 h2
/-- what an instance's class must have to be asked for its type -/
structure InsF (K : PySem.W.Frag) (C : Addr) : Prop where
  cl : Cls K C
  ha : PySem.W.findIn K (.ref C) "__class__" = some (some (.builtin "object.__class__"))
  hn : PySem.W.specialIn K (.builtin "object.__class__") "__get__" = some (some (.builtin "getset_descriptor.__get__"))
  ht : PySem.W.takesIn K (.builtin "object.__class__") = some true
  hm : PySem.W.mroIn K C (.type "object") = some true
/-- of a class c (a value u of the model): which built-in types' values, which classes' instances are of it; none where it isn't known -/
structure IsiT where
  ty : String → Option Bool
  cl : String → Option Bool
def IsiOk (C : Cst) (T : IsiT) (u : Value) : Prop := (∀ t b, T.ty t = some b → PySem.W.kitOne C.K (.type t) u = some b) ∧ ∀ c b, T.cl c = some b → InsF C.K (C.CA c) ∧ PySem.W.kitOne C.K (.ref (C.CA c)) u = some b
def isiD (T : IsiT) (d : D) : Option Bool := match d with
  | .ins c _ _ => T.cl c
  | d => (tyD d).bind T.ty
theorem isi_of {C : Cst} {T : IsiT} {u : Value} (ok : IsiOk C T u) {H : Hp} {v : V} {d : D} {b : Bool} (h : IsD C H v d) (e : isiD T d = some b) : ∃ t, TyX C.K H v t ∧ PySem.W.kitOne C.K t u = some b := by
  have plain : ∀ t, tyD d = some t → T.ty t = some b → ∃ t, TyX C.K H v t ∧ PySem.W.kitOne C.K t u = some b := fun t e1 e2 => ⟨_, tyX_of h e1, ok.1 t b e2⟩
  cases d <;> first | exact plain _ rfl e | (cases (show (none : Option Bool) = some b from e)) | skip
  cases h with
  | ins h1 _ _ =>
    obtain ⟨q1, q2⟩ := ok.2 _ b e
    exact ⟨_, .base (.ins h1 q1.cl q1.ha q1.hn q1.ht q1.hm), q2⟩
def isiOp (T : IsiT) (d : D) : Option XV := (isiD T d).map xbl
def isiS (T : IsiT) (f : Env → R XV) : Env → R XV := op1S (isiOp T) f
/-- isinstance(e, c) -/
theorem ce_isi {c : Expr} {cv : V} {u : Value} (T : IsiT) (ok : IsiOk J.C T u) (kc : ClsV cv u) (hm : ∀ i, (Xs i).mg "isinstance" = none) (h : CE J Xs e f) (hc : ∀ i, Good J (Xs i) → PE (Xs i) c (tC cv))
    (hg : ∀ i, Gl (Xs i) "isinstance" := by intro _; rfl) (hs : ∀ i, starEach [e, c] (Xs i).env = (false, eval e (Xs i).env) :: starEach [c] (Xs i).env := by intro _; rfl) (hs2 : ∀ i, starEach [c] (Xs i).env = (false, eval c (Xs i).env) :: starEach [] (Xs i).env := by intro _; rfl)
    (hpl : ∀ i, (backTo pos (starEach [c] (Xs i).env)).any (·.1) = false := by intro _; rfl) : CE J Xs (.Call (.Name "isinstance" p) [e, c] [] pos) (isiS T f) := by
  obtain ⟨t, h1, h2⟩ := h
  refine ⟨tUn (fun x H Q => rIsi J.C.K [x, cv] H Q) t, fun i G => ?_, ev_op1 h2 ?_⟩
  · have := pe_callB (p := p) (pos := pos) call_isi (hg i) (hm i) PyProof.Rows.boot_isinstance (pa_cons (h1 i G) (pa_cons (hc i G) pa_nil (hs2 i)) (hs i)) (by decide) (by decide) (hs i) (hpl i)
    rw [G.hK] at this
    exact this
  · intro W σ ρ H G v d x Q rl tp eq k
    unfold isiOp at eq
    cases z : isiD T d with
    | none => rw [z] at eq; cases eq
    | some b =>
      rw [z] at eq; cases eq
      obtain ⟨t, t1, t2⟩ := isi_of ok (tp.isD rl.gh) z
      exact ⟨v, cv, t, u, b, rfl, kc, t1, t2, rl.back (.bl _) k⟩
/-- a built-in type as that class -/
def tyTab (l : List (String × Bool)) : IsiT := ⟨fun t => l.lookup t, fun _ => none⟩
theorem tyTab_ok {C : Cst} {T : String} {l : List (String × Bool)} (h : ∀ q ∈ l, kitB q.1 T = some q.2) : IsiOk C (tyTab l) (.type T) := by
  refine ⟨fun t b e => ?_, fun c b e => by cases e⟩
  have : ∀ l : List (String × Bool), l.lookup t = some b → (t, b) ∈ l := fun l => by
    induction l with
    | nil => intro e; cases e
    | cons q r ih =>
      obtain ⟨n, c⟩ := q
      intro e
      by_cases z : t = n
      · subst z
        simp [List.lookup] at e
        subst e
        exact List.mem_cons_self
      · simp only [List.lookup, beq_eq_false_iff_ne.mpr z] at e
        exact List.mem_cons_of_mem _ (ih e)
  exact kit_ty (h (t, b) (this l e))
/-- isinstance(e, (c1, c2)) : of one of them -/
def isi2D (T U : IsiT) (d : D) : Option XV := match isiD T d with
  | some true => some (xbl true)
  | some false => (isiD U d).map xbl
  | none => none
def isi2S (T U : IsiT) (f : Env → R XV) : Env → R XV := op1S (isi2D T U) f
theorem IsD.tyU {C : Cst} {H : Hp} {v : V} {d : D} {T U : IsiT} {u w : Value} {b b' : Bool} (ok : IsiOk C T u) (ok' : IsiOk C U w) (h : IsD C H v d) (e : isiD T d = some b) (e' : isiD U d = some b') : ∃ t, TyX C.K H v t ∧ PySem.W.kitOne C.K t u = some b ∧ PySem.W.kitOne C.K t w = some b' := by
  have plain : ∀ t, tyD d = some t → T.ty t = some b → U.ty t = some b' → ∃ t, TyX C.K H v t ∧ PySem.W.kitOne C.K t u = some b ∧ PySem.W.kitOne C.K t w = some b' := fun t e1 e2 e3 => ⟨_, tyX_of h e1, ok.1 t b e2, ok'.1 t b' e3⟩
  cases d <;> first | exact plain _ rfl e e' | (cases (show (none : Option Bool) = some b from e)) | skip
  cases h with
  | ins h1 _ _ =>
    obtain ⟨q1, q2⟩ := ok.2 _ b e
    exact ⟨_, .base (.ins h1 q1.cl q1.ha q1.hn q1.ht q1.hm), q2, (ok'.2 _ b' e').2⟩
theorem ce_isi2 {c c2 : Expr} {cv cw : V} {u w : Value} {kk : Nat} {tpos : Pos} (T U : IsiT) (ok : IsiOk J.C T u) (ok' : IsiOk J.C U w) (kc : ClsV cv u) (kw : ClsV cw w) (hm : ∀ i, (Xs i).mg "isinstance" = none) (h : CE J Xs e f)
    (hc : ∀ i, Good J (Xs i) → PE (Xs i) c (tC cv)) (hc2 : ∀ i, Good J (Xs i) → PE (Xs i) c2 (tC cw)) (hg : ∀ i, Gl (Xs i) "isinstance" := by intro _; rfl)
    (hs : ∀ i, starEach [e, .Tuple [c, c2] kk tpos] (Xs i).env = (false, eval e (Xs i).env) :: starEach [.Tuple [c, c2] kk tpos] (Xs i).env := by intro _; rfl)
    (hs1 : ∀ i, starEach [.Tuple [c, c2] kk tpos] (Xs i).env = (false, eval (.Tuple [c, c2] kk tpos) (Xs i).env) :: starEach [] (Xs i).env := by intro _; rfl)
    (hs2 : ∀ i, starEach [c, c2] (Xs i).env = (false, eval c (Xs i).env) :: starEach [c2] (Xs i).env := by intro _; rfl) (hs3 : ∀ i, starEach [c2] (Xs i).env = (false, eval c2 (Xs i).env) :: starEach [] (Xs i).env := by intro _; rfl)
    (hpl : ∀ i, (backTo pos (starEach [.Tuple [c, c2] kk tpos] (Xs i).env)).any (·.1) = false := by intro _; rfl) : CE J Xs (.Call (.Name "isinstance" p) [e, .Tuple [c, c2] kk tpos] [] pos) (isi2S T U f) := by
  obtain ⟨t, h1, h2⟩ := h
  refine ⟨tUn (fun x H Q => tTup (tCons (tC cv) (tCons (tC cw) tNil)) [] H fun y H2 => rIsiT J.C.K [x, y] H2 Q) t, fun i G => ?_, ev_op1 h2 ?_⟩
  · have := pe_callB (p := p) (pos := pos) call_isiT (hg i) (hm i) PyProof.Rows.boot_isinstance (pa_cons (h1 i G) (pa_cons (pe_tup (pa_cons (hc i G) (pa_cons (hc2 i G) pa_nil (hs3 i)) (hs2 i))) pa_nil (hs1 i)) (hs i)) (by decide) (by decide) (hs i) (hpl i)
    rw [G.hK] at this
    exact this
  · intro W σ ρ H G v d x Q rl tp eq k
    unfold isi2D at eq
    refine ⟨(by show 2 ≤ sizeLine; decide), fun q hq => ?_⟩
    have g : Ge H (upd H q (.tup [cv, cw])) := Ge.upd hq
    have vd : IsD J.C (upd H q (.tup [cv, cw])) v d := (tp.isD rl.gh).ge g
    cases z : isiD T d with
    | none => rw [z] at eq; cases eq
    | some b =>
      rw [z] at eq
      cases b with
      | true =>
        cases eq
        obtain ⟨t, t1, t2⟩ := isi_of ok vd z
        exact ⟨v, q, [cv, cw], t, [u, w], true, rfl, upd_same, .cons kc (.cons kw .nil), t1, kitAny_cons t2 (fun e => by cases e) (fun _ => rfl), k _ _ _ (Ge.refl _) (rl.new hq) (.bl _)⟩
      | false =>
        dsimp only at eq
        cases z' : isiD U d with
        | none => rw [z'] at eq; cases eq
        | some b' =>
          rw [z'] at eq; cases eq
          obtain ⟨t, t1, t2, t3⟩ := IsD.tyU ok ok' vd z z'
          exact ⟨v, q, [cv, cw], t, [u, w], b', rfl, upd_same, .cons kc (.cons kw .nil), t1, kitAny_cons t2 (fun _ => kitAny_cons t3 (fun e => by rw [e]; exact kitAny_nil) (fun e => e)) (fun e => by cases e), k _ _ _ (Ge.refl _) (rl.new hq) (.bl _)⟩
end
end DL
namespace DL
open PySem L2

/-! ## x[e] = v, x a name of ours -/
def hasK (q : Key) (ks : List Key) : Bool := ks.any fun k => decide (k = q)
def putKs (q : Key) (ks : List Key) : List Key := if hasK q ks = true then ks else ks ++ [q]
def repD1 (q : Key) (d : D) : List Key → List D → List D
  | k :: ks, v :: vs => (if k = q then d else v) :: repD1 q d ks vs
  | _, _ => []
def putDs (q : Key) (d : D) (ks : List Key) (vs : List D) : List D := if hasK q ks = true then repD1 q d ks vs else vs ++ [d]
theorem any_key {q : Key} (kvs : List (Key × V)) : (kvs.any fun kv => decide (kv.1 = q)) = hasK q (kvs.map Prod.fst) := by
  unfold hasK
  rw [List.any_map]; rfl
theorem putK_of {C : Cst} {G : Hp} {q : Key} {v : V} {d : D} (h : IsD C G v d) {kvs : List (Key × V)} {vs : List D} (hs : IsDs C G (kvs.map Prod.snd) vs) :
    (putK kvs q v).map Prod.fst = putKs q (kvs.map Prod.fst) ∧ IsDs C G ((putK kvs q v).map Prod.snd) (putDs q d (kvs.map Prod.fst) vs) := by
  unfold putK putKs putDs
  rw [any_key]
  by_cases e : hasK q (kvs.map Prod.fst) = true
  · rw [if_pos e, if_pos e, if_pos e]
    clear e
    induction kvs generalizing vs with
    | nil => cases hs; exact ⟨rfl, .nil⟩
    | cons p r ih =>
      cases hs with
      | cons h1 h2 =>
        obtain ⟨i1, i2⟩ := ih h2
        simp only [List.map_cons, repD1]
        by_cases z : p.1 = q
        · simp only [if_pos z]; exact ⟨by rw [← i1], .cons h i2⟩
        · simp only [if_neg z]; exact ⟨by rw [← i1], .cons h1 i2⟩
  · rw [if_neg e, if_neg e, if_neg e, List.map_append, List.map_append]
    exact ⟨rfl, hs.append (.cons h .nil)⟩
def setAt (i : Nat) (y : XV) (d : D) (ρ : Env) : R Out := match cont ρ y with
  | some k => match ρ.at i with
    | .own (.lst l) => match k with
      | .int n => match ixN l.length n with
        | some j => .ok .nx (ρ.set i (.own (.lst (l.set j d))))
        | none => .stuck
      | _ => .stuck
    | .own (.dct ks vs) => match keyD k with
      | some q => if ks.length < LIM then .ok .nx (ρ.set i (.own (.dct (putKs q ks) (putDs q d ks vs)))) else .stuck
      | none => .stuck
    | _ => .stuck
  | none => .stuck
def itemS (i : Nat) (f g : Env → R XV) : Env → R Out := fun ρ => (valS f ρ).bind fun d ρ => match ρ.at i with
  | .own _ => (opnd g ρ).bind fun y ρ => setAt i y d ρ
  | _ => .stuck
/-- by values -/
def rSetA : V → V → V → Hp → (Hp → Prop) → Prop := fun o i v H Q => rSetL o i v H Q ∨ ∃ a H', o = .ref a ∧ DPut H a i v H' ∧ Q H'
theorem set_any {X : Cx} (hu : X.A.units + 1 < cLine) : PSet X rSetA := by
  intro pins s σ H o i v ov iv u Q I ro ri rv h
  rcases h with h | ⟨a, H', e, g, q⟩
  · exact set_list pins s σ H o i v ov iv u Q I ro ri rv h
  · subst e
    cases ro
    exact d_setItem hu I g ri rv fun s2 I2 => ⟨H', I2, q⟩
section
variable {J : Jd} {W : Fm} {σ : St} {ρ : Env} {H G : Hp}
theorem setAt_ok {i : Nat} {a : Addr} {y : XV} {w v : V} {d : D} {E : Ends} (r : Rel J.C W σ ρ H G) (hs : σ[i]? = some (some (.ref a))) (hy : Wait J.C σ G w y) (hv : IsD J.C G v d) (h : GotS J W G (setAt i y d ρ) E) :
    rSetA (.ref a) w v H fun H' => E.nx σ H' := by
  unfold setAt at h
  cases z : cont ρ y with
  | none => rw [z] at h; exact h.elim
  | some k =>
    rw [z] at h
    dsimp only at h
    have tk := hy.top r z
    cases s : ρ.at i with
    | un => rw [s] at h; exact h.elim
    | dat d => rw [s] at h; exact h.elim
    | brw d => rw [s] at h; exact h.elim
    | own o =>
      rw [s] at h
      obtain ⟨b, e, ow, _⟩ := r.own s
      rw [hs] at e; cases e
      cases o <;> first | exact h.elim | skip
      · rename_i l
        cases k <;> first | exact h.elim | skip
        rename_i n
        dsimp only at h
        cases zj : ixN l.length n with
        | none => rw [zj] at h; exact h.elim
        | some j =>
          rw [zj] at h
          obtain ⟨xs, h1, h2⟩ := ow
          refine .inl ⟨a, xs, n, j, rfl, tk.int, h1, by rw [h2.length]; exact zj, ?_⟩
          exact h σ _ G (Ge.refl _) (r.write s hs ⟨_, upd_same, h2.set hv j⟩)
      · rename_i ks vs
        dsimp only at h
        cases zq : keyD k with
        | none => rw [zq] at h; exact h.elim
        | some q =>
          rw [zq] at h
          dsimp only at h
          split at h
          · rename_i hl
            obtain ⟨kvs, h1, h0, h2⟩ := ow
            subst h0
            obtain ⟨p1, p2⟩ := putK_of (q := q) hv h2
            have e := keyD_of tk zq
            subst e
            refine .inr ⟨a, _, rfl, DPut.k h1 (lim_lt (by rw [List.length_map] at hl; exact hl)), ?_⟩
            exact h σ _ G (Ge.refl _) (r.write s hs ⟨_, upd_same, p1, p2⟩)
          · exact h.elim
end
section
variable {ι : Type} {J : Jd} {Xs : ι → Cx} {e ix : Expr} {f g : Env → R XV} {pos : Pos}
theorem cs_item {x : Str} {pos' p : Pos} (i : Nat) (h : CE J Xs e f) (hi : CE J Xs ix g) (hN : ∀ j, (Xs j).N[i]? = some x := by intro _; rfl)
    (hv : ∀ j, Vis (Xs j).env.scope x := by first | exact fun _ => Or.inl rfl | exact fun _ => Or.inr (Or.inl rfl) | exact fun _ => Or.inr (Or.inr rfl)) (hd : (x == ("__debug__" : Str)) = false := by decide) (hcd : (x == ("__classdict__" : Str)) = false := by decide)
    (ha : ∀ j v, assign (.Subscript (.Name x p) ix pos') (Xs j).env v = (do
      let ov ← holding [v] (eval (.Name x p) (Xs j).env)
      let iv ← holding [v, ov] (eval ix (Xs j).env)
      standAt pos'
      holding [v, ov, iv] (setItem ov iv v)
      release [v, ov, iv] []) := by intro _ _; rfl)
    (hs : ∀ j, swapsWithSole [.Subscript (.Name x p) ix pos'] e pos.line (Xs j).env = pure false := by intro _; rfl) (hw : ∀ j, swappedStores [.Subscript (.Name x p) ix pos'] e (Xs j).env = pure none := by intro _; rfl)
    (h1 : ∀ j, (assignEach [.Subscript (.Name x p) ix pos'] (Xs j).env).map (·.2) = [assign (.Subscript (.Name x p) ix pos') (Xs j).env] := by intro _; rfl) : CS J Xs (.Assign [.Subscript (.Name x p) ix pos'] e pos) (itemS i f g) := by
  obtain ⟨t, t1, t2⟩ := h
  obtain ⟨u, u1, u2⟩ := hi
  refine ⟨tAsg t (gSub (tVar i) u rSetA), fun j G => ps_asg (t1 j G) (pg_sub (pe_var (hN j) (hv j) hd hcd) (u1 j G) (set_any (by have := G.units; omega)) (ha j)) (hs j) (hw j) (h1 j), fun W σ ρ H G E pk r h => ?_⟩
  refine t2.val W σ ρ H G _ pk r ((GotS.bind h).imp fun d ρ1 H1 G1 e1 r1 k v vk => ?_)
  cases s : ρ1.at i with
  | un => rw [s] at k; exact k.elim
  | dat d => rw [s] at k; exact k.elim
  | brw d => rw [s] at k; exact k.elim
  | own o =>
    rw [s] at k
    dsimp only at k
    obtain ⟨a, q1, _⟩ := r1.own s
    refine ⟨_, q1, u2.opnd W σ ρ1 H1 G1 _ pk r1 ((GotS.bind k).imp fun y ρ2 H2 G2 e2 r2 k w wk => ?_)⟩
    exact setAt_ok r2 q1 wk (vk.ge e2) k
end

/-! ## x.append(e), x.extend(e), x.pop(), x.pop(i): x a name of ours -/
/-- what a method does with a slot's own object -/
def MethOk (C : Cst) (r : V → List V → Hp → VK → Prop) (op : D → List D → Option (D × D)) : Prop := ∀ H G a d vs ds d' x (Q : VK), Ge G H → Own C H G a d → IsDs C G vs ds → op d ds = some (d', x) →
  (∀ o v, Own C (upd H a o) G a d' → IsD C G v x → Q v (upd H a o)) → r (.ref a) vs H Q
def methAt (op : D → List D → Option (D × D)) (i : Nat) (xs : List XV) (ρ : Env) : R XV := match ρ.at i, datsOf xs with
  | .own d, some ds => match op d ds with
    | some (d', x) => .ok (.dat x) (ρ.set i (.own d'))
    | none => .stuck
  | _, _ => .stuck
def methS (op : D → List D → Option (D × D)) (i : Nat) (fs : Env → R (List XV)) : Env → R XV := fun ρ => match ρ.at i with
  | .own (.lst _) => (fs ρ).bind (methAt op i)
  | _ => .stuck
def appendD : D → List D → Option (D × D)
  | .lst l, [d] => if l.length < LIM then some (.lst (l ++ [d]), .non) else none
  | _, _ => none
def extendD : D → List D → Option (D × D)
  | .lst l, [.lst m] => if l.length + m.length ≤ LIM then some (.lst (l ++ m), .non) else none
  | _, _ => none
def popD : D → List D → Option (D × D)
  | .lst l, [] => match l[l.length - 1]? with
    | some y => some (.lst l.dropLast, y)
    | none => none
  | _, _ => none
def popAtD : D → List D → Option (D × D)
  | .lst l, [.int i] => if l.length ≤ LIM then match ixN l.length i with
    | some j => match l[j]? with
      | some y => some (.lst (l.eraseIdx j), y)
      | none => none
    | none => none
    else none
  | _, _ => none
theorem IsDs.eraseIdx {C : Cst} {G : Hp} : ∀ {vs : List V} {ds : List D} (i : Nat), IsDs C G vs ds → IsDs C G (vs.eraseIdx i) (ds.eraseIdx i)
  | _, _, _, .nil => .nil
  | _, _, 0, .cons _ h => h
  | _, _, i + 1, .cons a h => .cons a (h.eraseIdx i)
theorem IsDs.dropLast {C : Cst} {G : Hp} : ∀ {vs : List V} {ds : List D}, IsDs C G vs ds → IsDs C G vs.dropLast ds.dropLast
  | _, _, .nil => .nil
  | _, _, .cons a .nil => .nil
  | _, _, .cons a (.cons b h) => .cons a (IsDs.dropLast (.cons b h))
section
variable {C : Cst}
theorem append_ok : MethOk C rAppend appendD := by
  intro H G a d vs ds d' x Q g ow t eq k
  cases d <;> first | (cases eq; done) | skip
  rename_i l
  unfold appendD at eq
  split at eq
  · rename_i l' m e
    cases e
    split at eq
    · rename_i hl
      cases eq
      cases t with
      | cons t0 t1 =>
        cases t1
        obtain ⟨xs, h1, h2⟩ := ow
        exact ⟨a, xs, _, rfl, rfl, h1, by rw [h2.length]; exact lim_lt hl, k _ _ ⟨_, upd_same, h2.append (.cons t0 .nil)⟩ .non⟩
    · cases eq
  · cases eq
theorem extend_ok : MethOk C rExtend extendD := by
  intro H G a d vs ds d' x Q g ow t eq k
  cases d <;> first | (cases eq; done) | skip
  rename_i l
  unfold extendD at eq
  split at eq
  · rename_i l' m e
    cases e
    split at eq
    · rename_i hl
      cases eq
      cases t with | cons t0 t1 => ?_
      cases t1
      obtain ⟨xs, h1, h2⟩ := ow
      cases t0 with | lst h3 h4 => ?_
      exact ⟨a, _, xs, _, rfl, rfl, h1, g _ _ h3, by rw [h2.length, h4.length]; exact lim_le hl, k _ _ ⟨_, upd_same, h2.append h4⟩ .non⟩
    · cases eq
  · cases eq
theorem pop_ok : MethOk C rPop popD := by
  intro H G a d vs ds d' x Q g ow t eq k
  cases d <;> first | (cases eq; done) | skip
  rename_i l
  unfold popD at eq
  split at eq
  · rename_i l' e
    cases e
    split at eq
    · rename_i y hy
      cases eq
      cases t
      obtain ⟨xs, h1, h2⟩ := ow
      obtain ⟨v, h3, h4⟩ := h2.get hy
      exact ⟨a, xs, v, rfl, rfl, h1, by rw [h2.length]; exact h3, k _ _ ⟨_, upd_same, h2.dropLast⟩ h4⟩
    · cases eq
  · cases eq
theorem popAt_ok : MethOk C rPopAt popAtD := by
  intro H G a d vs ds d' x Q g ow t eq k
  cases d <;> first | (cases eq; done) | skip
  rename_i l
  unfold popAtD at eq
  split at eq
  · rename_i l' i e
    cases e
    split at eq
    · rename_i hl
      split at eq
      · rename_i j hj
        split at eq
        · rename_i y hy
          cases eq
          cases t with | cons t0 t1 => ?_
          cases t1
          cases t0
          obtain ⟨xs, h1, h2⟩ := ow
          obtain ⟨u, h3, h4⟩ := h2.get hy
          obtain ⟨q1, q2, q3, q4⟩ := ixN_seq hj
          have hb : l.length < 2 ^ 63 := Nat.lt_of_le_of_lt hl (by decide)
          exact ⟨a, xs, i, j, u, rfl, rfl, h1, by omega, by omega, by rw [h2.length]; exact q1, h3, k _ _ ⟨_, upd_same, h2.eraseIdx j⟩ h4⟩
        · cases eq
      · cases eq
    · cases eq
  · cases eq
end
section
variable {J : Jd} {W : Fm} {σ : St} {ρ : Env} {H G : Hp}
theorem meth_at {r : V → List V → Hp → VK → Prop} {op : D → List D → Option (D × D)} (ho : MethOk J.C r op) {i : Nat} {a : Addr} {vs : List V} {xs : List XV} {Q : VK} (rl : Rel J.C W σ ρ H G) (hs : σ[i]? = some (some (.ref a))) (w : Waits J.C σ G vs xs)
    (h : Got J W σ G (methAt op i xs ρ) (fun x ρ' H' G' => ∀ v, VOk J.C W σ ρ' H' G' v x → Q v H')) : r (.ref a) vs H Q := by
  unfold methAt at h
  cases s : ρ.at i with
  | un => rw [s] at h; exact h.elim
  | dat d => rw [s] at h; exact h.elim
  | brw d => rw [s] at h; exact h.elim
  | own d =>
    cases z : datsOf xs with
    | none => rw [s, z] at h; exact h.elim
    | some ds =>
      rw [s, z] at h
      dsimp only at h
      obtain ⟨b, e, ow, _⟩ := rl.own s
      rw [hs] at e; cases e
      cases zo : op d ds with
      | none => rw [zo] at h; exact h.elim
      | some p =>
        obtain ⟨d', x⟩ := p
        rw [zo] at h
        refine ho H G a d vs ds d' x Q rl.gh ow (dats_of w z) zo fun o v ow' hv => ?_
        exact h _ G (Ge.refl _) (rl.write s hs ow') v hv
theorem ev_meth {r : V → List V → Hp → VK → Prop} {op : D → List D → Option (D × D)} {i : Nat} {t : TA} {fs : Env → R (List XV)} (ho : MethOk J.C r op) (h : EvA J t fs) : EvE J (tBM J.C.K "list" r (tVar i) t) (methS op i fs) := by
  intro W σ ρ H G Q pk rl k
  unfold methS at k
  cases s : ρ.at i with
  | un => rw [s] at k; exact k.elim
  | dat d => rw [s] at k; exact k.elim
  | brw d => rw [s] at k; exact k.elim
  | own d =>
    rw [s] at k
    cases d <;> first | exact k.elim | skip
    obtain ⟨a, q1, ⟨xs, q2, _⟩, _⟩ := rl.own s
    refine ⟨_, q1, .inl ⟨rfl, xs, SqL.of q2⟩, h W σ ρ H G _ pk rl ((Got.bind k).imp fun ys ρ1 H1 G1 e1 r1 k vs wk => ?_)⟩
    exact meth_at ho r1 q1 wk k
theorem ev_meth0 {r : V → List V → Hp → VK → Prop} {op : D → List D → Option (D × D)} {i : Nat} (ho : MethOk J.C r op) : EvE J (tBM0 J.C.K "list" r (tVar i)) (methS op i nilS) := by
  intro W σ ρ H G Q pk rl k
  unfold methS at k
  cases s : ρ.at i with
  | un => rw [s] at k; exact k.elim
  | dat d => rw [s] at k; exact k.elim
  | brw d => rw [s] at k; exact k.elim
  | own d =>
    rw [s] at k
    cases d <;> first | exact k.elim | skip
    obtain ⟨a, q1, ⟨xs, q2, _⟩, _⟩ := rl.own s
    refine ⟨_, q1, .inl ⟨rfl, xs, SqL.of q2⟩, meth_at (xs := []) ho rl q1 trivial k⟩
end
section
variable {ι : Type} {J : Jd} {Xs : ι → Cx} {e : Expr} {es : List Expr} {f g : Env → R XV} {fs : Env → R (List XV)} {apos cpos p : Pos} {x : Str}
theorem ce_meth {id : String} {name : Str} {r : V → List V → Hp → VK → Prop} {op : D → List D → Option (D × D)} (i : Nat) (ho : MethOk J.C r op) (slot : Slot "list" name id) (hty : typeOf (.builtin id) = pure (.type "method_descriptor")) (hm : ∀ X, MtR X id r) (ha : CA_ J Xs (e :: es) fs)
    (hN : ∀ j, (Xs j).N[i]? = some x := by intro _; rfl) (hv : ∀ j, Vis (Xs j).env.scope x := by first | exact fun _ => Or.inl rfl | exact fun _ => Or.inr (Or.inl rfl) | exact fun _ => Or.inr (Or.inr rfl)) (hd : (x == ("__debug__" : Str)) = false := by decide) (hcd : (x == ("__classdict__" : Str)) = false := by decide)
    (hbase : ∀ j, attributeBase (.Name x p) name (Xs j).env (eval (.Name x p) (Xs j).env) = eval (.Name x p) (Xs j).env := by intro _; rfl)
    (hfew : ∀ j, ((backTo cpos (starEach (e :: es) (Xs j).env)).all (fun x => !x.1) && (backToKw cpos (keywordEach [] (Xs j).env)).all (fun x => x.1.isSome)
      && decide ((e :: es).length + ([] : List Keyword).length + (if ([] : List Keyword).isEmpty then 0 else 1) < 30)) = true := by intro _; rfl)
    (hline : (apos.endLine == cpos.line) = true := by rfl) (hs : ∀ j, starEach (e :: es) (Xs j).env = (false, eval e (Xs j).env) :: starEach es (Xs j).env := by intro _; rfl) (hplain : ∀ j, (backTo cpos (starEach es (Xs j).env)).any (·.1) = false := by intro _; rfl) :
    CE J Xs (.Call (.Attribute (.Name x p) name apos) (e :: es) [] cpos) (methS op i fs) := by
  obtain ⟨t, t1, t2⟩ := ha
  refine ⟨_, fun j G => ?_, ev_meth ho t2⟩
  rw [← G.hK]
  exact pe_bm PySem.F.plainAttrs_list slot hty (hm _) (pe_var (hN j) (hv j) hd hcd) (t1 j G) (hbase j) (hfew j) hline (hs j) (hplain j)
theorem ce_meth0 {id : String} {name : Str} {r : V → List V → Hp → VK → Prop} {op : D → List D → Option (D × D)} (i : Nat) (ho : MethOk J.C r op) (slot : Slot "list" name id) (hty : typeOf (.builtin id) = pure (.type "method_descriptor")) (hm : ∀ X, MtR X id r)
    (hN : ∀ j, (Xs j).N[i]? = some x := by intro _; rfl) (hv : ∀ j, Vis (Xs j).env.scope x := by first | exact fun _ => Or.inl rfl | exact fun _ => Or.inr (Or.inl rfl) | exact fun _ => Or.inr (Or.inr rfl)) (hd : (x == ("__debug__" : Str)) = false := by decide) (hcd : (x == ("__classdict__" : Str)) = false := by decide)
    (hbase : ∀ j, attributeBase (.Name x p) name (Xs j).env (eval (.Name x p) (Xs j).env) = eval (.Name x p) (Xs j).env := by intro _; rfl) (hline : (apos.endLine == cpos.line) = true := by rfl) :
    CE J Xs (.Call (.Attribute (.Name x p) name apos) [] [] cpos) (methS op i nilS) := by
  refine ⟨_, fun j G => ?_, ev_meth0 ho⟩
  rw [← G.hK]
  exact pe_bm0 PySem.F.plainAttrs_list slot hty (hm _) (pe_var (hN j) (hv j) hd hcd) (hbase j) hline
end
end DL
namespace DL
open PySem L2

/-! ## {}, {k: e, ..} with constant keys -/
section
variable {J : Jd} {W : Fm} {σ : St} {ρ : Env} {H G : Hp} {a : Addr} {o : HO} {d : D}
theorem Got.hold {α : Type} {R0 : R α} {K K' : α → Env → Hp → Hp → Prop} (r : Rel J.C W σ ρ H G) (v : VOk J.C W σ ρ H G (.ref a) (.own d)) (ho : H a = some o) (h : Got J W σ G R0 K)
    (hk : ∀ x ρ' H' G', Ge G G' → Rel J.C (W.hold a o) σ ρ' H' G' → Rel J.C W σ ρ' H' G' → K x ρ' H' G' → K' x ρ' H' G') : Got J (W.hold a o) σ G R0 K' := by
  cases R0 with
  | stuck => exact h
  | ok x ρ1 => exact fun H' G' g r' => hk x ρ1 H' G' g r' (r.unhold v ho g r').1 (h H' G' g (r.unhold v ho g r').1)
  | exc c ns vs ρ1 => exact fun dd H' G' g r' x => h dd H' G' g (r.unhold v ho g r').1 x
end
def newDS : Env → R XV := fun ρ => .ok (.own (.dct [] [])) ρ
def EvP (J : Jd) (trs : List (TE × TE)) (ks : List Key) (fs : Env → R (List D)) : Prop := ∀ W σ ρ H G (Q : List (V × V) → Hp → Prop), PinOk W J.P → Rel J.C W σ ρ H G →
  Got J W σ G (fs ρ) (fun ds _ H' G' => ∀ vs, IsDs J.C G' vs ds → vs.length = ks.length → Q ((ks.zip vs).map fun kv => (kV kv.1, kv.2)) H') → tPairs trs σ H Q
def CDp {ι : Type} (J : Jd) (Xs : ι → Cx) (keys : List (Option Expr)) (values : List Expr) (ks : List Key) (fs : Env → R (List D)) : Prop := ∃ trs, (∀ i, Good J (Xs i) → ∀ pos, PPs (Xs i) pos keys values trs) ∧ EvP J trs ks fs
def nilP : Env → R (List D) := fun ρ => .ok [] ρ
def consP (f : Env → R XV) (fs : Env → R (List D)) : Env → R (List D) := fun ρ => (valS f ρ).bind fun d ρ => (fs ρ).bind fun ds ρ => .ok (d :: ds) ρ
def dispS (ks : List Key) (fs : Env → R (List D)) : Env → R XV := fun ρ => (fs ρ).bind fun ds ρ => if ds.length = ks.length then .ok (.own (.dct ks ds)) ρ else .stuck
theorem hasK_mem {q : Key} {ks : List Key} : hasK q ks = true ↔ q ∈ ks := by
  unfold hasK
  rw [List.any_eq_true]
  exact ⟨fun ⟨x, h1, h2⟩ => by rw [← of_decide_eq_true h2]; exact h1, fun h => ⟨q, h, decide_eq_true rfl⟩⟩
theorem merge_new : ∀ (more acc : List (Key × V)), ((acc ++ more).map Prod.fst).Nodup → mergeK acc more = acc ++ more
  | [], acc, _ => by simp [mergeK]
  | p :: more, acc, h => by
    have e : putK acc p.1 p.2 = acc ++ [p] := by
      unfold putK
      rw [any_key, if_neg]
      intro z
      have z := hasK_mem.mp z
      rw [List.map_append, List.nodup_append] at h
      exact h.2.2 p.1 z p.1 (by simp) rfl
    have ih := merge_new more (acc ++ [p]) (by rw [List.append_assoc]; exact h)
    show mergeK (putK acc p.1 p.2) more = _
    rw [e, ih, List.append_assoc]; rfl
theorem zip_fst {ks : List Key} : ∀ {vs : List V}, vs.length = ks.length → (ks.zip vs).map Prod.fst = ks := by
  induction ks with
  | nil => intro vs h; simp
  | cons k ks ih =>
    intro vs h
    cases vs with
    | nil => simp at h
    | cons v vs => simp at h; simp [ih h]
theorem zip_snd : ∀ {ks : List Key} {vs : List V}, vs.length = ks.length → (ks.zip vs).map Prod.snd = vs
  | [], [], _ => rfl
  | k :: ks, [], h => by simp at h
  | [], v :: vs, h => by simp at h
  | k :: ks, v :: vs, h => by simp at h; simp [zip_snd h]
section
variable {ι : Type} {J : Jd} {Xs : ι → Cx} {e : Expr} {f g h : Env → R XV} {pos : Pos} {keys : List (Option Expr)} {values : List Expr} {ks : List Key} {fs : Env → R (List D)}
theorem ce_dnew : CE J Xs (.Dict [] [] pos) newDS := by
  refine ⟨tDNewK, fun i _ => pe_dnewK, fun W σ ρ H G Q pk r k p hp => ?_⟩
  exact k _ G (Ge.refl _) (r.new hp) _ (r.newV hp ⟨[], upd_same, rfl, .nil⟩)
theorem cdp_nil : CDp J Xs [] [] [] nilP := by
  refine ⟨[], fun _ _ _ => pps_nil, fun W σ ρ H G Q pk r k => ?_⟩
  exact k H G (Ge.refl _) r [] .nil rfl
theorem cdp_int {i : Int} {j kp} (h : CE J Xs e f) (hr : CDp J Xs keys values ks fs) : CDp J Xs (some (.Constant (.int i) j kp) :: keys) (e :: values) (.inl i :: ks) (consP f fs) := by
  obtain ⟨t, t1, t2⟩ := h
  obtain ⟨u, u1, u2⟩ := hr
  refine ⟨(tC (.int i), t) :: u, fun j G pos => pps_cons pe_int (t1 j G) (u1 j G pos), fun W σ ρ H G Q pk r k => ?_⟩
  refine t2.val W σ ρ H G _ pk r ((Got.bind k).imp fun d ρ1 H1 G1 e1 r1 k v vk => ?_)
  refine u2 W σ ρ1 H1 G1 _ pk r1 ((Got.bind k).imp fun ds ρ2 H2 G2 e2 r2 k vs vks hl => ?_)
  exact k H2 G2 (Ge.refl _) r2 (v :: vs) (.cons (IsD.ge vk e2) vks) (by simp [hl])
theorem cdp_str {x : Str} {j kp} (h : CE J Xs e f) (hr : CDp J Xs keys values ks fs) : CDp J Xs (some (.Constant (.str x) j kp) :: keys) (e :: values) (.inr x :: ks) (consP f fs) := by
  obtain ⟨t, t1, t2⟩ := h
  obtain ⟨u, u1, u2⟩ := hr
  refine ⟨(tC (.str x), t) :: u, fun j G pos => pps_cons pe_str (t1 j G) (u1 j G pos), fun W σ ρ H G Q pk r k => ?_⟩
  refine t2.val W σ ρ H G _ pk r ((Got.bind k).imp fun d ρ1 H1 G1 e1 r1 k v vk => ?_)
  refine u2 W σ ρ1 H1 G1 _ pk r1 ((Got.bind k).imp fun ds ρ2 H2 G2 e2 r2 k vs vks hl => ?_)
  exact k H2 G2 (Ge.refl _) r2 (v :: vs) (.cons (IsD.ge vk e2) vks) (by simp [hl])
theorem ce_disp (hp : CDp J Xs keys values ks fs) (nd : ks.Nodup := by decide) (hall : keys.all (·.isSome) = true := by rfl) (hl : keys.length = values.length := by rfl) (h0 : keys ≠ [] := by intro h; cases h) (h15 : keys.length ≤ 15 := by decide) (hk15 : ks.length ≤ 15 := by decide) :
    CE J Xs (.Dict keys values pos) (dispS ks fs) := by
  obtain ⟨t, t1, t2⟩ := hp
  refine ⟨tDisp t, fun i G => pe_disp (t1 i G pos) hall hl h0 h15, fun W σ ρ H G Q pk r k p hp => ?_⟩
  have r1 := r.new (o := .dK []) hp
  have v1 := r.newV (o := .dK []) (d := .dct [] []) hp ⟨[], upd_same, rfl, .nil⟩
  have hz : W.Z p = none := by obtain ⟨_, e, _, _, hz, _⟩ := v1; cases e; exact hz
  have hn : ¬ W.N p := by obtain ⟨_, e, _, _, _, hn, _⟩ := v1; cases e; exact hn
  have hb := r1.noB hz
  refine t2 (W.hold p (.dK [])) σ ρ _ G _ pk (r1.hold v1 upd_same) (Got.hold r1 v1 upd_same (Got.bind k) fun ds ρ2 H2 G2 e2 rh r2 k vs vks hvl => ?_)
  have hld : ds.length = ks.length := by rw [← vks.length]; exact hvl
  rw [if_pos hld] at k
  have h2 : H2 p = some (.dK []) := rh.zh p _ hold_eq
  refine ⟨h2, ks.zip vs, rfl, by simp only [List.length_zip]; omega, ?_⟩
  have em : mergeK [] (ks.zip vs) = ks.zip vs := merge_new _ [] (by rw [List.nil_append, zip_fst hvl]; exact nd)
  rw [em]
  obtain ⟨r3, v3⟩ := (rh.rehold (o' := .dK (ks.zip vs)) hb).release hz hn hb
  exact k _ G2 (Ge.refl _) r3 _ (v3 (.dct ks ds) ⟨_, upd_same, zip_fst hvl, by rw [zip_snd hvl]; exact vks⟩)
/-- d.get(k, e) -/
def isDct : Option D → Bool
  | some (.dct _ _) => true
  | _ => false
def getAt (x y : XV) (z : D) (ρ : Env) : R XV := match cont ρ x, cont ρ y with
  | some (.dct ks vs), some k => match keyD k with
    | some q => .ok (.dat ((dgetD ks vs q).getD z)) ρ
    | none => .stuck
  | _, _ => .stuck
def dget2S (f g h : Env → R XV) : Env → R XV := fun ρ => (opnd f ρ).bind fun x ρ => if isDct (cont ρ x) = true then (opnd g ρ).bind fun y ρ => (valS h ρ).bind fun z ρ => getAt x y z ρ else .stuck
theorem ce_dget2 {o fe : Expr} {apos cpos : Pos} (ho : CE J Xs o f) (he : CE J Xs e g) (hf : CE J Xs fe h) (m : ∀ j, M2 (Xs j) o "get" apos e fe cpos := by intro _; exact ⟨rfl, rfl, rfl, rfl⟩) : CE J Xs (.Call (.Attribute o "get" apos) [e, fe] [] cpos) (dget2S f g h) := by
  obtain ⟨t, t1, t2⟩ := ho
  obtain ⟨u, u1, u2⟩ := he
  obtain ⟨w, w1, w2⟩ := hf
  refine ⟨tDGet2 t u w, fun j G => pe_dget2 (by have := G.units; omega) (t1 j G) (u1 j G) (w1 j G) (m j), fun W σ ρ H G Q pk r k => ?_⟩
  refine t2.opnd W σ ρ H G _ pk r ((Got.bind k).imp fun x ρ1 H1 G1 e1 r1 k v vk => ?_)
  by_cases hd : isDct (cont ρ1 x) = true
  · rw [if_pos hd] at k
    cases z : cont ρ1 x with
    | none => rw [z] at hd; cases hd
    | some d =>
      rw [z] at hd
      cases d <;> first | (cases hd; done) | skip
      obtain ⟨a, kvs, rfl, q1, _, _⟩ := (vk.top r1 z).dct r1.gh
      refine ⟨a, rfl, .inl ⟨kvs, q1⟩, ?_⟩
      refine u2.opnd W σ ρ1 H1 G1 _ pk r1 ((Got.bind k).imp fun y ρ2 H2 G2 e2 r2 k v2 vk2 => ?_)
      refine w2.val W σ ρ2 H2 G2 _ pk r2 ((Got.bind k).imp fun dz ρ3 H3 G3 e3 r3 k v3 vk3 => ?_)
      unfold getAt at k
      cases zx : cont ρ3 x with
      | none => rw [zx] at k; exact k.elim
      | some dx =>
        cases zy : cont ρ3 y with
        | none => rw [zx, zy] at k; cases dx <;> exact k.elim
        | some dy =>
          rw [zx, zy] at k
          cases dx <;> first | exact k.elim | skip
          rename_i ks' vs'
          dsimp only at k
          cases zq : keyD dy with
          | none => rw [zq] at k; exact k.elim
          | some q =>
            rw [zq] at k
            obtain ⟨a', kvs', e', q1', q2', q3'⟩ := ((vk.ge (e2.trans e3)).top r3 zx).dct r3.gh
            cases e'
            subst q2'
            have ek := keyD_of ((vk2.ge e3).top r3 zy) zq
            subst ek
            refine ⟨_, .inl ⟨kvs', q, q1', rfl, rfl⟩, k H3 G3 (Ge.refl _) r3 _ ?_⟩
            obtain ⟨g1, g2⟩ := dget_of (q := q) q3'
            cases zv : dgetD (kvs'.map Prod.fst) vs' q with
            | none => rw [g2 zv]; exact vk3
            | some y =>
              obtain ⟨vv, b1, b2⟩ := g1 y zv
              rw [b1]; exact b2
  · rw [if_neg hd] at k; exact k.elim
/-! ## k in d -/
def dinO (neg : Bool) (y x : XV) (ρ : Env) : R XV := match cont ρ y, cont ρ x with
  | some k, some (.dct ks _) => match keyD k with
    | some q => .ok (.dat (.bl (xor neg (hasK q ks)))) ρ
    | none => .stuck
  | _, _ => .stuck
def dinS (neg : Bool) (f g : Env → R XV) : Env → R XV := fun ρ => (opnd f ρ).bind fun y ρ => (opnd g ρ).bind fun x ρ => dinO neg y x ρ
theorem valV_has {q : Key} {kvs : List (Key × V)} : (valV kvs q).isSome = hasK q (kvs.map Prod.fst) := by rw [← valV_any, any_key]
theorem din_at {W : Fm} {σ : St} {ρ : Env} {H G : Hp} {neg : Bool} {y x : XV} {v w : V} {Q : VK} (r : Rel J.C W σ ρ H G) (hy : Wait J.C σ G v y) (hx : Wait J.C σ G w x) (k : Got J W σ G (dinO neg y x ρ) (fun x ρ' H' G' => ∀ v, VOk J.C W σ ρ' H' G' v x → Q v H')) :
    ∃ a o, w = .ref a ∧ DGet H a v o ∧ Q (.bl (xor neg o.isSome)) H := by
  unfold dinO at k
  cases zy : cont ρ y with
  | none => rw [zy] at k; exact k.elim
  | some dy =>
    cases zx : cont ρ x with
    | none => rw [zy, zx] at k; exact k.elim
    | some dx =>
      rw [zy, zx] at k
      cases dx <;> first | exact k.elim | skip
      dsimp only at k
      cases zq : keyD dy with
      | none => rw [zq] at k; exact k.elim
      | some q =>
        rw [zq] at k
        obtain ⟨a, kvs, rfl, q1, rfl, q3⟩ := (hx.top r zx).dct r.gh
        have ek := keyD_of (hy.top r zy) zq
        subst ek
        refine ⟨a, _, rfl, .inl ⟨kvs, q, q1, rfl, rfl⟩, ?_⟩
        rw [valV_has]
        exact k H G (Ge.refl _) r _ (.bl _)
theorem ev_din {t u : TE} (h : EvE J t f) (h' : EvE J u g) : EvE J (tDIn t u) (dinS false f g) := fun W σ ρ H G Q pk r k => by
  refine h.opnd W σ ρ H G _ pk r ((Got.bind k).imp fun y ρ1 H1 G1 e1 r1 k v vk => ?_)
  refine h'.opnd W σ ρ1 H1 G1 _ pk r1 ((Got.bind k).imp fun x ρ2 H2 G2 e2 r2 k w wk => ?_)
  obtain ⟨a, o, q1, q2, q3⟩ := din_at r2 (vk.ge e2) wk k
  exact ⟨a, o, q1, q2, by simpa using q3⟩
theorem ev_dnotin {t u : TE} (h : EvE J t f) (h' : EvE J u g) : EvE J (tDNotIn t u) (dinS true f g) := fun W σ ρ H G Q pk r k => by
  refine h.opnd W σ ρ H G _ pk r ((Got.bind k).imp fun y ρ1 H1 G1 e1 r1 k v vk => ?_)
  refine h'.opnd W σ ρ1 H1 G1 _ pk r1 ((Got.bind k).imp fun x ρ2 H2 G2 e2 r2 k w wk => ?_)
  obtain ⟨a, o, q1, q2, q3⟩ := din_at r2 (vk.ge e2) wk k
  exact ⟨a, o, q1, q2, by simpa using q3⟩
theorem ct_din {a b : Expr} (ha : CE J Xs a f) (hb : CE J Xs b g) (hm : behindInMarks .In b = false := by with_unfolding_all rfl) : CT J Xs (.Compare a [.In] [b] pos) (testS (dinS false f g)) := by
  obtain ⟨t, t1, t2⟩ := ha
  obtain ⟨u, u1, u2⟩ := hb
  exact ⟨_, fun j G => pt_cmp (pc_din (by have := G.units; omega) (t1 j G) (u1 j G)) hm, ev_test (ev_din t2 u2)⟩
theorem ct_dnotin {a b : Expr} (ha : CE J Xs a f) (hb : CE J Xs b g) (hm : behindInMarks .NotIn b = false := by with_unfolding_all rfl) : CT J Xs (.Compare a [.NotIn] [b] pos) (testS (dinS true f g)) := by
  obtain ⟨t, t1, t2⟩ := ha
  obtain ⟨u, u1, u2⟩ := hb
  exact ⟨_, fun j G => pt_cmp (pc_dnotin (by have := G.units; omega) (t1 j G) (u1 j G)) hm, ev_test (ev_dnotin t2 u2)⟩
end
end DL
namespace DL
open PySem L2

/-! ## a dict locked while its keys are walked -/
section
variable {C : Cst} {W : Fm} {σ σ' : St} {ρ ρ' : Env} {H G H' G' : Hp} {a : Addr} {o o' : HO} {i : Nat} {d : D}
theorem Rel.lendTo (r : Rel C W σ ρ H G) (h : ρ.at i = .own d) (hs : σ[i]? = some (some (.ref a))) (ow : OwnR C (upd H a o) G a d) : Rel C (W.lend i a o) σ (ρ.set i (.brw d)) (upd H a o) G := by
  obtain ⟨b, e, h1, h2, h3, h4⟩ := r.own h
  rw [hs] at e; cases e
  have hl : i < ρ.length := own_lt (by rw [h]; intro z; cases z)
  have keep : ∀ b u, b ≠ a → H b = some u → upd H a o b = some u := fun b u z e => by rw [upd_ne z]; exact e
  refine ⟨fun b u e => keep b u (ne_of_none e h2) (r.gh _ _ e), fun b u e => ?_, fun b q => ?_, fun j b q => ?_, fun p hp => ?_, by rw [List.length_set]; exact r.ln, fun j => ?_, fun j k b jk k1 k2 e1 e2 => ?_⟩
  · by_cases z : b = a
    · subst z; rw [show (W.lend i b o).Z b = some o from upd_same] at e; cases e; exact upd_same
    · rw [lend_ne z] at e; exact keep b u z (r.zh _ _ e)
  · by_cases z : b = a
    · subst z; exact ⟨h2, _, upd_same⟩
    · rcases q with q | q
      · exact absurd q z
      · obtain ⟨u, hu⟩ := (r.nn b q).2
        exact ⟨(r.nn b q).1, u, keep b u z hu⟩
  · rcases q with ⟨_, rfl⟩ | q
    · exact ⟨_, upd_same⟩
    · obtain ⟨u, hu⟩ := r.bz j b q
      have z : b ≠ a := fun z => by subst z; rw [h3] at hu; cases hu
      exact ⟨u, by rw [lend_ne z]; exact hu⟩
  · rcases List.mem_cons.mp hp with rfl | hp
    · exact hs
    · exact r.pn p hp
  · rw [Env.at_set hl]
    split
    · rename_i e; subst e
      exact ⟨a, hs, ow.move (fun u q => by rw [upd_same] at q; cases q; exact upd_same) (Ge.refl _), .inl ⟨rfl, rfl⟩⟩
    · rename_i e
      have q := r.at_ j
      cases s : ρ.at j with
      | un => trivial
      | dat d => rw [s] at q; exact q
      | own d' =>
        rw [s] at q
        obtain ⟨b, q1, q2, q3, q4, q5⟩ := q
        have z : b ≠ a := fun z => r.ne j i a e (by rw [s]; rfl) (by rw [h]; rfl) (z ▸ q1) hs
        exact ⟨b, q1, q2.move (fun u q => keep b u z q) (Ge.refl _), q3, by rw [lend_ne z]; exact q4, fun y => y.elim z q5⟩
      | brw d' =>
        rw [s] at q
        obtain ⟨b, q1, q2, q3⟩ := q
        refine ⟨b, q1, q2.move (fun u e => ?_) (Ge.refl _), .inr q3⟩
        have z : b ≠ a := fun z => by subst z; rw [h3] at e; cases e
        rw [lend_ne z]; exact e
  · rw [Env.at_set hl] at k1 k2
    refine r.ne j k b jk ?_ ?_ e1 e2
    · split at k1
      · cases k1
      · exact k1
    · split at k2
      · cases k2
      · exact k2
/-- the old object is put back -/
theorem Rel.unlendTo (r : Rel C W σ ρ H G) (h : ρ.at i = .own d) (hs : σ[i]? = some (some (.ref a))) (ho : H a = some o) (g : Ge G G') (r' : Rel C (W.lend i a o') σ' ρ' H' G') (hl : i < ρ'.length) :
    Rel C W σ' (ρ'.set i (.own d)) (upd H' a o) G' ∧ ∀ v x, VOk C (W.lend i a o') σ' ρ' H' G' v x → VOk C W σ' (ρ'.set i (.own d)) (upd H' a o) G' v x := by
  obtain ⟨b, e, h1, h2, h3, h4⟩ := r.own h
  rw [hs] at e; cases e
  have hs' : σ'[i]? = some (some (.ref a)) := r'.pn (i, a) List.mem_cons_self
  have hN := r'.nn a (.inl rfl)
  have hB := r.noB h3
  have ow : Own C (upd H' a o) G' a d := h1.move (fun u q => by rw [ho] at q; cases q; exact upd_same) g
  have keep : ∀ b u, b ≠ a → H' b = some u → upd H' a o b = some u := fun b u z e => by rw [upd_ne z]; exact e
  have oth : ∀ j d', j ≠ i → ρ'.at j = .own d' → ∃ b, σ'[j]? = some (some (.ref b)) ∧ b ≠ a ∧ Own C H' G' b d' ∧ G' b = none ∧ W.Z b = none ∧ ¬ W.N b := fun j d' ji s => by
    obtain ⟨b, q1, q2, q3, q4, q5⟩ := r'.own s
    have z : b ≠ a := fun z => q5 (.inl z)
    rw [lend_ne z] at q4
    exact ⟨b, q1, z, q2, q3, q4, fun y => q5 (.inr y)⟩
  have rel : Rel C W σ' (ρ'.set i (.own d)) (upd H' a o) G' := by
    refine ⟨fun b u e => keep b u (ne_of_none e hN.1) (r'.gh _ _ e), fun b u e => ?_, fun b q => ⟨(r'.nn b (.inr q)).1, ?_⟩, r.bz, fun p hp => r'.pn p (List.mem_cons_of_mem _ hp), by rw [List.length_set]; exact r'.ln, fun j => ?_, fun j k b jk k1 k2 e1 e2 => ?_⟩
    · have z : b ≠ a := fun z => by subst z; rw [h3] at e; cases e
      exact keep b u z (r'.zh b u (by rw [lend_ne z]; exact e))
    · obtain ⟨u, hu⟩ := (r'.nn b (.inr q)).2
      by_cases z : b = a
      · subst z; exact ⟨_, upd_same⟩
      · exact ⟨u, keep b u z hu⟩
    · rw [Env.at_set hl]
      split
      · rename_i e; subst e
        exact ⟨a, hs', ow, hN.1, h3, h4⟩
      · rename_i e
        have q := r'.at_ j
        cases s : ρ'.at j with
        | un => trivial
        | dat d => rw [s] at q; exact q
        | own d' =>
          obtain ⟨b, q1, z, q2, q3, q4, q5⟩ := oth j d' e s
          exact ⟨b, q1, q2.move (fun u q => keep b u z q) (Ge.refl _), q3, q4, q5⟩
        | brw d' =>
          rw [s] at q
          obtain ⟨b, q1, q2, q3⟩ := q
          have q3 : W.B j b := q3.elim (fun y => absurd y.1 e) id
          have z : b ≠ a := fun z => hB j (z ▸ q3)
          exact ⟨b, q1, q2.move (fun u e => by rw [lend_ne z] at e; exact e) (Ge.refl _), q3⟩
    · rw [Env.at_set hl] at k1 k2
      by_cases zj : j = i
      · by_cases zk : k = i
        · exact jk (zj.trans zk.symm)
        · rw [if_neg zk] at k2
          obtain ⟨d', hd⟩ := own_of k2
          obtain ⟨b', q1, q2, _⟩ := oth k d' zk hd
          subst zj
          rw [hs'] at e1; cases e1
          rw [q1] at e2; cases e2
          exact q2 rfl
      · rw [if_neg zj] at k1
        obtain ⟨d', hd⟩ := own_of k1
        obtain ⟨b', q1, q2, _⟩ := oth j d' zj hd
        by_cases zk : k = i
        · subst zk
          rw [hs'] at e2; cases e2
          rw [q1] at e1; cases e1
          exact q2 rfl
        · rw [if_neg zk] at k2
          exact r'.ne j k b jk k1 k2 e1 e2
  refine ⟨rel, fun v x vk => ?_⟩
  cases x with
  | dat d' => exact vk
  | slot n =>
    obtain ⟨v1, v2⟩ := vk
    refine ⟨v1, ?_⟩
    by_cases z : n = i
    · subst z; rw [Env.at_set hl, if_pos rfl]; exact .inl ⟨d, rfl⟩
    · rw [Env.at_set_ne z]; exact v2
  | own d' =>
    obtain ⟨b, rfl, v1, v2, v3, v4, v5⟩ := vk
    have z : b ≠ a := fun z => v4 (.inl z)
    rw [lend_ne z] at v3
    refine ⟨b, rfl, v1.move (fun u q => keep b u z q) (Ge.refl _), v2, v3, fun y => v4 (.inr y), fun n hn en => ?_⟩
    by_cases zn : n = i
    · subst zn; rw [hs'] at en; cases en; exact z rfl
    · rw [Env.at_set_ne zn] at hn
      exact v5 n hn en
end
/-! ## for k in d, [.. for k in d ..]: d a name of ours -/
def lockBack {α : Type} (i : Nat) (d : D) : R α → R α
  | .ok a ρ => .ok a (ρ.set i (.own d))
  | _ => .stuck
def keyDat : Key → D
  | .inl i => .int i
  | .inr s => .str s
def keysS {α : Type} (i : Nat) (body : List D → Env → R α) : Env → R α := fun ρ => match ρ.at i with
  | .own (.dct ks vs) => lockBack i (.dct ks vs) (body (ks.map keyDat) (ρ.set i (.brw (.dct ks vs))))
  | _ => .stuck
theorem key_isD {C : Cst} {G : Hp} (k : Key) : DL.IsD C G (kV k) (keyDat k) := by
  cases k with
  | inl i => exact .int i
  | inr s => exact .str s
theorem walk_keysD {C : Cst} {W : Fm} {G : Hp} {a : Addr} {o : Obj} {kvs : List (Key × V)} (hz : W.Z a = some (.frz o (.dK kvs))) : WalkOk C W G (Itk a o kvs) ((kvs.map Prod.fst).map keyDat) := by
  refine ⟨fun H => H a = some (.frz o (.dK kvs)), fun i H x H' => H' = H ∧ ∃ k v, kvs[i]? = some (k, v) ∧ x = kV k, ?_, fun σ ρ H G' g r => r.zh _ _ hz, fun i d hd W' σ ρ H G' x H' r g y hw => ?_⟩
  · have := walk_keys (d := a) (o := o) (kvs := kvs)
    simpa using this
  · obtain ⟨rfl, k, v, h1, rfl⟩ := y
    refine ⟨G', Ge.refl _, r, ?_⟩
    simp [h1] at hd
    subst hd
    exact key_isD k
section
variable {J : Jd} {W : Fm} {σ : St} {ρ : Env} {H G : Hp} {i : Nat}
theorem mut_dK {kvs : List (Key × V)} : Mut (some (.dK kvs)) := trivial
theorem ev_forK {g : TG} {tb : TS} {ts fg : List Nat} {ft : D → Env → Option Env} {fb : Env → R Out} (hg : EvG (J.pin i) g ts ft) (hb : EvS (J.pin i) tb fb) : EvS J (tLock (tFor (iKeys (tVar i)) g tb)) (keysS i (forL fg ft fb)) := by
  intro W σ ρ H G E pk r h
  unfold keysS at h
  cases s : ρ.at i with
  | un => rw [s] at h; exact h.elim
  | dat d => rw [s] at h; exact h.elim
  | brw d => rw [s] at h; exact h.elim
  | own d =>
    rw [s] at h
    cases d <;> first | exact h.elim | skip
    rename_i ks vs
    obtain ⟨a, q1, ⟨kvs, q6, rfl, q8⟩, q3, q4, q5⟩ := r.own s
    refine ⟨a, .dK kvs, q6, mut_dK, fun od => ?_⟩
    have rl := r.lendTo (o := .frz od (.dK kvs)) s q1 ⟨kvs, .inr ⟨od, upd_same⟩, rfl, q8⟩
    refine ⟨_, q1, a, od, rfl, .inl ⟨kvs, upd_same, ?_⟩⟩
    refine for_core (J := J.pin i) (W := W.lend i a (.frz od (.dK kvs))) (fg := fg) (walk_keysD upd_same) rl (lend_pk pk) hg hb ?_
    dsimp only at h
    cases z : forL fg ft fb ((kvs.map Prod.fst).map keyDat) (ρ.set i (.brw (.dct (kvs.map Prod.fst) vs))) with
    | stuck => rw [z] at h; exact h.elim
    | exc c ns ds ρ2 => rw [z] at h; exact h.elim
    | ok x ρ2 =>
      rw [z] at h
      have zz : ∀ {σ' : St} {H' G' : Hp}, Rel J.C (W.lend i a (.frz od (.dK kvs))) σ' ρ2 H' G' → H' a = some (.frz od (.dK kvs)) := fun r' => r'.zh a _ upd_same
      cases x with
      | nx => exact fun σ' H' G' g r' => ⟨zz r', h σ' _ G' g (r.unlendTo s q1 q6 g r' (lend_len r')).1⟩
      | brk => exact fun σ' H' G' g r' => ⟨zz r', h σ' _ G' g (r.unlendTo s q1 q6 g r' (lend_len r')).1⟩
      | cont => exact fun σ' H' G' g r' => ⟨zz r', h σ' _ G' g (r.unlendTo s q1 q6 g r' (lend_len r')).1⟩
      | ret x =>
        intro v σ' H' G' g r' vk
        obtain ⟨u1, u2⟩ := r.unlendTo s q1 q6 g r' (lend_len r')
        exact ⟨zz r', h v σ' _ G' g u1 (u2 v x vk)⟩
theorem ev_lcK {g : TG} {t : TT} {te : TE} {ts vs : List Nat} {ft : D → Env → Option Env} {tt : Env → R Bool} {fe : Env → R XV} (hP : ∀ j ∈ vs, j ∉ (J.pin i).P) (hts : ∀ j ∈ ts, j ∈ vs) (hg : EvG (J.pin i).blk g ts ft) (ht : EvT (J.pin i).blk t tt) (he : EvE (J.pin i).blk te fe) :
    EvE J (tLockE (tLc (iKeys (tVar i)) g t te vs)) (keysS i (lcR vs ft tt fe)) := by
  intro W σ ρ H G Q pk r h
  unfold keysS at h
  cases s : ρ.at i with
  | un => rw [s] at h; exact h.elim
  | dat d => rw [s] at h; exact h.elim
  | brw d => rw [s] at h; exact h.elim
  | own d =>
    rw [s] at h
    cases d <;> first | exact h.elim | skip
    rename_i ks ds
    obtain ⟨a, q1, ⟨kvs, q6, rfl, q8⟩, q3, q4, q5⟩ := r.own s
    refine ⟨a, .dK kvs, q6, mut_dK, fun od => ?_⟩
    have rl := r.lendTo (o := .frz od (.dK kvs)) s q1 ⟨kvs, .inr ⟨od, upd_same⟩, rfl, q8⟩
    refine ⟨_, q1, a, od, rfl, .inl ⟨kvs, upd_same, ?_⟩⟩
    refine lc_core (J := J.pin i) (W := W.lend i a (.frz od (.dK kvs))) (Q := fun v H' => H' a = some (.frz od (.dK kvs)) ∧ Q v (upd H' a (.dK kvs))) (walk_keysD upd_same) rl (lend_pk pk) hP hts hg ht he ?_
    dsimp only at h
    cases z : lcR vs ft tt fe ((kvs.map Prod.fst).map keyDat) (ρ.set i (.brw (.dct (kvs.map Prod.fst) ds))) with
    | stuck => rw [z] at h; exact h.elim
    | exc c ns ds ρ2 => rw [z] at h; exact h.elim
    | ok x ρ2 =>
      rw [z] at h
      intro H' G' g r' v vk
      obtain ⟨u1, u2⟩ := r.unlendTo s q1 q6 g r' (lend_len r')
      exact ⟨r'.zh a _ upd_same, h _ G' g u1 v (u2 v x vk)⟩
end
section
variable {ι : Type} {J : Jd} {Xs : ι → Cx} {tg elt : Expr} {body : List Stmt} {ifs : List Expr} {scope : Scope} {own : List (Str × Nat)} {p pos : Pos} {ts vs : List Nat} {x : Str} {ft : D → Env → Option Env} {tt : Env → R Bool} {fe : Env → R XV} {fb : Env → R Out}
variable (i : Nat) (hN : ∀ j, (Xs j).N[i]? = some x := by intro _; rfl) (hv : ∀ j, Vis (Xs j).env.scope x := by first | exact fun _ => Or.inl rfl | exact fun _ => Or.inr (Or.inl rfl) | exact fun _ => Or.inr (Or.inr rfl))
  (hd : (x == ("__debug__" : Str)) = false := by decide) (hcd : (x == ("__classdict__" : Str)) = false := by decide)
include hN hv hd hcd
theorem cs_forK (fg : List Nat) (hg : CG (J.pin i) Xs tg ts ft) (hb : CSs (J.pin i) Xs body fb) (hs : ∀ j y, foldedSetIterable (.Name x p) (Xs j).env y = pure y := by intro _ _; rfl) : CS J Xs (.For tg (.Name x p) body [] pos) (keysS i (forL fg ft fb)) := by
  obtain ⟨g, g1, g2⟩ := hg
  obtain ⟨tb, b1, b2⟩ := hb
  exact ⟨_, fun j G => ps_lock (ps_for G.po G.calm (pi_keys (pe_var (hN j) (hv j) hd hcd)) (g1 j (G.pin i)) (b1 j (G.pin i)) (hs j)), ev_forK g2 b2⟩
theorem ce_lcK (ok : ∀ j, BlkOk (Xs j).N (Xs j).env.scope scope own) (hg : CG (J.pin i).blk (blkF Xs scope) tg ts ft) (ht : CTs (J.pin i).blk (blkF Xs scope) ifs tt) (he : CE (J.pin i).blk (blkF Xs scope) elt fe)
    (hvs : own.map (·.2) = vs) (hts : ∀ j ∈ ts, j ∈ vs) (hP : ∀ j ∈ vs, j ∉ (J.pin i).P) (hs : ∀ j y, foldedSetIterable (.Name x p) (Xs j).env y = pure y := by intro _ _; rfl) : CE J Xs (.ListComp elt [⟨tg, (.Name x p), ifs, 0⟩] scope pos) (keysS i (lcR vs ft tt fe)) := by
  obtain ⟨g, g1, g2⟩ := hg
  obtain ⟨t, t1, t2⟩ := ht
  obtain ⟨te, e1, e2⟩ := he
  subst hvs
  exact ⟨_, fun j G => pe_lock (pe_lc G.calm G.nd (pi_keys (pe_var (hN j) (hv j) hd hcd)) (ok j) (fun s H C cl fp => g1 (j, s, H, C, cl, fp) (G.pin i).blk) (fun s H C cl fp => t1 (j, s, H, C, cl, fp) (G.pin i).blk) (fun s H C cl fp => e1 (j, s, H, C, cl, fp) (G.pin i).blk) (hs j)), ev_lcK hP hts g2 t2 e2⟩
end
end DL
namespace DL
open PySem L2

/-! ## a slot more, for a while -/
theorem Env.at_snoc {ρ : Env} {s : SV} {i : Nat} : Env.at (ρ ++ [s]) i = if i = ρ.length then s else ρ.at i := by
  unfold Env.at
  by_cases h : i < ρ.length
  · rw [List.getElem?_append_left h, if_neg (by omega)]
  · by_cases e : i = ρ.length
    · subst e; simp
    · rw [if_neg e, List.getElem?_eq_none (by simp; omega), List.getElem?_eq_none (by omega)]
section
variable {C : Cst} {W : Fm} {σ : St} {ρ ρ' : Env} {H G : Hp} {a : Addr} {d : D}
theorem Rel.push (r : Rel C W σ ρ H G) (v : VOk C W σ ρ H G (.ref a) (.own d)) : Rel C W (σ ++ [some (.ref a)]) (ρ ++ [.own d]) H G := by
  obtain ⟨b, e, h1, h2, h3, h4, h5⟩ := v
  cases e
  have keep : ∀ i, i ≠ σ.length → (σ ++ [some (V.ref a)])[i]? = σ[i]? := fun i hi => by
    by_cases h : i < σ.length
    · rw [List.getElem?_append_left h]
    · rw [List.getElem?_eq_none (by simp; omega), List.getElem?_eq_none (by omega)]
  have last : (σ ++ [some (V.ref a)])[σ.length]? = some (some (.ref a)) := by simp
  refine ⟨r.gh, r.zh, r.nn, r.bz, fun p hp => ?_, by simp [r.ln], fun i => ?_, fun i j b ij k1 k2 e1 e2 => ?_⟩
  · have q := r.pn p hp
    have : p.1 < σ.length := (List.getElem?_eq_some_iff.mp q).1
    rw [keep _ (by omega)]; exact q
  · rw [Env.at_snoc]
    by_cases e : i = ρ.length
    · rw [if_pos e, e, ← r.ln, last]; exact ⟨a, rfl, h1, h2, h3, h4⟩
    · rw [if_neg e, keep i (by rw [r.ln]; exact e)]; exact r.at_ i
  · rw [Env.at_snoc] at k1 k2
    by_cases ei : i = ρ.length
    · rw [if_neg (by omega)] at k2
      rw [ei, ← r.ln, last] at e1; cases e1
      rw [keep j (by rw [r.ln]; omega)] at e2
      exact h5 j k2 e2
    · rw [if_neg ei] at k1
      rw [keep i (by rw [r.ln]; exact ei)] at e1
      by_cases ej : j = ρ.length
      · rw [ej, ← r.ln, last] at e2; cases e2
        exact h5 i k1 e1
      · rw [if_neg ej] at k2
        rw [keep j (by rw [r.ln]; exact ej)] at e2
        exact r.ne i j b ij k1 k2 e1 e2
theorem Rel.pop {o : Option V} {n : Nat} (r0 : Rel C W σ ρ H G) {H' G' : Hp} (r : Rel C W (σ ++ [o]) ρ' H' G') (hn : n = σ.length) : Rel C W σ (ρ'.take n) H' G' ∧ (∀ d, ρ'.at n = .own d → ∀ v, o = some v → VOk C W σ (ρ'.take n) H' G' v (.own d)) := by
  subst hn
  have hl : ρ'.length = σ.length + 1 := by rw [← r.ln]; simp
  have tk : ∀ i, Env.at (ρ'.take σ.length) i = if i < σ.length then ρ'.at i else .un := fun i => by
    unfold Env.at
    rw [List.getElem?_take]
    split <;> rfl
  have keep : ∀ i, i < σ.length → (σ ++ [o])[i]? = σ[i]? := fun i h => List.getElem?_append_left h
  refine ⟨⟨r.gh, r.zh, r.nn, r.bz, fun p hp => r0.pn p hp, by rw [List.length_take]; omega, fun i => ?_, fun i j b ij k1 k2 e1 e2 => ?_⟩, fun d hd v hv => ?_⟩
  · rw [tk]
    split
    · rename_i h
      have := r.at_ i
      rw [keep i h] at this
      exact this
    · trivial
  · rw [tk] at k1 k2
    split at k1
    · split at k2
      · rename_i h1 h2
        exact r.ne i j b ij k1 k2 (by rw [keep i h1]; exact e1) (by rw [keep j h2]; exact e2)
      · cases k2
    · cases k1
  · subst hv
    obtain ⟨a, q1, q2, q3, q4, q5⟩ := r.own hd
    have : v = .ref a := by simpa using q1
    subst this
    refine ⟨a, rfl, q2, q3, q4, q5, fun i hi e => ?_⟩
    rw [tk] at hi
    split at hi
    · rename_i h
      exact r.ne i σ.length a (by omega) hi (by rw [hd]; rfl) (by rw [keep i h]; exact e) (by simp)
    · cases hi
theorem Wait.more {v : V} {x : XV} {o : Option V} (h : Wait C σ G v x) : Wait C (σ ++ [o]) G v x := by
  cases x with
  | dat d => exact h
  | own d => exact h
  | slot i =>
    have h' : σ[i]? = some (some v) := h
    have : i < σ.length := (List.getElem?_eq_some_iff.mp h').1
    show (σ ++ [o])[i]? = some (some v)
    rw [List.getElem?_append_left this]; exact h'
theorem Waits.more {o : Option V} : ∀ {vs : List V} {xs : List XV}, Waits C σ G vs xs → Waits C (σ ++ [o]) G vs xs
  | [], [], _ => trivial
  | _ :: _, _ :: _, h => ⟨h.1.more, Waits.more h.2⟩
  | [], _ :: _, h => h.elim
  | _ :: _, [], h => h.elim
end
/-! ## C(e, ..) -/
def makeF (c : String) (g : FnM) (xs : List XV) (ρ : Env) : R XV := match callF g (.slot ρ.length :: xs) (ρ ++ [.own (.ins c [] [])]) with
  | .ok (.dat .non) ρ1 => match ρ1.at ρ.length with
    | .own d => .ok (.own d) (ρ1.take ρ.length)
    | _ => .stuck
  | .exc c ns vs ρ1 => .exc c ns vs (ρ1.take ρ.length)
  | _ => .stuck
def makeS (c : String) (g : FnM) (fs : Env → R (List XV)) : Env → R XV := fun ρ => (fs ρ).bind fun xs ρ => makeF c g xs ρ
def tMakeS (c : Addr) (sp : Sp) (E : St → XK) (t : TA) : TE := fun σ H Q => t σ H fun vs H1 => ∀ x dx, H1 x = none → H1 dx = none → dx ≠ x →
  sp (.ref x :: vs) (upd (upd H1 dx (.own x)) x (.ins c dx [])) (fun v H2 => v = .non ∧ Q (.ref x) H2) (E σ)
section
variable {X : Cx} {CX : CXT} {k : Nat} {f c : Addr} {fd : FuncData} {ps : List Str} {sp : Sp} {E : St → XK} {x : Str} {p pos : Pos} {e : Expr} {es : List Expr} {t : TA}
theorem pe_makeS (M : Mk X.K c f) (F : FnOk X.prog X.w X.K X.mg X.base CX k f fd ps sp) (hr : Room (k + 1) X.A) (hg : Gl X x) (hm : X.mg x = some (.ref c)) (hb : Binds X.K fd ps []) (hx : ∀ σ, PassesAt CX X σ (E σ))
    (ha : PA X (e :: es) t) (hdb : (x == ("__debug__" : Str)) = false := by decide) (he : starEach (e :: es) X.env = (false, eval e X.env) :: starEach es X.env := by rfl) (hpl : (backTo pos (starEach es X.env)).any (·.1) = false := by rfl) :
    PE X (.Call (.Name x p) (e :: es) [] pos) (tMakeS c sp E t) := by
  refine ⟨fun pins s σ H Q I h => wpAny_Call_Name_kw (ld_glob I hg hm ?_ hdb)⟩
  refine PySem.W.callWith_K (h₀ := X.base) I.ok.mod.kin M.kp (thn (ha.run pos pins s σ H _ I h) fun us s1 ⟨vs, H1, I1, rv, q⟩ => ⟨I1.kIn, ?_⟩) he hpl
  have big := I1.hok.fresh (Nat.le_refl s1.heap.objs.size)
  have hq := q (s1.heap.objs.size + 1) s1.heap.objs.size (I1.hok.fresh (Nat.le_succ _)) big (Nat.ne_of_lt (Nat.lt_succ_self _))
  have I2 := Inv.made (C := c) I1
  have r2 : Vals (V.ref (s1.heap.objs.size + 1) :: vs) (Value.ref (s1.heap.objs.size + 1) :: us) := .cons rfl rv
  have hl : (Value.ref (s1.heap.objs.size + 1) :: us).length = ps.length := by rw [← r2.length]; exact F.len _ _ _ _ hq
  have bnd := hb _ (Value.ref (s1.heap.objs.size + 1) :: us) I2.kIn (by rw [List.append_nil]; exact hl)
  rw [List.append_nil] at bnd
  have run := F.run _ X.stack _ _ ⟨Value.ref (s1.heap.objs.size + 1) :: us, []⟩ (Value.ref (s1.heap.objs.size + 1) :: us) _ _ (E σ) (hr.make c us []) (I2.env0.make c us []) bnd r2 hq
  refine wpAny_call (make_map (f := f) I1.kIn M.makes M.init (beq_iff_eq.mp M.fn) (codeAny_mono run fun r s3 hq' => ?_))
  cases r with
  | error e => exact hx σ pins _ _ e s3 I2 hq'
  | ok fl =>
    cases fl <;> first | exact False.elim hq' | skip
    obtain ⟨v, H', I3, rv, ev, q3⟩ := I2.after hq'
    subst ev
    exact ⟨rv, ⟨V.ref (s1.heap.objs.size + 1), H', I3, rfl, q3⟩⟩
end
section
variable {ι : Type} {J : Jd} {Xs : ι → Cx} {e : Expr} {es : List Expr} {fs : Env → R (List XV)} {g : FnM} {x : Str} {p pos : Pos} {f : Addr} {fd : FuncData} {ps : List Str} {k : Nat}
theorem ev_make {ta : TA} {c : String} {n : Nat} (ha : EvA J ta fs) (hn : ∀ ρ xs ρ', fs ρ = .ok xs ρ' → xs.length = n) : EvE J (tMakeS (J.C.CA c) (spF J.C (n + 1) g) (fun σ => WE J.EW σ) ta) (makeS c g fs) := by
  intro W σ ρ H G Q pk rl h
  refine ha W σ ρ H G _ pk rl ?_
  unfold makeS at h
  cases z : fs ρ with
  | stuck => rw [z] at h; exact h.elim
  | exc c ns ds ρ' => rw [z] at h; exact h
  | ok xs ρ1 =>
    rw [z] at h
    have h := Got.bind h
    intro H1 G1 ge r1 vs wk a dx ha hdx hne
    have r2 := r1.new (o := .own a) hdx
    have ha2 : upd H1 dx (.own a) a = none := by rw [upd_ne (Ne.symm hne)]; exact ha
    have r3 := r2.new (o := .ins (J.C.CA c) dx []) ha2
    have v3 := r2.newV (o := .ins (J.C.CA c) dx []) (d := .ins c [] []) ha2 ⟨dx, [], upd_same, rfl, .nil⟩
    have r4 := r3.push v3
    have hk := h H1 G1 ge r1
    dsimp only at hk
    let J' : Jd := { J with EW := fun cc dd _ H => J.EW cc dd σ H }
    have hw : Waits J'.C (σ ++ [some (.ref a)]) G1 (.ref a :: vs) (.slot ρ1.length :: xs) := by
      refine ⟨?_, wk.more⟩
      show (σ ++ [some (V.ref a)])[ρ1.length]? = some (some (V.ref a))
      rw [← r1.ln]; simp
    refine callF_ok (J := J') (W := W) (σ := σ ++ [some (.ref a)]) (ρ := ρ1 ++ [.own (.ins c [] [])]) (n + 1) (by simp [hn ρ xs ρ1 z]) r4 hw ?_
    unfold makeF at hk
    cases zc : callF g (.slot ρ1.length :: xs) (ρ1 ++ [.own (.ins c [] [])]) with
    | stuck => rw [zc] at hk; exact hk
    | exc cc ns ds ρ2 =>
      rw [zc] at hk
      intro dd H' G' g' r' ex
      exact hk dd H' G' g' (Rel.pop r1 r' r1.ln.symm).1 ex
    | ok y ρ2 =>
      rw [zc] at hk
      cases y <;> first | exact hk.elim | skip
      rename_i d
      cases d <;> first | exact hk.elim | skip
      dsimp only at hk
      intro H' G' g' r' v vk
      cases s : ρ2.at ρ1.length with
      | un => rw [s] at hk; exact hk.elim
      | dat d => rw [s] at hk; exact hk.elim
      | brw d => rw [s] at hk; exact hk.elim
      | own d =>
        rw [s] at hk
        cases vk
        obtain ⟨p1, p2⟩ := Rel.pop r1 r' r1.ln.symm
        exact ⟨rfl, hk H' G' g' p1 _ (p2 d s _ rfl)⟩
/-- C(e, ..), C a class of the text whose __init__ is f -/
theorem ce_make {c : String} (M : Mk J.C.K (J.C.CA c) f) (F : ∀ i, FnOk (Xs i).prog (Xs i).w (Xs i).K (Xs i).mg (Xs i).base (L2.CX (Xs i).prog (Xs i).w) k f fd ps (spF J.C ps.length g)) (hm : ∀ i, (Xs i).mg x = some (.ref (J.C.CA c))) (hb : Binds J.C.K fd ps []) (ha : CA_ J Xs (e :: es) fs)
    (hk : k + 1 ≤ J.k) (hn : ∀ ρ xs ρ', fs ρ = .ok xs ρ' → xs.length + 1 = ps.length)
    (hg : ∀ i, Gl (Xs i) x := by intro _; rfl) (hdb : (x == ("__debug__" : Str)) = false := by decide) (he : ∀ i, starEach (e :: es) (Xs i).env = (false, eval e (Xs i).env) :: starEach es (Xs i).env := by intro _; rfl)
    (hpl : ∀ i, (backTo pos (starEach es (Xs i).env)).any (·.1) = false := by intro _; rfl) : CE J Xs (.Call (.Name x p) (e :: es) [] pos) (makeS c g fs) := by
  obtain ⟨t, h1, h2⟩ := ha
  cases hp : ps.length with
  | zero =>
    refine ⟨_, fun i G => pe_makeS (by rw [G.hK]; exact M) (F i) (G.hr.mono hk) (hg i) (hm i) (by rw [G.hK]; exact hb) (fun σ => passAt G.tk σ) (h1 i G) hdb (he i) (hpl i), ?_⟩
    intro W σ ρ H G Q pk rl h
    unfold makeS at h
    cases z : fs ρ with
    | stuck => rw [z] at h; exact h.elim
    | exc c ns ds ρ' => refine h2 W σ ρ H G _ pk rl ?_; rw [z] at h ⊢; exact h
    | ok xs ρ1 => have := hn ρ xs ρ1 z; omega
  | succ n =>
    rw [hp] at F
    refine ⟨_, fun i G => pe_makeS (by rw [G.hK]; exact M) (F i) (G.hr.mono hk) (hg i) (hm i) (by rw [G.hK]; exact hb) (fun σ => passAt G.tk σ) (h1 i G) hdb (he i) (hpl i), ?_⟩
    exact ev_make h2 fun ρ xs ρ' z => by have := hn ρ xs ρ' z; omega
end
/-! ## y = x, x a name of ours that is not read again -/
def moveS (j i : Nat) : Env → R Out := fun ρ => match ρ.at i with
  | .own d => if i = j then .stuck else .ok .nx ((ρ.set i .un).set j (.own d))
  | _ => .stuck
theorem cs_move {ι : Type} {J : Jd} {Xs : ι → Cx} {x y : Str} {p px pos : Pos} (j i : Nat) (hp : j ∉ J.P) (hN : ∀ l, (Xs l).N[i]? = some x := by intro _; rfl) (hv : ∀ l, Vis (Xs l).env.scope x := by first | exact fun _ => Or.inl rfl | exact fun _ => Or.inr (Or.inl rfl) | exact fun _ => Or.inr (Or.inr rfl))
    (hd : (x == ("__debug__" : Str)) = false := by decide) (hcd : (x == ("__classdict__" : Str)) = false := by decide) (hi : ∀ l, (Xs l).N[j]? = some y := by intro _; rfl) (hx : ∀ l, Loc (Xs l).env.scope y := by first | exact fun _ => Or.inl rfl | exact fun _ => Or.inr rfl)
    (hs : ∀ l, swapsWith (.Name x px) (some (.Name y p)) pos.line (Xs l).env = pure false := by intro _; rfl) (hf : ∀ l, (Xs l).fn y = true ∨ (Xs l).env.scope.names.lookup y = some .local := by first | exact fun _ => Or.inl rfl | exact fun _ => Or.inr rfl) :
    CS J Xs (.Assign [.Name y p] (.Name x px) pos) (moveS j i) := by
  refine ⟨_, fun l G => ps_set G.nd (hi l) (hx l) (pe_var (hN l) (hv l) hd hcd) (hs l) (hf l), fun W σ ρ H G E pk r h => ?_⟩
  unfold moveS at h
  cases s : ρ.at i with
  | un => rw [s] at h; exact h.elim
  | dat d => rw [s] at h; exact h.elim
  | brw d => rw [s] at h; exact h.elim
  | own d =>
    rw [s] at h
    dsimp only at h
    split at h
    · exact h.elim
    · obtain ⟨a, q1, q2, q3, q4, q5⟩ := r.own s
      have hil : i < ρ.length := own_lt (by rw [s]; intro z; cases z)
      refine ⟨_, q1, ?_⟩
      have r1 := r.un i
      have v1 : VOk J.C W σ (ρ.set i .un) H G (.ref a) (.own d) := by
        refine ⟨a, rfl, q2, q3, q4, q5, fun n hn e => ?_⟩
        rw [Env.at_set hil] at hn
        split at hn
        · cases hn
        · rename_i ni
          exact r.ne n i a ni hn (by rw [s]; rfl) e q1
      exact h _ H G (Ge.refl _) (r1.setX v1 (fun _ e => by cases e) fun p hp' e => hp (e ▸ pk p hp'))
end DL
namespace DL
open PySem L2

theorem pe_tyN {X : Cx} {x : Str} {n : String} {p : Pos} (hm : X.mg x = none) (hv : bootBuiltins x = some (.type n)) (hg : Gl X x := by rfl) (hn : x ≠ "__name__" := by decide) (hd : (x == ("__debug__" : Str)) = false := by decide) : PE X (.Name x p) (tC (.ty n)) :=
  pe_bltn hg hm hv rfl hn hd
theorem pe_clN {X : Cx} {x : Str} {a : Addr} {p : Pos} (hm : X.mg x = some (.ref a)) (hg : Gl X x := by rfl) (hd : (x == ("__debug__" : Str)) = false := by decide) : PE X (.Name x p) (tC (.ref a)) :=
  pe_glob hg hm rfl hd
/-- how many arguments there are -/
def LenA (fs : Env → R (List XV)) (n : Nat) : Prop := ∀ ρ xs ρ', fs ρ = .ok xs ρ' → xs.length = n
theorem LenA.nil : LenA nilS 0 := fun ρ xs ρ' e => by cases e; rfl
theorem bind_ok {α β : Type} {r : R α} {g : α → Env → R β} {y : β} {ρ' : Env} (h : r.bind g = .ok y ρ') : ∃ x ρ1, r = .ok x ρ1 ∧ g x ρ1 = .ok y ρ' := by
  cases r with
  | ok x ρ1 => exact ⟨x, ρ1, rfl, h⟩
  | exc c ns vs ρ => cases h
  | stuck => cases h
theorem LenA.cons {f : Env → R XV} {fs : Env → R (List XV)} {n : Nat} (h : LenA fs n) : LenA (consS f fs) (n + 1) := fun ρ xs ρ' e => by
  obtain ⟨x, ρ1, _, e⟩ := bind_ok e
  obtain ⟨ys, ρ2, e1, e⟩ := bind_ok e
  cases e
  rw [List.length_cons, h _ _ _ e1]
theorem LenA.consD {f : Env → R XV} {fs : Env → R (List XV)} {n : Nat} (h : LenA fs n) : LenA (consD f fs) (n + 1) := fun ρ xs ρ' e => by
  obtain ⟨x, ρ1, _, e⟩ := bind_ok e
  obtain ⟨ys, ρ2, e1, e⟩ := bind_ok e
  cases e
  rw [List.length_cons, h _ _ _ e1]
/-! ## (a, b) = a tuple -/
def asgT (f : Env → R XV) (ft : D → Env → Option Env) : Env → R Out := fun ρ => (valS f ρ).bind fun d ρ => match ft d ρ with
  | some ρ' => .ok .nx ρ'
  | none => .stuck
theorem cs_asgT {ι : Type} {J : Jd} {Xs : ι → Cx} {e tg : Expr} {f : Env → R XV} {pos : Pos} {ts : List Nat} {ft : D → Env → Option Env} (h : CE J Xs e f) (hg : CG J Xs tg ts ft)
    (hs : ∀ j, swapsWithSole [tg] e pos.line (Xs j).env = pure false := by intro _; rfl) (hw : ∀ j, swappedStores [tg] e (Xs j).env = pure none := by intro _; rfl)
    (h1 : ∀ j, (assignEach [tg] (Xs j).env).map (·.2) = [assign tg (Xs j).env] := by intro _; rfl) : CS J Xs (.Assign [tg] e pos) (asgT f ft) := by
  obtain ⟨t, t1, t2⟩ := h
  obtain ⟨u, u1, u2⟩ := hg
  refine ⟨tAsg t u, fun j G => ps_asg (t1 j G) (u1 j G) (hs j) (hw j) (h1 j), fun W σ ρ H G E pk r h => ?_⟩
  refine t2.val W σ ρ H G _ pk r ((GotS.bind h).imp fun d ρ1 H1 G1 e1 r1 k v vk => ?_)
  cases z : ft d ρ1 with
  | none => rw [z] at k; exact k.elim
  | some ρ2 =>
    rw [z] at k
    exact u2 W σ ρ1 H1 G1 v d ρ2 _ pk r1 vk z fun σ' _ r2 => k σ' H1 G1 (Ge.refl _) r2
/-! ## the built-in classes that are asked for -/
def tyInt : IsiT := tyTab [("int", true), ("bool", true), ("str", false), ("NoneType", false), ("tuple", false), ("list", false)]
def tyBool : IsiT := tyTab [("int", false), ("bool", true), ("str", false), ("NoneType", false), ("tuple", false), ("list", false)]
def tyTuple : IsiT := tyTab [("int", false), ("bool", false), ("str", false), ("NoneType", false), ("tuple", true), ("list", false)]
def tyList : IsiT := tyTab [("int", false), ("bool", false), ("str", false), ("NoneType", false), ("tuple", false), ("list", true)]
def tyStr : IsiT := tyTab [("int", false), ("bool", false), ("str", true), ("NoneType", false), ("tuple", false), ("list", false)]
theorem tyInt_ok {C : Cst} : IsiOk C tyInt (.type "int") := tyTab_ok (by decide +kernel)
theorem tyBool_ok {C : Cst} : IsiOk C tyBool (.type "bool") := tyTab_ok (by decide +kernel)
theorem tyTuple_ok {C : Cst} : IsiOk C tyTuple (.type "tuple") := tyTab_ok (by decide +kernel)
theorem tyList_ok {C : Cst} : IsiOk C tyList (.type "list") := tyTab_ok (by decide +kernel)
theorem tyStr_ok {C : Cst} : IsiOk C tyStr (.type "str") := tyTab_ok (by decide +kernel)
theorem boot_tInt : bootBuiltins "int" = some (.type "int") := by decide +kernel
theorem boot_tBool : bootBuiltins "bool" = some (.type "bool") := by decide +kernel
theorem boot_tTuple : bootBuiltins "tuple" = some (.type "tuple") := by decide +kernel
theorem boot_tList : bootBuiltins "list" = some (.type "list") := by decide +kernel
theorem boot_tStr : bootBuiltins "str" = some (.type "str") := by decide +kernel
end DL
namespace DL
open PySem L2
namespace k23
/-! the walk of k23: printed by gen.py -/
def top (i : Nat) : Stmt := PySem.Challenge.pw_weighortrade_k23_great_scales.main.body.getD i (.Pass ⟨0, 0, 0, 0⟩)
def b_law_is (rec : FnM) : Env → R Out :=
    (seqS (iteS (truS (isiS tyTuple (getS 1))) (seqS (iteS (orT (notT (truS (isiS tyTuple (getS 0)))) (testS (op2S neD (callS lenD (consS (getS 0) nilS)) (callS lenD (consS (getS 1) nilS))))) (retS (constS (.bl false))) nextS)
    (retS (op2S eqD (lcS [2] (rangeI rg1 (consS (callS lenD (consS (getS 1) nilS)) nilS)) (nameT 2) (notT (truS (fnS rec (consS (op2S ixA (getS 0) (getS 2)) (consS (op2S ixA (getS 1) (getS 2)) nilS))))) (getS 2)) (lstS nilS)))) nextS)
    (seqS (iteS (testS (op2S isD (getS 1) (constS .non))) (retS (op2S isD (getS 0) (constS .non))) nextS)
    (seqS (iteS (testS (op2S isD (getS 1) (constS (.bl true)))) (retS (op2S isD (getS 0) (constS (.bl true)))) nextS)
    (seqS (iteS (testS (op2S isD (getS 1) (constS (.bl false)))) (retS (op2S isD (getS 0) (constS (.bl false)))) nextS)
    (seqS (iteS (truS (isiS tyStr (getS 1))) (retS (andS (isiS tyStr (getS 0)) (op2S eqD (getS 0) (getS 1)))) nextS)
    (retS (andS (isiS tyInt (getS 0)) (andS (notS (isiS tyBool (getS 0))) (op2S eqD (getS 0) (getS 1))))))))))
def m_law_is : Nat → FnM
  | 0 => runF 2 1 [0, 1] neverS
  | k + 1 => runF 2 1 [0, 1] (b_law_is (m_law_is k))
def b_law_sums : Env → R Out :=
    (seqS (asgS 1 (dispS [.inl 0] (consP (constS (.int 1)) nilP)))
    (seqS (overS 0 (forL [2, 3, 4] (nameT 2) (seqS (asgS 3 newDS)
    (seqS (keysS 1 (forL [4] (nameT 4) (seqS (itemS 3 (op2S addD (dget2S (getS 3) (getS 4) (constS (.int 0))) (op2S ixA (getS 1) (getS 4))) (getS 4))
    (itemS 3 (op2S addD (dget2S (getS 3) (op2S addD (getS 4) (getS 2)) (constS (.int 0))) (op2S ixA (getS 1) (getS 4))) (op2S addD (getS 4) (getS 2))))))
    (moveS 1 3)))))
    (retS (getS 1))))
def m_law_sums : FnM := runF 1 4 [0] b_law_sums
def b_law_draw : Env → R Out :=
    (seqS (itemS 0 (op2S addD (op2S ixA (getS 0) (constS (.str "count"))) (constS (.int 1))) (constS (.str "count")))
    (seqS (iteS (andT (testS (op2S eqD (op2S ixA (getS 0) (constS (.str "digits"))) (constS (.int 0)))) (testS (op2S ltD (op2S ixA (getS 0) (constS (.str "at"))) (callS lenD (consS (op2S ixA (getS 0) (constS (.str "cells"))) nilS))))) (seqS (asgS 3 (op2S ixA (op2S ixA (getS 0) (constS (.str "cells"))) (op2S ixA (getS 0) (constS (.str "at")))))
    (seqS (itemS 0 (op2S addD (op2S ixA (getS 0) (constS (.str "at"))) (constS (.int 1))) (constS (.str "at")))
    (iteS (testS (op2S geD (getS 3) (op2S powD (constS (.int 10)) (constS (.int 18))))) (itemS 0 (op2S subD (getS 3) (op2S powD (constS (.int 10)) (constS (.int 18)))) (constS (.str "digits"))) (itemS 0 (op2S modD (callS intL (consS (op2S addD (op2S mulD (op2S ixA (getS 0) (constS (.str "fold"))) (constS (.int 69069))) (getS 3)) nilS)) (constS (.int 2147483587))) (constS (.str "fold")))))) nextS)
    (seqS (iteS (testS (op2S gtD (op2S ixA (getS 0) (constS (.str "digits"))) (constS (.int 0)))) (seqS (asgS 4 (op2S modD (callS intL (consS (op2S ixA (getS 0) (constS (.str "digits"))) nilS)) (getS 1)))
    (seqS (itemS 0 (op2S fdivD (op2S ixA (getS 0) (constS (.str "digits"))) (getS 1)) (constS (.str "digits")))
    (retS (getS 4)))) nextS)
    (seqS (asgS 2 (op2S modD (callS intL (consS (op2S addD (op2S addD (op2S mulD (op2S ixA (getS 0) (constS (.str "fold"))) (constS (.int 48271))) (op2S mulD (op2S ixA (getS 0) (constS (.str "count"))) (constS (.int 7919)))) (constS (.int 13))) nilS)) (constS (.int 2147483647))))
    (seqS (asgS 2 (op2S modD (callS intL (consS (op2S addD (op2S addD (op2S mulD (getS 2) (getS 2)) (op2S mulD (constS (.int 31)) (getS 2))) (op2S ixA (getS 0) (constS (.str "count")))) nilS)) (constS (.int 2147483629))))
    (seqS (itemS 0 (op2S modD (callS intL (consS (op2S addD (op2S mulD (getS 2) (constS (.int 16807))) (constS (.int 7))) nilS)) (constS (.int 2147483647))) (constS (.str "fold")))
    (retS (op2S modD (callS intL (consS (op2S fdivD (getS 2) (constS (.int 64))) nilS)) (getS 1)))))))))
def m_law_draw : FnM := runF 2 3 [0, 1] b_law_draw
def b_taken_out : Env → R Out :=
    (seqS (iteS (testS (op2S eqD (getS 1) (constS (.int 0)))) (retS (overS 0 (lcR [4] (nameT 4) yesT (op2S fdivD (getS 4) (constS (.int 2)))))) nextS)
    (seqS (asgS 2 (lstS nilS))
    (seqS (forS [3] (rangeI enumL (consD (getS 0) nilS)) (tupT 2 (consT (nameT 3) (consT (nameT 4) nilT))) (dropS (methS appendD 2 (consD (op2S subD (getS 4) (ifS (testS (op2S geD (getS 3) (getS 1))) (op2S ixA (getS 2) (op2S subD (getS 3) (getS 1))) (constS (.int 0)))) nilS))))
    (retS (getS 2)))))
def m_taken_out : FnM := runF 2 3 [0, 1] b_taken_out
def b_swings_of : Env → R Out :=
    (retS (ifS (testS (op2S gtD (getS 1) (constS (.int 0)))) (callS sumL (consS (sliceS (getS 0) (someP (callS max2 (consS (constS (.int 0)) (consS (op2S subD (callS lenD (consS (getS 0) nilS)) (getS 1)) nilS)))) noP) nilS)) (constS (.int 0))))
def m_swings_of : FnM := runF 2 0 [0, 1] b_swings_of
def b_put_in : Env → R Out :=
    (retS (lcS [2, 3] (rangeI enumL (consD (getS 0) nilS)) (tupT 2 (consT (nameT 2) (consT (nameT 3) nilT))) yesT (op2S addD (getS 3) (ifS (testS (op2S geD (getS 2) (getS 1))) (op2S ixA (getS 0) (op2S subD (getS 2) (getS 1))) (constS (.int 0))))))
def m_put_in : FnM := runF 2 2 [0, 1] b_put_in
def b_all_counts : Env → R Out :=
    (seqS (asgS 1 (op2S addD (lstS (consD (constS (.int 1)) nilS)) (op2S mulD (lstS (consD (constS (.int 0)) nilS)) (op2S subD (fldS ["Scale"] "quota" (getS 0)) (constS (.int 1))))))
    (seqS (forS [2] (inV_ (fldS ["Scale"] "weights" (getS 0)) itV) (nameT 2) (asgS 1 (fnS m_put_in (consS (getS 1) (consS (getS 2) nilS)))))
    (retS (getS 1))))
def m_all_counts : FnM := runF 1 2 [0] b_all_counts
def b_scale_swings : Env → R Out :=
    (seqS (asgS 1 (fnS m_all_counts (consS (getS 0) nilS)))
    (retS (callS tupL (consS (lcS [2] (inV_ (fldS ["Scale"] "weights" (getS 0)) itV) (nameT 2) yesT (fnS m_swings_of (consS (fnS m_taken_out (consS (getS 1) (consS (getS 2) nilS))) (consS (getS 2) nilS)))) nilS))))
def m_scale_swings : FnM := runF 1 2 [0] b_scale_swings
def b_weight_counts : Env → R Out :=
    (retS (callS tupL (consS (fnS m_all_counts (consS (getS 0) nilS)) nilS)))
def m_weight_counts : FnM := runF 1 0 [0] b_weight_counts
def b_power : Env → R Out :=
    (seqS (asgS 2 (constS (.int 1)))
    (seqS (forS [3] (rangeI rg1 (consS (getS 1) nilS)) (nameT 3) (asgS 2 (op2S mulD (getS 2) (getS 0))))
    (retS (getS 2))))
def m_power : FnM := runF 2 2 [0, 1] b_power
def b_scale_carrying : Env → R Out :=
    (retS (op2S subD (fnS m_power (consS (constS (.int 2)) (consS (callS lenD (consS (fldS ["Scale"] "weights" (getS 0)) nilS)) nilS))) (callS sumL (consS (fnS m_all_counts (consS (getS 0) nilS)) nilS))))
def m_scale_carrying : FnM := runF 1 0 [0] b_scale_carrying
def b_is_whole : Env → R Out :=
    (retS (andS (isiS tyInt (getS 0)) (notS (isiS tyBool (getS 0)))))
def m_is_whole : FnM := runF 1 0 [0] b_is_whole
def b_is_number : Env → R Out :=
    (retS (andS (fnS m_is_whole (consS (getS 0) nilS)) (op2S geD (getS 0) (constS (.int 0)))))
def m_is_number : FnM := runF 1 0 [0] b_is_number
def b_Scale_init : Env → R Out :=
    (seqS (iteS (orT (notT (truS (isi2S tyList tyTuple (getS 1)))) (notT (testS (chainS leD leD (constS (.int 1)) (callS lenD (consS (getS 1) nilS)) (constS (.int 60)))))) neverS nextS)
    (seqS (iteS (notT (truS (callS allL (consS (overS 1 (lcR [3] (nameT 3) yesT (fnS m_is_number (consS (getS 3) nilS)))) nilS)))) neverS nextS)
    (seqS (iteS (orT (notT (truS (fnS m_is_whole (consS (getS 2) nilS)))) (testS (op2S ltD (getS 2) (constS (.int 1))))) neverS nextS)
    (seqS (setFldS ["Scale"] 0 "weights" (callS tupL (consS (getS 1) nilS)))
    (setFldS ["Scale"] 0 "quota" (getS 2))))))
def m_Scale_init : FnM := runF 3 1 [0, 1, 2] b_Scale_init
def b_law_times : Env → R Out :=
    (seqS (asgS 1 (constS (.int 1)))
    (seqS (forS [2] (rangeI rg2 (consS (constS (.int 1)) (consS (op2S addD (getS 0) (constS (.int 1))) nilS))) (nameT 2) (asgS 1 (op2S mulD (getS 1) (getS 2))))
    (retS (getS 1))))
def m_law_times : FnM := runF 1 2 [0] b_law_times
def b_out_by_size : Env → R Out :=
    (seqS (asgS 2 (lstS (consD (op2S ixA (getS 0) (constS (.int 0))) nilS)))
    (seqS (forS [3, 4, 5, 6, 7] (rangeI rg2 (consS (constS (.int 1)) (consS (op2S subD (callS lenD (consS (getS 0) nilS)) (constS (.int 1))) nilS))) (nameT 3) (seqS (asgS 4 (op2S ixA (getS 2) (op2S subD (getS 3) (constS (.int 1)))))
    (seqS (asgS 5 (op2S addD (op2S mulD (lstS (consD (constS (.int 0)) nilS)) (callS min2 (consS (getS 1) (consS (callS lenD (consS (getS 4) nilS)) nilS)))) (sliceS (getS 4) noP (someP (callS max2 (consS (constS (.int 0)) (consS (op2S subD (callS lenD (consS (getS 4) nilS)) (getS 1)) nilS)))))))
    (dropS (methS appendD 2 (consD (lcS [6, 7] (rangeI zipL (consD (op2S ixA (getS 0) (getS 3)) (consD (getS 5) nilS))) (tupT 2 (consT (nameT 6) (consT (nameT 7) nilT))) yesT (op2S subD (getS 6) (getS 7))) nilS))))))
    (retS (getS 2))))
def m_out_by_size : FnM := runF 2 6 [0, 1] b_out_by_size
def b_put_by_size : Env → R Out :=
    (seqS (asgS 2 (lstS (consD (op2S ixA (getS 0) (constS (.int 0))) nilS)))
    (seqS (forS [3, 4, 5, 6, 7, 8] (rangeI rg2 (consS (constS (.int 1)) (consS (op2S addD (callS lenD (consS (getS 0) nilS)) (constS (.int 1))) nilS))) (nameT 3) (seqS (asgS 4 (op2S ixA (getS 0) (op2S subD (getS 3) (constS (.int 1)))))
    (seqS (asgS 5 (op2S addD (op2S mulD (lstS (consD (constS (.int 0)) nilS)) (callS min2 (consS (getS 1) (consS (callS lenD (consS (getS 4) nilS)) nilS)))) (sliceS (getS 4) noP (someP (callS max2 (consS (constS (.int 0)) (consS (op2S subD (callS lenD (consS (getS 4) nilS)) (getS 1)) nilS)))))))
    (seqS (asgS 6 (ifS (testS (op2S ltD (getS 3) (callS lenD (consS (getS 0) nilS)))) (op2S ixA (getS 0) (getS 3)) (op2S mulD (lstS (consD (constS (.int 0)) nilS)) (callS lenD (consS (getS 4) nilS)))))
    (dropS (methS appendD 2 (consD (lcS [7, 8] (rangeI zipL (consD (getS 6) (consD (getS 5) nilS))) (tupT 2 (consT (nameT 7) (consT (nameT 8) nilT))) yesT (op2S addD (getS 7) (getS 8))) nilS)))))))
    (retS (getS 2))))
def m_put_by_size : FnM := runF 2 7 [0, 1] b_put_by_size
def b_scale_pivots : Env → R Out :=
    (seqS (par2S 1 2 (callS lenD (consS (fldS ["Scale"] "weights" (getS 0)) nilS)) (lstS (consD (op2S addD (lstS (consD (constS (.int 1)) nilS)) (op2S mulD (lstS (consD (constS (.int 0)) nilS)) (op2S subD (fldS ["Scale"] "quota" (getS 0)) (constS (.int 1))))) nilS)))
    (seqS (forS [] (inV_ (fldS ["Scale"] "weights" (getS 0)) itV) (nameT 3) (asgS 2 (fnS m_put_by_size (consS (getS 2) (consS (getS 3) nilS)))))
    (seqS (asgS 4 newDS)
    (seqS (forS [] (inV_ (fldS ["Scale"] "weights" (getS 0)) itV) (nameT 3) (iteS (testS (dinS true (getS 3) (getS 4))) (seqS (asgS 5 (constS (.int 0)))
    (seqS (forS [6, 7] (rangeI enumL (consD (fnS m_out_by_size (consS (getS 2) (consS (getS 3) nilS))) nilS)) (tupT 2 (consT (nameT 6) (consT (nameT 7) nilT))) (asgS 5 (op2S addD (getS 5) (op2S mulD (op2S mulD (fnS m_swings_of (consS (getS 7) (consS (getS 3) nilS))) (callS facL (consS (getS 6) nilS))) (callS facL (consS (op2S subD (op2S subD (getS 1) (getS 6)) (constS (.int 1))) nilS))))))
    (itemS 4 (getS 5) (getS 3)))) nextS))
    (retS (callS tupL (consS (lcS [3] (inV_ (fldS ["Scale"] "weights" (getS 0)) itV) (nameT 3) yesT (op2S ixA (getS 4) (getS 3))) nilS)))))))
def m_scale_pivots : FnM := runF 1 7 [0] b_scale_pivots
def b_law_choose : Env → R Out :=
    (retS (ifS (testS (chainS leD leD (constS (.int 0)) (getS 1) (getS 0))) (op2S fdivD (fnS m_law_times (consS (getS 0) nilS)) (op2S mulD (fnS m_law_times (consS (getS 1) nilS)) (fnS m_law_times (consS (op2S subD (getS 0) (getS 1)) nilS)))) (constS (.int 0))))
def m_law_choose : FnM := runF 2 0 [0, 1] b_law_choose
def b_law_equal_right : Env → R Out :=
    (seqS (asgT (tupS (consD (op2S addD (constS (.int 2)) (fnS m_law_draw (consS (getS 0) (consS (constS (.int 59)) nilS)))) (consD (op2S addD (constS (.int 1)) (fnS m_law_draw (consS (getS 0) (consS (constS (.int 30)) nilS)))) nilS))) (tupT 2 (consT (nameT 1) (consT (nameT 2) nilT))))
    (seqS (asgS 3 (op2S addD (constS (.int 1)) (fnS m_law_draw (consS (getS 0) (consS (getS 1) nilS)))))
    (seqS (asgS 4 (makeS "Scale" m_Scale_init (consS (op2S mulD (tupS (consD (getS 2) nilS)) (getS 1)) (consS (op2S subD (op2S mulD (getS 2) (getS 3)) (fnS m_law_draw (consS (getS 0) (consS (getS 2) nilS)))) nilS))))
    (seqS (iteS (notT (truS (fnS (m_law_is 4) (consS (fnS m_scale_carrying (consS (getS 4) nilS)) (consS (callS sumL (consS (lcS [5] (rangeI rg2 (consS (getS 3) (consS (op2S addD (getS 1) (constS (.int 1))) nilS))) (nameT 5) yesT (fnS m_law_choose (consS (getS 1) (consS (getS 5) nilS)))) nilS)) nilS))))) (retS (constS (.bl false))) nextS)
    (seqS (iteS (notT (truS (fnS (m_law_is 4) (consS (fnS m_scale_swings (consS (getS 4) nilS)) (consS (op2S mulD (tupS (consD (fnS m_law_choose (consS (op2S subD (getS 1) (constS (.int 1))) (consS (op2S subD (getS 3) (constS (.int 1))) nilS))) nilS)) (getS 1)) nilS))))) (retS (constS (.bl false))) nextS)
    (retS (fnS (m_law_is 4) (consS (fnS m_scale_pivots (consS (getS 4) nilS)) (consS (op2S mulD (tupS (consD (fnS m_law_times (consS (op2S subD (getS 1) (constS (.int 1))) nilS)) nilS)) (getS 1)) nilS)))))))))
def m_law_equal_right : FnM := runF 1 5 [0] b_law_equal_right
def b_law_heavy_right : Env → R Out :=
    (seqS (asgT (tupS (consD (op2S addD (constS (.int 2)) (fnS m_law_draw (consS (getS 0) (consS (constS (.int 50)) nilS)))) (consD (op2S addD (constS (.int 1)) (fnS m_law_draw (consS (getS 0) (consS (constS (.int 20)) nilS)))) nilS))) (tupT 2 (consT (nameT 1) (consT (nameT 2) nilT))))
    (seqS (asgS 3 (op2S addD (getS 2) (fnS m_law_draw (consS (getS 0) (consS (getS 1) nilS)))))
    (seqS (asgS 4 (makeS "Scale" m_Scale_init (consS (op2S addD (tupS (consD (getS 2) nilS)) (op2S mulD (tupS (consD (constS (.int 1)) nilS)) (getS 1))) (consS (getS 3) nilS))))
    (seqS (asgS 5 (lcS [11] (rangeI rg2 (consS (callS max2 (consS (constS (.int 0)) (consS (op2S subD (getS 3) (getS 2)) nilS))) (consS (op2S addD (callS min2 (consS (op2S subD (getS 3) (constS (.int 1))) (consS (getS 1) nilS))) (constS (.int 1))) nilS))) (nameT 11) yesT (fnS m_law_choose (consS (getS 1) (consS (getS 11) nilS)))))
    (seqS (asgS 6 (fnS m_scale_swings (consS (getS 4) nilS)))
    (seqS (asgS 7 (op2S addD (fnS m_law_choose (consS (op2S subD (getS 1) (constS (.int 1))) (consS (op2S subD (getS 3) (constS (.int 1))) nilS))) (fnS m_law_choose (consS (op2S subD (getS 1) (constS (.int 1))) (consS (op2S subD (op2S subD (getS 3) (getS 2)) (constS (.int 1))) nilS)))))
    (seqS (iteS (notT (truS (fnS (m_law_is 4) (consS (getS 6) (consS (op2S addD (tupS (consD (callS sumL (consS (getS 5) nilS)) nilS)) (op2S mulD (tupS (consD (getS 7) nilS)) (getS 1))) nilS))))) (retS (constS (.bl false))) nextS)
    (seqS (asgS 8 (callS lenD (consS (lcS [12] (rangeI rg1 (consS (op2S addD (getS 1) (constS (.int 1))) nilS)) (nameT 12) (testS (chainS leD ltD (op2S subD (getS 3) (getS 2)) (getS 12) (getS 3))) (getS 12)) nilS)))
    (seqS (asgS 9 (op2S mulD (fnS m_law_times (consS (getS 1) nilS)) (getS 8)))
    (seqS (asgS 10 (op2S subD (fnS m_law_times (consS (op2S addD (getS 1) (constS (.int 1))) nilS)) (getS 9)))
    (retS (fnS (m_law_is 4) (consS (fnS m_scale_pivots (consS (getS 4) nilS)) (consS (op2S addD (tupS (consD (getS 9) nilS)) (op2S mulD (tupS (consD (op2S fdivD (getS 10) (getS 1)) nilS)) (getS 1))) nilS))))))))))))))
def m_law_heavy_right : FnM := runF 1 12 [0] b_law_heavy_right
def b_law_pen : Env → R Out :=
    (seqS (asgS 1 (constS (.int 0)))
    (seqS (overS 0 (forL [2] (nameT 2) (asgS 1 (op2S modD (callS intL (consS (op2S addD (op2S mulD (getS 1) (constS (.int 47))) (getS 2)) nilS)) (constS (.int 1000000007))))))
    (retS (dispS [.inr "cells", .inr "at", .inr "digits", .inr "count", .inr "fold"] (consP (callS listL (consS (getS 0) nilS)) (consP (constS (.int 0)) (consP (constS (.int 0)) (consP (constS (.int 0)) (consP (getS 1) nilP)))))))))
def m_law_pen : FnM := runF 1 2 [0] b_law_pen
def b_law : Env → R Out :=
    (seqS (asgS 1 (fnS m_law_pen (consS (getS 0) nilS)))
    (seqS (iteS (orT (notT (truS (fnS m_law_equal_right (consS (getS 1) nilS)))) (notT (truS (fnS m_law_heavy_right (consS (getS 1) nilS))))) (retS (constS (.bl false))) nextS)
    (seqS (asgS 2 (lcS [7] (rangeI rg1 (consS (op2S addD (constS (.int 20)) (fnS m_law_draw (consS (getS 1) (consS (constS (.int 40)) nilS)))) nilS)) (nameT 7) yesT (fnS m_law_draw (consS (getS 1) (consS (constS (.int 60)) nilS)))))
    (seqS (asgS 3 (op2S addD (constS (.int 1)) (fnS m_law_draw (consS (getS 1) (consS (op2S addD (callS sumL (consS (getS 2) nilS)) (constS (.int 1))) nilS)))))
    (seqS (asgS 3 (callS min2 (consS (getS 3) (consS (constS (.int 1500)) nilS))))
    (seqS (asgS 4 (fnS m_law_sums (consS (getS 2) nilS)))
    (seqS (asgS 5 (makeS "Scale" m_Scale_init (consS (getS 2) (consS (getS 3) nilS))))
    (seqS (iteS (notT (truS (fnS (m_law_is 4) (consS (fnS m_scale_carrying (consS (getS 5) nilS)) (consS (callS sumL (consS (keysS 4 (lcR [10] (nameT 10) (testS (op2S geD (getS 10) (getS 3))) (op2S ixA (getS 4) (getS 10)))) nilS)) nilS))))) (retS (constS (.bl false))) nextS)
    (seqS (iteS (notT (truS (fnS (m_law_is 4) (consS (fnS m_weight_counts (consS (getS 5) nilS)) (consS (callS tupL (consS (lcS [10] (rangeI rg1 (consS (getS 3) nilS)) (nameT 10) yesT (dget2S (getS 4) (getS 10) (constS (.int 0)))) nilS)) nilS))))) (retS (constS (.bl false))) nextS)
    (seqS (asgS 6 (fnS m_scale_swings (consS (getS 5) nilS)))
    (seqS (asgS 7 (fnS m_law_draw (consS (getS 1) (consS (callS lenD (consS (getS 2) nilS)) nilS))))
    (seqS (asgS 8 (fnS m_law_sums (consS (op2S addD (sliceS (getS 2) noP (someP (getS 7))) (sliceS (getS 2) (someP (op2S addD (getS 7) (constS (.int 1)))) noP)) nilS)))
    (seqS (asgS 9 (callS sumL (consS (keysS 8 (lcR [10] (nameT 10) (testS (chainS leD ltD (op2S subD (getS 3) (op2S ixA (getS 2) (getS 7))) (getS 10) (getS 3))) (op2S ixA (getS 8) (getS 10)))) nilS)))
    (retS (andS (op2S eqD (callS lenD (consS (getS 6) nilS)) (callS lenD (consS (getS 2) nilS))) (fnS (m_law_is 4) (consS (op2S ixA (getS 6) (getS 7)) (consS (getS 9) nilS))))))))))))))))))
def m_law : FnM := runF 1 10 [0] b_law
end k23
end DL
namespace DL
open PySem L2
namespace k23
structure Tx (C : Cst) (mg : Str → Option Value) where
  a_law_is : Addr
  fd_law_is : FuncData
  a_law_sums : Addr
  fd_law_sums : FuncData
  a_law_draw : Addr
  fd_law_draw : FuncData
  a_taken_out : Addr
  fd_taken_out : FuncData
  a_swings_of : Addr
  fd_swings_of : FuncData
  a_put_in : Addr
  fd_put_in : FuncData
  a_all_counts : Addr
  fd_all_counts : FuncData
  a_scale_swings : Addr
  fd_scale_swings : FuncData
  a_weight_counts : Addr
  fd_weight_counts : FuncData
  a_power : Addr
  fd_power : FuncData
  a_scale_carrying : Addr
  fd_scale_carrying : FuncData
  a_is_whole : Addr
  fd_is_whole : FuncData
  a_is_number : Addr
  fd_is_number : FuncData
  a_Scale_init : Addr
  fd_Scale_init : FuncData
  a_law_times : Addr
  fd_law_times : FuncData
  a_out_by_size : Addr
  fd_out_by_size : FuncData
  a_put_by_size : Addr
  fd_put_by_size : FuncData
  a_scale_pivots : Addr
  fd_scale_pivots : FuncData
  a_law_choose : Addr
  fd_law_choose : FuncData
  a_law_equal_right : Addr
  fd_law_equal_right : FuncData
  a_law_heavy_right : Addr
  fd_law_heavy_right : FuncData
  a_law_pen : Addr
  fd_law_pen : FuncData
  a_law : Addr
  fd_law : FuncData
  z_len : mg "len" = none
  z_isinstance : mg "isinstance" = none
  z_int : mg "int" = none
  z_bool : mg "bool" = none
  z_str : mg "str" = none
  z_tuple : mg "tuple" = none
  z_range : mg "range" = none
  m_law_is : mg "_law_is" = some (.ref a_law_is)
  F_law_is : Fun C.K "_law_is" "_law_is" (top 25) a_law_is fd_law_is
  b_law_is : Binds C.K fd_law_is ["told", "due"] []
  z_sum : mg "sum" = none
  m_law_sums : mg "_law_sums" = some (.ref a_law_sums)
  F_law_sums : Fun C.K "_law_sums" "_law_sums" (top 28) a_law_sums fd_law_sums
  b_law_sums : Binds C.K fd_law_sums ["weights"] []
  m_law_draw : mg "_law_draw" = some (.ref a_law_draw)
  F_law_draw : Fun C.K "_law_draw" "_law_draw" (top 24) a_law_draw fd_law_draw
  b_law_draw : Binds C.K fd_law_draw ["pen", "many"] []
  n_weights : ∀ c ∈ (["Scale"] : List String), Cls C.K (C.CA c) ∧ NoAttr C.K (C.CA c) "weights"
  z_enumerate : mg "enumerate" = none
  m_taken_out : mg "taken_out" = some (.ref a_taken_out)
  F_taken_out : Fun C.K "taken_out" "taken_out" (top 13) a_taken_out fd_taken_out
  b_taken_out : Binds C.K fd_taken_out ["row", "weight"] []
  z_max : mg "max" = none
  m_swings_of : mg "swings_of" = some (.ref a_swings_of)
  F_swings_of : Fun C.K "swings_of" "swings_of" (top 17) a_swings_of fd_swings_of
  b_swings_of : Binds C.K fd_swings_of ["row", "weight"] []
  m_put_in : mg "put_in" = some (.ref a_put_in)
  F_put_in : Fun C.K "put_in" "put_in" (top 12) a_put_in fd_put_in
  b_put_in : Binds C.K fd_put_in ["row", "weight"] []
  n_quota : ∀ c ∈ (["Scale"] : List String), Cls C.K (C.CA c) ∧ NoAttr C.K (C.CA c) "quota"
  m_all_counts : mg "all_counts" = some (.ref a_all_counts)
  F_all_counts : Fun C.K "all_counts" "all_counts" (top 14) a_all_counts fd_all_counts
  b_all_counts : Binds C.K fd_all_counts ["scale"] []
  m_scale_swings : mg "scale_swings" = some (.ref a_scale_swings)
  F_scale_swings : Fun C.K "scale_swings" "scale_swings" (top 18) a_scale_swings fd_scale_swings
  b_scale_swings : Binds C.K fd_scale_swings ["scale"] []
  m_weight_counts : mg "weight_counts" = some (.ref a_weight_counts)
  F_weight_counts : Fun C.K "weight_counts" "weight_counts" (top 15) a_weight_counts fd_weight_counts
  b_weight_counts : Binds C.K fd_weight_counts ["scale"] []
  m_power : mg "power" = some (.ref a_power)
  F_power : Fun C.K "power" "power" (top 9) a_power fd_power
  b_power : Binds C.K fd_power ["number", "often"] []
  m_scale_carrying : mg "scale_carrying" = some (.ref a_scale_carrying)
  F_scale_carrying : Fun C.K "scale_carrying" "scale_carrying" (top 16) a_scale_carrying fd_scale_carrying
  b_scale_carrying : Binds C.K fd_scale_carrying ["scale"] []
  m_is_whole : mg "is_whole" = some (.ref a_is_whole)
  F_is_whole : Fun C.K "is_whole" "is_whole" (top 6) a_is_whole fd_is_whole
  b_is_whole : Binds C.K fd_is_whole ["value"] []
  m_is_number : mg "is_number" = some (.ref a_is_number)
  F_is_number : Fun C.K "is_number" "is_number" (top 7) a_is_number fd_is_number
  b_is_number : Binds C.K fd_is_number ["value"] []
  z_all : mg "all" = none
  z_list : mg "list" = none
  F_Scale_init : Fun C.K "__init__" "Scale.__init__" (inClass (top 11) 0) a_Scale_init fd_Scale_init
  b_Scale_init : Binds C.K fd_Scale_init ["self", "weights", "quota"] []
  M_Scale : Mk C.K (C.CA "Scale") a_Scale_init
  m_Scale : mg "Scale" = some (.ref (C.CA "Scale"))
  z_min : mg "min" = none
  m_law_times : mg "_law_times" = some (.ref a_law_times)
  F_law_times : Fun C.K "_law_times" "_law_times" (top 26) a_law_times fd_law_times
  b_law_times : Binds C.K fd_law_times ["many"] []
  z_zip : mg "zip" = none
  m_out_by_size : mg "out_by_size" = some (.ref a_out_by_size)
  F_out_by_size : Fun C.K "out_by_size" "out_by_size" (top 20) a_out_by_size fd_out_by_size
  b_out_by_size : Binds C.K fd_out_by_size ["rows", "weight"] []
  z_factorial : mg "factorial" = some (.builtin "math.factorial")
  m_put_by_size : mg "put_by_size" = some (.ref a_put_by_size)
  F_put_by_size : Fun C.K "put_by_size" "put_by_size" (top 19) a_put_by_size fd_put_by_size
  b_put_by_size : Binds C.K fd_put_by_size ["rows", "weight"] []
  m_scale_pivots : mg "scale_pivots" = some (.ref a_scale_pivots)
  F_scale_pivots : Fun C.K "scale_pivots" "scale_pivots" (top 21) a_scale_pivots fd_scale_pivots
  b_scale_pivots : Binds C.K fd_scale_pivots ["scale"] []
  m_law_choose : mg "_law_choose" = some (.ref a_law_choose)
  F_law_choose : Fun C.K "_law_choose" "_law_choose" (top 27) a_law_choose fd_law_choose
  b_law_choose : Binds C.K fd_law_choose ["many", "some"] []
  m_law_equal_right : mg "_law_equal_right" = some (.ref a_law_equal_right)
  F_law_equal_right : Fun C.K "_law_equal_right" "_law_equal_right" (top 29) a_law_equal_right fd_law_equal_right
  b_law_equal_right : Binds C.K fd_law_equal_right ["pen"] []
  m_law_heavy_right : mg "_law_heavy_right" = some (.ref a_law_heavy_right)
  F_law_heavy_right : Fun C.K "_law_heavy_right" "_law_heavy_right" (top 30) a_law_heavy_right fd_law_heavy_right
  b_law_heavy_right : Binds C.K fd_law_heavy_right ["pen"] []
  m_law_pen : mg "_law_pen" = some (.ref a_law_pen)
  F_law_pen : Fun C.K "_law_pen" "_law_pen" (top 23) a_law_pen fd_law_pen
  b_law_pen : Binds C.K fd_law_pen ["script"] []
  m_law : mg "law" = some (.ref a_law)
  F_law : Fun C.K "law" "law" (top 31) a_law fd_law
  b_law : Binds C.K fd_law ["script"] []
section
variable {P : Program} {w : World} {C : Cst} {mg : Str → Option Value} {base : Heap}
theorem sc_law_is : FnScope ["told", "due", "at"] ["told", "due"] (defScope (top 25)) := ⟨rfl, rfl, rfl, by decide +kernel, rfl, by decide +kernel, by decide +kernel⟩
theorem ok_law_is (T : Tx C mg) : ∀ n : Nat, FnOk P w C.K mg base (L2.CX P w) (1 + n) T.a_law_is T.fd_law_is ["told", "due"] (spF C 2 (m_law_is n))
  | 0 => fn_ok T.F_law_is sc_law_is rfl rfl fun cdv A outer s H E => css_never
  | n + 1 => by
    have R : FnOk P w C.K mg base (L2.CX P w) (1 + n) T.a_law_is T.fd_law_is ["told", "due"] (spF C 2 (m_law_is n)) := ok_law_is T n
    refine fn_ok T.F_law_is sc_law_is rfl rfl fun cdv A outer s H E => ?_
    exact (css_cons (cs_if (ct_tru (ce_isi tyTuple tyTuple_ok (.ty "tuple") (fun _ => T.z_isinstance) (ce_var 1) (fun _ _ => pe_tyN T.z_tuple boot_tTuple))) (css_cons (cs_if (CW.ct (cw_or (ct_not (ct_tru (ce_isi tyTuple tyTuple_ok (.ty "tuple") (fun _ => T.z_isinstance) (ce_var 0) (fun _ _ => pe_tyN T.z_tuple boot_tTuple)))) (cw_or1 (ct_cmp ok_ne neD_ok (ce_len (hm := (fun _ => T.z_len)) (ha := (ca_cons (ce_var 0) ca_nil))) (ce_len (hm := (fun _ => T.z_len)) (ha := (ca_cons (ce_var 1) ca_nil))) (nomark _))))) (css_one (cs_ret ce_bl)) css_nil)
    (css_one (cs_ret (ce_cmp ok_eq eqD_ok (ce_lc (ci_range1 (fun _ => T.z_range) (ca_cons (ce_len (hm := (fun _ => T.z_len)) (ha := (ca_cons (ce_var 1) ca_nil))) ca_nil)) (fun _ => (BlkOk.mk rfl (by decide +kernel) (by decide +kernel) (by decide +kernel) (by decide +kernel) : BlkOk ["told", "due", "at"] (defScope (top 25)) _ [("at", 2)])) (cg_name (j := 2) (by decide : (2 : Nat) ∉ ([0, 1] : List Nat))) (cts_one (ct_not (ct_tru (ce_fn (fun _ => R) (fun _ => T.m_law_is) T.F_law_is.kp T.b_law_is (ca_cons (ce_ix (ce_var 0) (ce_var 2)) (ca_cons (ce_ix (ce_var 1) (ce_var 2)) ca_nil)) (LenA.cons (LenA.cons LenA.nil)))))) (ce_var 2) rfl (by decide : ∀ j ∈ ([2] : List Nat), j ∈ ([2] : List Nat)) (by decide : ∀ j ∈ ([2] : List Nat), j ∉ ([0, 1] : List Nat))) (ce_lst ca_nil) (nomark _))))) css_nil)
    (css_cons (cs_if (ct_cmp ok_is isD_ok (ce_var 1) ce_non (nomark _)) (css_one (cs_ret (ce_cmp ok_is isD_ok (ce_var 0) ce_non (nomark _)))) css_nil)
    (css_cons (cs_if (ct_cmp ok_is isD_ok (ce_var 1) ce_bl (nomark _)) (css_one (cs_ret (ce_cmp ok_is isD_ok (ce_var 0) ce_bl (nomark _)))) css_nil)
    (css_cons (cs_if (ct_cmp ok_is isD_ok (ce_var 1) ce_bl (nomark _)) (css_one (cs_ret (ce_cmp ok_is isD_ok (ce_var 0) ce_bl (nomark _)))) css_nil)
    (css_cons (cs_if (ct_tru (ce_isi tyStr tyStr_ok (.ty "str") (fun _ => T.z_isinstance) (ce_var 1) (fun _ _ => pe_tyN T.z_str boot_tStr))) (css_one (cs_ret (ce_and (ce_isi tyStr tyStr_ok (.ty "str") (fun _ => T.z_isinstance) (ce_var 0) (fun _ _ => pe_tyN T.z_str boot_tStr)) (ce_one (ce_cmp ok_eq eqD_ok (ce_var 0) (ce_var 1) (nomark _)))))) css_nil)
    (css_one (cs_ret (ce_and (ce_isi tyInt tyInt_ok (.ty "int") (fun _ => T.z_isinstance) (ce_var 0) (fun _ _ => pe_tyN T.z_int boot_tInt)) (ce_and (ce_not (ce_isi tyBool tyBool_ok (.ty "bool") (fun _ => T.z_isinstance) (ce_var 0) (fun _ _ => pe_tyN T.z_bool boot_tBool))) (ce_one (ce_cmp ok_eq eqD_ok (ce_var 0) (ce_var 1) (nomark _))))))))))))
theorem sc_law_sums : FnScope ["weights", "counts", "weight", "later", "total"] ["weights"] (defScope (top 28)) := ⟨rfl, rfl, rfl, by decide +kernel, rfl, by decide +kernel, by decide +kernel⟩
theorem ok_law_sums (T : Tx C mg) : FnOk P w C.K mg base (L2.CX P w) 1 T.a_law_sums T.fd_law_sums ["weights"] (spF C 1 m_law_sums) := by
  refine fn_ok T.F_law_sums sc_law_sums rfl rfl fun cdv A outer s H E => ?_
  exact (css_cons (cs_set (i := 1) (ce_disp (cdp_int ce_int cdp_nil)) (by decide : (1 : Nat) ∉ ([0] : List Nat)))
    (css_cons (cs_forB 0 (fg := [2, 3, 4]) (hg := (cg_name (j := 2) (by decide : (2 : Nat) ∉ ([0, 0] : List Nat)))) (hb := (css_cons (cs_set (i := 3) ce_dnew (by decide : (3 : Nat) ∉ ([0, 0] : List Nat)))
    (css_cons (cs_forK 1 (fg := [4]) (hg := (cg_name (j := 4) (by decide : (4 : Nat) ∉ ([1, 0, 0] : List Nat)))) (hb := (css_cons (cs_item 3 (ce_add (ce_dget2 (ce_var 3) (ce_var 4) ce_int) (ce_ix (ce_var 1) (ce_var 4))) (ce_var 4))
    (css_one (cs_item 3 (ce_add (ce_dget2 (ce_var 3) (ce_add (ce_var 4) (ce_var 2)) ce_int) (ce_ix (ce_var 1) (ce_var 4))) (ce_add (ce_var 4) (ce_var 2)))))))
    (css_one (cs_move 1 3 (by decide : (1 : Nat) ∉ ([0, 0] : List Nat))))))))
    (css_one (cs_ret (ce_var 1)))))
theorem sc_law_draw : FnScope ["pen", "many", "blend", "cell", "digit"] ["pen", "many"] (defScope (top 24)) := ⟨rfl, rfl, rfl, by decide +kernel, rfl, by decide +kernel, by decide +kernel⟩
theorem ok_law_draw (T : Tx C mg) : FnOk P w C.K mg base (L2.CX P w) 1 T.a_law_draw T.fd_law_draw ["pen", "many"] (spF C 2 m_law_draw) := by
  refine fn_ok T.F_law_draw sc_law_draw rfl rfl fun cdv A outer s H E => ?_
  exact (css_cons (cs_item 0 (ce_add (ce_ix (ce_var 0) ce_str) ce_int) ce_str)
    (css_cons (cs_if (CW.ct (cw_and (ct_cmp ok_eq eqD_ok (ce_ix (ce_var 0) ce_str) ce_int (nomark _)) (cw_and1 (ct_cmp ok_lt ltD_ok (ce_ix (ce_var 0) ce_str) (ce_len (hm := (fun _ => T.z_len)) (ha := (ca_cons (ce_ix (ce_var 0) ce_str) ca_nil))) (nomark _))))) (css_cons (cs_set (i := 3) (ce_ix (ce_ix (ce_var 0) ce_str) (ce_ix (ce_var 0) ce_str)) (by decide : (3 : Nat) ∉ ([0, 1] : List Nat)))
    (css_cons (cs_item 0 (ce_add (ce_ix (ce_var 0) ce_str) ce_int) ce_str)
    (css_one (cs_if (ct_cmp ok_ge geD_ok (ce_var 3) (ce_pow ce_int ce_int) (nomark _)) (css_one (cs_item 0 (ce_sub (ce_var 3) (ce_pow ce_int ce_int)) ce_str)) (css_one (cs_item 0 (ce_mod (ce_intOf (hm := (fun _ => T.z_int)) (ha := (ca_cons (ce_add (ce_mul (ce_ix (ce_var 0) ce_str) ce_int) (ce_var 3)) ca_nil))) ce_int) ce_str)))))) css_nil)
    (css_cons (cs_if (ct_cmp ok_gt gtD_ok (ce_ix (ce_var 0) ce_str) ce_int (nomark _)) (css_cons (cs_set (i := 4) (ce_mod (ce_intOf (hm := (fun _ => T.z_int)) (ha := (ca_cons (ce_ix (ce_var 0) ce_str) ca_nil))) (ce_var 1)) (by decide : (4 : Nat) ∉ ([0, 1] : List Nat)))
    (css_cons (cs_item 0 (ce_fdiv (ce_ix (ce_var 0) ce_str) (ce_var 1)) ce_str)
    (css_one (cs_ret (ce_var 4))))) css_nil)
    (css_cons (cs_set (i := 2) (ce_mod (ce_intOf (hm := (fun _ => T.z_int)) (ha := (ca_cons (ce_add (ce_add (ce_mul (ce_ix (ce_var 0) ce_str) ce_int) (ce_mul (ce_ix (ce_var 0) ce_str) ce_int)) ce_int) ca_nil))) ce_int) (by decide : (2 : Nat) ∉ ([0, 1] : List Nat)))
    (css_cons (cs_set (i := 2) (ce_mod (ce_intOf (hm := (fun _ => T.z_int)) (ha := (ca_cons (ce_add (ce_add (ce_mul (ce_var 2) (ce_var 2)) (ce_mul ce_int (ce_var 2))) (ce_ix (ce_var 0) ce_str)) ca_nil))) ce_int) (by decide : (2 : Nat) ∉ ([0, 1] : List Nat)))
    (css_cons (cs_item 0 (ce_mod (ce_intOf (hm := (fun _ => T.z_int)) (ha := (ca_cons (ce_add (ce_mul (ce_var 2) ce_int) ce_int) ca_nil))) ce_int) ce_str)
    (css_one (cs_ret (ce_mod (ce_intOf (hm := (fun _ => T.z_int)) (ha := (ca_cons (ce_fdiv (ce_var 2) ce_int) ca_nil))) (ce_var 1))))))))))
theorem sc_taken_out : FnScope ["row", "weight", "found", "at", "one"] ["row", "weight"] (defScope (top 13)) := ⟨rfl, rfl, rfl, by decide +kernel, rfl, by decide +kernel, by decide +kernel⟩
theorem ok_taken_out (T : Tx C mg) : FnOk P w C.K mg base (L2.CX P w) 1 T.a_taken_out T.fd_taken_out ["row", "weight"] (spF C 2 m_taken_out) := by
  refine fn_ok T.F_taken_out sc_taken_out rfl rfl fun cdv A outer s H E => ?_
  exact (css_cons (cs_if (ct_cmp ok_eq eqD_ok (ce_var 1) ce_int (nomark _)) (css_one (cs_ret (ce_lcB 0 (ok := (fun _ => (BlkOk.mk rfl (by decide +kernel) (by decide +kernel) (by decide +kernel) (by decide +kernel) : BlkOk ["row", "weight", "found", "at", "one"] (defScope (top 13)) _ [("one", 4)]))) (hg := (cg_name (j := 4) (by decide : (4 : Nat) ∉ ([0, 0, 1] : List Nat)))) (ht := cts_nil) (he := (ce_fdiv (ce_var 4) ce_int)) (hvs := rfl) (hts := (by decide : ∀ j ∈ ([4] : List Nat), j ∈ ([4] : List Nat))) (hP := (by decide : ∀ j ∈ ([4] : List Nat), j ∉ ([0, 0, 1] : List Nat)))))) css_nil)
    (css_cons (cs_set (i := 2) (ce_lst ca_nil) (by decide : (2 : Nat) ∉ ([0, 1] : List Nat)))
    (css_cons (cs_for [3] (ci_enum (fun _ => T.z_enumerate) (ca_consD (ce_var 0) ca_nil)) (cg_tup (n := 2) (cgs_cons (cg_name (j := 3) (by decide : (3 : Nat) ∉ ([0, 1] : List Nat))) (cgs_cons (cg_name (j := 4) (by decide : (4 : Nat) ∉ ([0, 1] : List Nat))) cgs_nil))) (css_one (cs_expr (ce_meth 2 append_ok PySem.F.slot_list_append PySem.F.type_list_append (fun _ => mt_append) (ca_consD (ce_sub (ce_var 4) (ce_ifExp (ct_cmp ok_ge geD_ok (ce_var 3) (ce_var 1) (nomark _)) (ce_ix (ce_var 2) (ce_sub (ce_var 3) (ce_var 1))) ce_int)) ca_nil)))))
    (css_one (cs_ret (ce_var 2))))))
theorem sc_swings_of : FnScope ["row", "weight"] ["row", "weight"] (defScope (top 17)) := ⟨rfl, rfl, rfl, by decide +kernel, rfl, by decide +kernel, by decide +kernel⟩
theorem ok_swings_of (T : Tx C mg) : FnOk P w C.K mg base (L2.CX P w) 1 T.a_swings_of T.fd_swings_of ["row", "weight"] (spF C 2 m_swings_of) := by
  refine fn_ok T.F_swings_of sc_swings_of rfl rfl fun cdv A outer s H E => ?_
  exact (css_one (cs_ret (ce_ifExp (ct_cmp ok_gt gtD_ok (ce_var 1) ce_int (nomark _)) (ce_sum (hm := (fun _ => T.z_sum)) (ha := (ca_cons (ce_slice (ce_var 0) (cp_some (ce_max2 (hm := (fun _ => T.z_max)) (ha := (ca_cons ce_int (ca_cons (ce_sub (ce_len (hm := (fun _ => T.z_len)) (ha := (ca_cons (ce_var 0) ca_nil))) (ce_var 1)) ca_nil))))) cp_none) ca_nil))) ce_int)))
theorem sc_put_in : FnScope ["row", "weight", "at", "one"] ["row", "weight"] (defScope (top 12)) := ⟨rfl, rfl, rfl, by decide +kernel, rfl, by decide +kernel, by decide +kernel⟩
theorem ok_put_in (T : Tx C mg) : FnOk P w C.K mg base (L2.CX P w) 1 T.a_put_in T.fd_put_in ["row", "weight"] (spF C 2 m_put_in) := by
  refine fn_ok T.F_put_in sc_put_in rfl rfl fun cdv A outer s H E => ?_
  exact (css_one (cs_ret (ce_lc (ci_enum (fun _ => T.z_enumerate) (ca_consD (ce_var 0) ca_nil)) (fun _ => (BlkOk.mk rfl (by decide +kernel) (by decide +kernel) (by decide +kernel) (by decide +kernel) : BlkOk ["row", "weight", "at", "one"] (defScope (top 12)) _ [("at", 2), ("one", 3)])) (cg_tup (n := 2) (cgs_cons (cg_name (j := 2) (by decide : (2 : Nat) ∉ ([0, 1] : List Nat))) (cgs_cons (cg_name (j := 3) (by decide : (3 : Nat) ∉ ([0, 1] : List Nat))) cgs_nil))) cts_nil (ce_add (ce_var 3) (ce_ifExp (ct_cmp ok_ge geD_ok (ce_var 2) (ce_var 1) (nomark _)) (ce_ix (ce_var 0) (ce_sub (ce_var 2) (ce_var 1))) ce_int)) rfl (by decide : ∀ j ∈ ([2, 3] : List Nat), j ∈ ([2, 3] : List Nat)) (by decide : ∀ j ∈ ([2, 3] : List Nat), j ∉ ([0, 1] : List Nat)))))
theorem sc_all_counts : FnScope ["scale", "row", "weight"] ["scale"] (defScope (top 14)) := ⟨rfl, rfl, rfl, by decide +kernel, rfl, by decide +kernel, by decide +kernel⟩
theorem ok_all_counts (T : Tx C mg) : FnOk P w C.K mg base (L2.CX P w) 2 T.a_all_counts T.fd_all_counts ["scale"] (spF C 1 m_all_counts) := by
  refine fn_ok T.F_all_counts sc_all_counts rfl rfl fun cdv A outer s H E => ?_
  exact (css_cons (cs_set (i := 1) (ce_add (ce_lst (ca_consD ce_int ca_nil)) (ce_mul (ce_lst (ca_consD ce_int ca_nil)) (ce_sub (ce_fld ["Scale"] T.n_quota (ce_var 0)) ce_int))) (by decide : (1 : Nat) ∉ ([0] : List Nat)))
    (css_cons (cs_for [2] (ci_val (ce_fld ["Scale"] T.n_weights (ce_var 0))) (cg_name (j := 2) (by decide : (2 : Nat) ∉ ([0] : List Nat))) (css_one (cs_set (i := 1) (ce_fn (fun _ => (ok_put_in T).mono (Nat.le_of_ble_eq_true rfl)) (fun _ => T.m_put_in) T.F_put_in.kp T.b_put_in (ca_cons (ce_var 1) (ca_cons (ce_var 2) ca_nil)) (LenA.cons (LenA.cons LenA.nil))) (by decide : (1 : Nat) ∉ ([0] : List Nat)))))
    (css_one (cs_ret (ce_var 1)))))
theorem sc_scale_swings : FnScope ["scale", "row", "weight"] ["scale"] (defScope (top 18)) := ⟨rfl, rfl, rfl, by decide +kernel, rfl, by decide +kernel, by decide +kernel⟩
theorem ok_scale_swings (T : Tx C mg) : FnOk P w C.K mg base (L2.CX P w) 3 T.a_scale_swings T.fd_scale_swings ["scale"] (spF C 1 m_scale_swings) := by
  refine fn_ok T.F_scale_swings sc_scale_swings rfl rfl fun cdv A outer s H E => ?_
  exact (css_cons (cs_set (i := 1) (ce_fn (fun _ => (ok_all_counts T).mono (Nat.le_of_ble_eq_true rfl)) (fun _ => T.m_all_counts) T.F_all_counts.kp T.b_all_counts (ca_cons (ce_var 0) ca_nil) (LenA.cons LenA.nil)) (by decide : (1 : Nat) ∉ ([0] : List Nat)))
    (css_one (cs_ret (ce_tuple (hm := (fun _ => T.z_tuple)) (ha := (ca_cons (ce_lc (ci_val (ce_fld ["Scale"] T.n_weights (ce_var 0))) (fun _ => (BlkOk.mk rfl (by decide +kernel) (by decide +kernel) (by decide +kernel) (by decide +kernel) : BlkOk ["scale", "row", "weight"] (defScope (top 18)) _ [("weight", 2)])) (cg_name (j := 2) (by decide : (2 : Nat) ∉ ([0] : List Nat))) cts_nil (ce_fn (fun _ => (ok_swings_of T).mono (Nat.le_of_ble_eq_true rfl)) (fun _ => T.m_swings_of) T.F_swings_of.kp T.b_swings_of (ca_cons (ce_fn (fun _ => (ok_taken_out T).mono (Nat.le_of_ble_eq_true rfl)) (fun _ => T.m_taken_out) T.F_taken_out.kp T.b_taken_out (ca_cons (ce_var 1) (ca_cons (ce_var 2) ca_nil)) (LenA.cons (LenA.cons LenA.nil))) (ca_cons (ce_var 2) ca_nil)) (LenA.cons (LenA.cons LenA.nil))) rfl (by decide : ∀ j ∈ ([2] : List Nat), j ∈ ([2] : List Nat)) (by decide : ∀ j ∈ ([2] : List Nat), j ∉ ([0] : List Nat))) ca_nil))))))
theorem sc_weight_counts : FnScope ["scale"] ["scale"] (defScope (top 15)) := ⟨rfl, rfl, rfl, by decide +kernel, rfl, by decide +kernel, by decide +kernel⟩
theorem ok_weight_counts (T : Tx C mg) : FnOk P w C.K mg base (L2.CX P w) 3 T.a_weight_counts T.fd_weight_counts ["scale"] (spF C 1 m_weight_counts) := by
  refine fn_ok T.F_weight_counts sc_weight_counts rfl rfl fun cdv A outer s H E => ?_
  exact (css_one (cs_ret (ce_tuple (hm := (fun _ => T.z_tuple)) (ha := (ca_cons (ce_fn (fun _ => (ok_all_counts T).mono (Nat.le_of_ble_eq_true rfl)) (fun _ => T.m_all_counts) T.F_all_counts.kp T.b_all_counts (ca_cons (ce_var 0) ca_nil) (LenA.cons LenA.nil)) ca_nil)))))
theorem sc_power : FnScope ["number", "often", "found", "lap"] ["number", "often"] (defScope (top 9)) := ⟨rfl, rfl, rfl, by decide +kernel, rfl, by decide +kernel, by decide +kernel⟩
theorem ok_power (T : Tx C mg) : FnOk P w C.K mg base (L2.CX P w) 1 T.a_power T.fd_power ["number", "often"] (spF C 2 m_power) := by
  refine fn_ok T.F_power sc_power rfl rfl fun cdv A outer s H E => ?_
  exact (css_cons (cs_set (i := 2) ce_int (by decide : (2 : Nat) ∉ ([0, 1] : List Nat)))
    (css_cons (cs_for [3] (ci_range1 (fun _ => T.z_range) (ca_cons (ce_var 1) ca_nil)) (cg_name (j := 3) (by decide : (3 : Nat) ∉ ([0, 1] : List Nat))) (css_one (cs_set (i := 2) (ce_mul (ce_var 2) (ce_var 0)) (by decide : (2 : Nat) ∉ ([0, 1] : List Nat)))))
    (css_one (cs_ret (ce_var 2)))))
theorem sc_scale_carrying : FnScope ["scale"] ["scale"] (defScope (top 16)) := ⟨rfl, rfl, rfl, by decide +kernel, rfl, by decide +kernel, by decide +kernel⟩
theorem ok_scale_carrying (T : Tx C mg) : FnOk P w C.K mg base (L2.CX P w) 3 T.a_scale_carrying T.fd_scale_carrying ["scale"] (spF C 1 m_scale_carrying) := by
  refine fn_ok T.F_scale_carrying sc_scale_carrying rfl rfl fun cdv A outer s H E => ?_
  exact (css_one (cs_ret (ce_sub (ce_fn (fun _ => (ok_power T).mono (Nat.le_of_ble_eq_true rfl)) (fun _ => T.m_power) T.F_power.kp T.b_power (ca_cons ce_int (ca_cons (ce_len (hm := (fun _ => T.z_len)) (ha := (ca_cons (ce_fld ["Scale"] T.n_weights (ce_var 0)) ca_nil))) ca_nil)) (LenA.cons (LenA.cons LenA.nil))) (ce_sum (hm := (fun _ => T.z_sum)) (ha := (ca_cons (ce_fn (fun _ => (ok_all_counts T).mono (Nat.le_of_ble_eq_true rfl)) (fun _ => T.m_all_counts) T.F_all_counts.kp T.b_all_counts (ca_cons (ce_var 0) ca_nil) (LenA.cons LenA.nil)) ca_nil))))))
theorem sc_is_whole : FnScope ["value"] ["value"] (defScope (top 6)) := ⟨rfl, rfl, rfl, by decide +kernel, rfl, by decide +kernel, by decide +kernel⟩
theorem ok_is_whole (T : Tx C mg) : FnOk P w C.K mg base (L2.CX P w) 1 T.a_is_whole T.fd_is_whole ["value"] (spF C 1 m_is_whole) := by
  refine fn_ok T.F_is_whole sc_is_whole rfl rfl fun cdv A outer s H E => ?_
  exact (css_one (cs_ret (ce_and (ce_isi tyInt tyInt_ok (.ty "int") (fun _ => T.z_isinstance) (ce_var 0) (fun _ _ => pe_tyN T.z_int boot_tInt)) (ce_one (ce_not (ce_isi tyBool tyBool_ok (.ty "bool") (fun _ => T.z_isinstance) (ce_var 0) (fun _ _ => pe_tyN T.z_bool boot_tBool)))))))
theorem sc_is_number : FnScope ["value"] ["value"] (defScope (top 7)) := ⟨rfl, rfl, rfl, by decide +kernel, rfl, by decide +kernel, by decide +kernel⟩
theorem ok_is_number (T : Tx C mg) : FnOk P w C.K mg base (L2.CX P w) 2 T.a_is_number T.fd_is_number ["value"] (spF C 1 m_is_number) := by
  refine fn_ok T.F_is_number sc_is_number rfl rfl fun cdv A outer s H E => ?_
  exact (css_one (cs_ret (ce_and (ce_fn (fun _ => (ok_is_whole T).mono (Nat.le_of_ble_eq_true rfl)) (fun _ => T.m_is_whole) T.F_is_whole.kp T.b_is_whole (ca_cons (ce_var 0) ca_nil) (LenA.cons LenA.nil)) (ce_one (ce_cmp ok_ge geD_ok (ce_var 0) ce_int (nomark _))))))
theorem sc_Scale_init : FnScope ["self", "weights", "quota", "one"] ["self", "weights", "quota"] (defScope (inClass (top 11) 0)) := ⟨rfl, rfl, rfl, by decide +kernel, rfl, by decide +kernel, by decide +kernel⟩
theorem ok_Scale_init (T : Tx C mg) : FnOk P w C.K mg base (L2.CX P w) 3 T.a_Scale_init T.fd_Scale_init ["self", "weights", "quota"] (spF C 3 m_Scale_init) := by
  refine fn_ok T.F_Scale_init sc_Scale_init rfl rfl fun cdv A outer s H E => ?_
  exact (css_cons (cs_if (CW.ct (cw_or (ct_not (ct_tru (ce_isi2 tyList tyTuple tyList_ok tyTuple_ok (.ty "list") (.ty "tuple") (fun _ => T.z_isinstance) (ce_var 1) (fun _ _ => pe_tyN T.z_list boot_tList) (fun _ _ => pe_tyN T.z_tuple boot_tTuple)))) (cw_or1 (ct_not (ct_chain ok_le leD_ok ok_le leD_ok ce_int (ce_len (hm := (fun _ => T.z_len)) (ha := (ca_cons (ce_var 1) ca_nil))) ce_int))))) css_never css_nil)
    (css_cons (cs_if (ct_not (ct_tru (ce_all (hm := (fun _ => T.z_all)) (ha := (ca_cons (ce_lcB 1 (ok := (fun _ => (BlkOk.mk rfl (by decide +kernel) (by decide +kernel) (by decide +kernel) (by decide +kernel) : BlkOk ["self", "weights", "quota", "one"] (defScope (inClass (top 11) 0)) _ [("one", 3)]))) (hg := (cg_name (j := 3) (by decide : (3 : Nat) ∉ ([1, 0, 1, 2] : List Nat)))) (ht := cts_nil) (he := (ce_fn (fun _ => (ok_is_number T).mono (Nat.le_of_ble_eq_true rfl)) (fun _ => T.m_is_number) T.F_is_number.kp T.b_is_number (ca_cons (ce_var 3) ca_nil) (LenA.cons LenA.nil))) (hvs := rfl) (hts := (by decide : ∀ j ∈ ([3] : List Nat), j ∈ ([3] : List Nat))) (hP := (by decide : ∀ j ∈ ([3] : List Nat), j ∉ ([1, 0, 1, 2] : List Nat)))) ca_nil))))) css_never css_nil)
    (css_cons (cs_if (CW.ct (cw_or (ct_not (ct_tru (ce_fn (fun _ => (ok_is_whole T).mono (Nat.le_of_ble_eq_true rfl)) (fun _ => T.m_is_whole) T.F_is_whole.kp T.b_is_whole (ca_cons (ce_var 2) ca_nil) (LenA.cons LenA.nil)))) (cw_or1 (ct_cmp ok_lt ltD_ok (ce_var 2) ce_int (nomark _))))) css_never css_nil)
    (css_cons (cs_fld ["Scale"] 0 T.n_weights (ce_tuple (hm := (fun _ => T.z_tuple)) (ha := (ca_cons (ce_var 1) ca_nil))))
    (css_one (cs_fld ["Scale"] 0 T.n_quota (ce_var 2)))))))
theorem sc_law_times : FnScope ["many", "total", "at"] ["many"] (defScope (top 26)) := ⟨rfl, rfl, rfl, by decide +kernel, rfl, by decide +kernel, by decide +kernel⟩
theorem ok_law_times (T : Tx C mg) : FnOk P w C.K mg base (L2.CX P w) 1 T.a_law_times T.fd_law_times ["many"] (spF C 1 m_law_times) := by
  refine fn_ok T.F_law_times sc_law_times rfl rfl fun cdv A outer s H E => ?_
  exact (css_cons (cs_set (i := 1) ce_int (by decide : (1 : Nat) ∉ ([0] : List Nat)))
    (css_cons (cs_for [2] (ci_range2 (fun _ => T.z_range) (ca_cons ce_int (ca_cons (ce_add (ce_var 0) ce_int) ca_nil))) (cg_name (j := 2) (by decide : (2 : Nat) ∉ ([0] : List Nat))) (css_one (cs_set (i := 1) (ce_mul (ce_var 1) (ce_var 2)) (by decide : (1 : Nat) ∉ ([0] : List Nat)))))
    (css_one (cs_ret (ce_var 1)))))
theorem sc_out_by_size : FnScope ["rows", "weight", "found", "size", "ahead", "shifted", "a", "b"] ["rows", "weight"] (defScope (top 20)) := ⟨rfl, rfl, rfl, by decide +kernel, rfl, by decide +kernel, by decide +kernel⟩
theorem ok_out_by_size (T : Tx C mg) : FnOk P w C.K mg base (L2.CX P w) 1 T.a_out_by_size T.fd_out_by_size ["rows", "weight"] (spF C 2 m_out_by_size) := by
  refine fn_ok T.F_out_by_size sc_out_by_size rfl rfl fun cdv A outer s H E => ?_
  exact (css_cons (cs_set (i := 2) (ce_lst (ca_consD (ce_ix (ce_var 0) ce_int) ca_nil)) (by decide : (2 : Nat) ∉ ([0, 1] : List Nat)))
    (css_cons (cs_for [3, 4, 5, 6, 7] (ci_range2 (fun _ => T.z_range) (ca_cons ce_int (ca_cons (ce_sub (ce_len (hm := (fun _ => T.z_len)) (ha := (ca_cons (ce_var 0) ca_nil))) ce_int) ca_nil))) (cg_name (j := 3) (by decide : (3 : Nat) ∉ ([0, 1] : List Nat))) (css_cons (cs_set (i := 4) (ce_ix (ce_var 2) (ce_sub (ce_var 3) ce_int)) (by decide : (4 : Nat) ∉ ([0, 1] : List Nat)))
    (css_cons (cs_set (i := 5) (ce_add (ce_mul (ce_lst (ca_consD ce_int ca_nil)) (ce_min2 (hm := (fun _ => T.z_min)) (ha := (ca_cons (ce_var 1) (ca_cons (ce_len (hm := (fun _ => T.z_len)) (ha := (ca_cons (ce_var 4) ca_nil))) ca_nil))))) (ce_slice (ce_var 4) cp_none (cp_some (ce_max2 (hm := (fun _ => T.z_max)) (ha := (ca_cons ce_int (ca_cons (ce_sub (ce_len (hm := (fun _ => T.z_len)) (ha := (ca_cons (ce_var 4) ca_nil))) (ce_var 1)) ca_nil))))))) (by decide : (5 : Nat) ∉ ([0, 1] : List Nat)))
    (css_one (cs_expr (ce_meth 2 append_ok PySem.F.slot_list_append PySem.F.type_list_append (fun _ => mt_append) (ca_consD (ce_lc (ci_zip (fun _ => T.z_zip) (ca_consD (ce_ix (ce_var 0) (ce_var 3)) (ca_consD (ce_var 5) ca_nil))) (fun _ => (BlkOk.mk rfl (by decide +kernel) (by decide +kernel) (by decide +kernel) (by decide +kernel) : BlkOk ["rows", "weight", "found", "size", "ahead", "shifted", "a", "b"] (defScope (top 20)) _ [("a", 6), ("b", 7)])) (cg_tup (n := 2) (cgs_cons (cg_name (j := 6) (by decide : (6 : Nat) ∉ ([0, 1] : List Nat))) (cgs_cons (cg_name (j := 7) (by decide : (7 : Nat) ∉ ([0, 1] : List Nat))) cgs_nil))) cts_nil (ce_sub (ce_var 6) (ce_var 7)) rfl (by decide : ∀ j ∈ ([6, 7] : List Nat), j ∈ ([6, 7] : List Nat)) (by decide : ∀ j ∈ ([6, 7] : List Nat), j ∉ ([0, 1] : List Nat))) ca_nil)))))))
    (css_one (cs_ret (ce_var 2)))))
theorem sc_put_by_size : FnScope ["rows", "weight", "found", "size", "ahead", "shifted", "own", "a", "b"] ["rows", "weight"] (defScope (top 19)) := ⟨rfl, rfl, rfl, by decide +kernel, rfl, by decide +kernel, by decide +kernel⟩
theorem ok_put_by_size (T : Tx C mg) : FnOk P w C.K mg base (L2.CX P w) 1 T.a_put_by_size T.fd_put_by_size ["rows", "weight"] (spF C 2 m_put_by_size) := by
  refine fn_ok T.F_put_by_size sc_put_by_size rfl rfl fun cdv A outer s H E => ?_
  exact (css_cons (cs_set (i := 2) (ce_lst (ca_consD (ce_ix (ce_var 0) ce_int) ca_nil)) (by decide : (2 : Nat) ∉ ([0, 1] : List Nat)))
    (css_cons (cs_for [3, 4, 5, 6, 7, 8] (ci_range2 (fun _ => T.z_range) (ca_cons ce_int (ca_cons (ce_add (ce_len (hm := (fun _ => T.z_len)) (ha := (ca_cons (ce_var 0) ca_nil))) ce_int) ca_nil))) (cg_name (j := 3) (by decide : (3 : Nat) ∉ ([0, 1] : List Nat))) (css_cons (cs_set (i := 4) (ce_ix (ce_var 0) (ce_sub (ce_var 3) ce_int)) (by decide : (4 : Nat) ∉ ([0, 1] : List Nat)))
    (css_cons (cs_set (i := 5) (ce_add (ce_mul (ce_lst (ca_consD ce_int ca_nil)) (ce_min2 (hm := (fun _ => T.z_min)) (ha := (ca_cons (ce_var 1) (ca_cons (ce_len (hm := (fun _ => T.z_len)) (ha := (ca_cons (ce_var 4) ca_nil))) ca_nil))))) (ce_slice (ce_var 4) cp_none (cp_some (ce_max2 (hm := (fun _ => T.z_max)) (ha := (ca_cons ce_int (ca_cons (ce_sub (ce_len (hm := (fun _ => T.z_len)) (ha := (ca_cons (ce_var 4) ca_nil))) (ce_var 1)) ca_nil))))))) (by decide : (5 : Nat) ∉ ([0, 1] : List Nat)))
    (css_cons (cs_set (i := 6) (ce_ifExp (ct_cmp ok_lt ltD_ok (ce_var 3) (ce_len (hm := (fun _ => T.z_len)) (ha := (ca_cons (ce_var 0) ca_nil))) (nomark _)) (ce_ix (ce_var 0) (ce_var 3)) (ce_mul (ce_lst (ca_consD ce_int ca_nil)) (ce_len (hm := (fun _ => T.z_len)) (ha := (ca_cons (ce_var 4) ca_nil))))) (by decide : (6 : Nat) ∉ ([0, 1] : List Nat)))
    (css_one (cs_expr (ce_meth 2 append_ok PySem.F.slot_list_append PySem.F.type_list_append (fun _ => mt_append) (ca_consD (ce_lc (ci_zip (fun _ => T.z_zip) (ca_consD (ce_var 6) (ca_consD (ce_var 5) ca_nil))) (fun _ => (BlkOk.mk rfl (by decide +kernel) (by decide +kernel) (by decide +kernel) (by decide +kernel) : BlkOk ["rows", "weight", "found", "size", "ahead", "shifted", "own", "a", "b"] (defScope (top 19)) _ [("a", 7), ("b", 8)])) (cg_tup (n := 2) (cgs_cons (cg_name (j := 7) (by decide : (7 : Nat) ∉ ([0, 1] : List Nat))) (cgs_cons (cg_name (j := 8) (by decide : (8 : Nat) ∉ ([0, 1] : List Nat))) cgs_nil))) cts_nil (ce_add (ce_var 7) (ce_var 8)) rfl (by decide : ∀ j ∈ ([7, 8] : List Nat), j ∈ ([7, 8] : List Nat)) (by decide : ∀ j ∈ ([7, 8] : List Nat), j ∉ ([0, 1] : List Nat))) ca_nil))))))))
    (css_one (cs_ret (ce_var 2)))))
theorem sc_scale_pivots : FnScope ["scale", "many", "rows", "weight", "known", "total", "size", "row"] ["scale"] (defScope (top 21)) := ⟨rfl, rfl, rfl, by decide +kernel, rfl, by decide +kernel, by decide +kernel⟩
theorem ok_scale_pivots (T : Tx C mg) : FnOk P w C.K mg base (L2.CX P w) 2 T.a_scale_pivots T.fd_scale_pivots ["scale"] (spF C 1 m_scale_pivots) := by
  refine fn_ok T.F_scale_pivots sc_scale_pivots rfl rfl fun cdv A outer s H E => ?_
  exact (css_cons (cs_par2 (i := 1) (j := 2) (ce_len (hm := (fun _ => T.z_len)) (ha := (ca_cons (ce_fld ["Scale"] T.n_weights (ce_var 0)) ca_nil))) (ce_lst (ca_consD (ce_add (ce_lst (ca_consD ce_int ca_nil)) (ce_mul (ce_lst (ca_consD ce_int ca_nil)) (ce_sub (ce_fld ["Scale"] T.n_quota (ce_var 0)) ce_int))) ca_nil)) (by decide : (1 : Nat) ∉ ([0] : List Nat)) (by decide : (2 : Nat) ∉ ([0] : List Nat)) (by decide))
    (css_cons (cs_for [] (ci_val (ce_fld ["Scale"] T.n_weights (ce_var 0))) (cg_name (j := 3) (by decide : (3 : Nat) ∉ ([0] : List Nat))) (css_one (cs_set (i := 2) (ce_fn (fun _ => (ok_put_by_size T).mono (Nat.le_of_ble_eq_true rfl)) (fun _ => T.m_put_by_size) T.F_put_by_size.kp T.b_put_by_size (ca_cons (ce_var 2) (ca_cons (ce_var 3) ca_nil)) (LenA.cons (LenA.cons LenA.nil))) (by decide : (2 : Nat) ∉ ([0] : List Nat)))))
    (css_cons (cs_set (i := 4) ce_dnew (by decide : (4 : Nat) ∉ ([0] : List Nat)))
    (css_cons (cs_for [] (ci_val (ce_fld ["Scale"] T.n_weights (ce_var 0))) (cg_name (j := 3) (by decide : (3 : Nat) ∉ ([0] : List Nat))) (css_one (cs_if (ct_dnotin (ce_var 3) (ce_var 4)) (css_cons (cs_set (i := 5) ce_int (by decide : (5 : Nat) ∉ ([0] : List Nat)))
    (css_cons (cs_for [6, 7] (ci_enum (fun _ => T.z_enumerate) (ca_consD (ce_fn (fun _ => (ok_out_by_size T).mono (Nat.le_of_ble_eq_true rfl)) (fun _ => T.m_out_by_size) T.F_out_by_size.kp T.b_out_by_size (ca_cons (ce_var 2) (ca_cons (ce_var 3) ca_nil)) (LenA.cons (LenA.cons LenA.nil))) ca_nil)) (cg_tup (n := 2) (cgs_cons (cg_name (j := 6) (by decide : (6 : Nat) ∉ ([0] : List Nat))) (cgs_cons (cg_name (j := 7) (by decide : (7 : Nat) ∉ ([0] : List Nat))) cgs_nil))) (css_one (cs_set (i := 5) (ce_add (ce_var 5) (ce_mul (ce_mul (ce_fn (fun _ => (ok_swings_of T).mono (Nat.le_of_ble_eq_true rfl)) (fun _ => T.m_swings_of) T.F_swings_of.kp T.b_swings_of (ca_cons (ce_var 7) (ca_cons (ce_var 3) ca_nil)) (LenA.cons (LenA.cons LenA.nil))) (ce_fac (hm := (fun _ => T.z_factorial)) (ha := (ca_cons (ce_var 6) ca_nil)))) (ce_fac (hm := (fun _ => T.z_factorial)) (ha := (ca_cons (ce_sub (ce_sub (ce_var 1) (ce_var 6)) ce_int) ca_nil))))) (by decide : (5 : Nat) ∉ ([0] : List Nat)))))
    (css_one (cs_item 4 (ce_var 5) (ce_var 3))))) css_nil)))
    (css_one (cs_ret (ce_tuple (hm := (fun _ => T.z_tuple)) (ha := (ca_cons (ce_lc (ci_val (ce_fld ["Scale"] T.n_weights (ce_var 0))) (fun _ => (BlkOk.mk rfl (by decide +kernel) (by decide +kernel) (by decide +kernel) (by decide +kernel) : BlkOk ["scale", "many", "rows", "weight", "known", "total", "size", "row"] (defScope (top 21)) _ [("weight", 3)])) (cg_name (j := 3) (by decide : (3 : Nat) ∉ ([0] : List Nat))) cts_nil (ce_ix (ce_var 4) (ce_var 3)) rfl (by decide : ∀ j ∈ ([3] : List Nat), j ∈ ([3] : List Nat)) (by decide : ∀ j ∈ ([3] : List Nat), j ∉ ([0] : List Nat))) ca_nil)))))))))
theorem sc_law_choose : FnScope ["many", "some"] ["many", "some"] (defScope (top 27)) := ⟨rfl, rfl, rfl, by decide +kernel, rfl, by decide +kernel, by decide +kernel⟩
theorem ok_law_choose (T : Tx C mg) : FnOk P w C.K mg base (L2.CX P w) 2 T.a_law_choose T.fd_law_choose ["many", "some"] (spF C 2 m_law_choose) := by
  refine fn_ok T.F_law_choose sc_law_choose rfl rfl fun cdv A outer s H E => ?_
  exact (css_one (cs_ret (ce_ifExp (ct_chain ok_le leD_ok ok_le leD_ok ce_int (ce_var 1) (ce_var 0)) (ce_fdiv (ce_fn (fun _ => (ok_law_times T).mono (Nat.le_of_ble_eq_true rfl)) (fun _ => T.m_law_times) T.F_law_times.kp T.b_law_times (ca_cons (ce_var 0) ca_nil) (LenA.cons LenA.nil)) (ce_mul (ce_fn (fun _ => (ok_law_times T).mono (Nat.le_of_ble_eq_true rfl)) (fun _ => T.m_law_times) T.F_law_times.kp T.b_law_times (ca_cons (ce_var 1) ca_nil) (LenA.cons LenA.nil)) (ce_fn (fun _ => (ok_law_times T).mono (Nat.le_of_ble_eq_true rfl)) (fun _ => T.m_law_times) T.F_law_times.kp T.b_law_times (ca_cons (ce_sub (ce_var 0) (ce_var 1)) ca_nil) (LenA.cons LenA.nil)))) ce_int)))
theorem sc_law_equal_right : FnScope ["pen", "many", "weight", "need", "made", "some"] ["pen"] (defScope (top 29)) := ⟨rfl, rfl, rfl, by decide +kernel, rfl, by decide +kernel, by decide +kernel⟩
theorem ok_law_equal_right (T : Tx C mg) : FnOk P w C.K mg base (L2.CX P w) 6 T.a_law_equal_right T.fd_law_equal_right ["pen"] (spF C 1 m_law_equal_right) := by
  refine fn_ok T.F_law_equal_right sc_law_equal_right rfl rfl fun cdv A outer s H E => ?_
  exact (css_cons (cs_asgT (ce_tup (ca_consD (ce_add ce_int (ce_fn (fun _ => (ok_law_draw T).mono (Nat.le_of_ble_eq_true rfl)) (fun _ => T.m_law_draw) T.F_law_draw.kp T.b_law_draw (ca_cons (ce_var 0) (ca_cons ce_int ca_nil)) (LenA.cons (LenA.cons LenA.nil)))) (ca_consD (ce_add ce_int (ce_fn (fun _ => (ok_law_draw T).mono (Nat.le_of_ble_eq_true rfl)) (fun _ => T.m_law_draw) T.F_law_draw.kp T.b_law_draw (ca_cons (ce_var 0) (ca_cons ce_int ca_nil)) (LenA.cons (LenA.cons LenA.nil)))) ca_nil))) (cg_tup (n := 2) (cgs_cons (cg_name (j := 1) (by decide : (1 : Nat) ∉ ([0] : List Nat))) (cgs_cons (cg_name (j := 2) (by decide : (2 : Nat) ∉ ([0] : List Nat))) cgs_nil))))
    (css_cons (cs_set (i := 3) (ce_add ce_int (ce_fn (fun _ => (ok_law_draw T).mono (Nat.le_of_ble_eq_true rfl)) (fun _ => T.m_law_draw) T.F_law_draw.kp T.b_law_draw (ca_cons (ce_var 0) (ca_cons (ce_var 1) ca_nil)) (LenA.cons (LenA.cons LenA.nil)))) (by decide : (3 : Nat) ∉ ([0] : List Nat)))
    (css_cons (cs_set (i := 4) (ce_make (c := "Scale") T.M_Scale (fun _ => ok_Scale_init T) (fun _ => T.m_Scale) T.b_Scale_init (ca_cons (ce_mul (ce_tup (ca_consD (ce_var 2) ca_nil)) (ce_var 1)) (ca_cons (ce_sub (ce_mul (ce_var 2) (ce_var 3)) (ce_fn (fun _ => (ok_law_draw T).mono (Nat.le_of_ble_eq_true rfl)) (fun _ => T.m_law_draw) T.F_law_draw.kp T.b_law_draw (ca_cons (ce_var 0) (ca_cons (ce_var 2) ca_nil)) (LenA.cons (LenA.cons LenA.nil)))) ca_nil)) (Nat.le_of_ble_eq_true rfl) (fun ρ xs ρ2 z => by rw [(LenA.cons (LenA.cons LenA.nil)) ρ xs ρ2 z]; rfl)) (by decide : (4 : Nat) ∉ ([0] : List Nat)))
    (css_cons (cs_if (ct_not (ct_tru (ce_fn (fun _ => (ok_law_is T 4).mono (Nat.le_of_ble_eq_true rfl)) (fun _ => T.m_law_is) T.F_law_is.kp T.b_law_is (ca_cons (ce_fn (fun _ => (ok_scale_carrying T).mono (Nat.le_of_ble_eq_true rfl)) (fun _ => T.m_scale_carrying) T.F_scale_carrying.kp T.b_scale_carrying (ca_cons (ce_var 4) ca_nil) (LenA.cons LenA.nil)) (ca_cons (ce_sum (hm := (fun _ => T.z_sum)) (ha := (ca_cons (ce_lc (ci_range2 (fun _ => T.z_range) (ca_cons (ce_var 3) (ca_cons (ce_add (ce_var 1) ce_int) ca_nil))) (fun _ => (BlkOk.mk rfl (by decide +kernel) (by decide +kernel) (by decide +kernel) (by decide +kernel) : BlkOk ["pen", "many", "weight", "need", "made", "some"] (defScope (top 29)) _ [("some", 5)])) (cg_name (j := 5) (by decide : (5 : Nat) ∉ ([0] : List Nat))) cts_nil (ce_fn (fun _ => (ok_law_choose T).mono (Nat.le_of_ble_eq_true rfl)) (fun _ => T.m_law_choose) T.F_law_choose.kp T.b_law_choose (ca_cons (ce_var 1) (ca_cons (ce_var 5) ca_nil)) (LenA.cons (LenA.cons LenA.nil))) rfl (by decide : ∀ j ∈ ([5] : List Nat), j ∈ ([5] : List Nat)) (by decide : ∀ j ∈ ([5] : List Nat), j ∉ ([0] : List Nat))) ca_nil))) ca_nil)) (LenA.cons (LenA.cons LenA.nil))))) (css_one (cs_ret ce_bl)) css_nil)
    (css_cons (cs_if (ct_not (ct_tru (ce_fn (fun _ => (ok_law_is T 4).mono (Nat.le_of_ble_eq_true rfl)) (fun _ => T.m_law_is) T.F_law_is.kp T.b_law_is (ca_cons (ce_fn (fun _ => (ok_scale_swings T).mono (Nat.le_of_ble_eq_true rfl)) (fun _ => T.m_scale_swings) T.F_scale_swings.kp T.b_scale_swings (ca_cons (ce_var 4) ca_nil) (LenA.cons LenA.nil)) (ca_cons (ce_mul (ce_tup (ca_consD (ce_fn (fun _ => (ok_law_choose T).mono (Nat.le_of_ble_eq_true rfl)) (fun _ => T.m_law_choose) T.F_law_choose.kp T.b_law_choose (ca_cons (ce_sub (ce_var 1) ce_int) (ca_cons (ce_sub (ce_var 3) ce_int) ca_nil)) (LenA.cons (LenA.cons LenA.nil))) ca_nil)) (ce_var 1)) ca_nil)) (LenA.cons (LenA.cons LenA.nil))))) (css_one (cs_ret ce_bl)) css_nil)
    (css_one (cs_ret (ce_fn (fun _ => (ok_law_is T 4).mono (Nat.le_of_ble_eq_true rfl)) (fun _ => T.m_law_is) T.F_law_is.kp T.b_law_is (ca_cons (ce_fn (fun _ => (ok_scale_pivots T).mono (Nat.le_of_ble_eq_true rfl)) (fun _ => T.m_scale_pivots) T.F_scale_pivots.kp T.b_scale_pivots (ca_cons (ce_var 4) ca_nil) (LenA.cons LenA.nil)) (ca_cons (ce_mul (ce_tup (ca_consD (ce_fn (fun _ => (ok_law_times T).mono (Nat.le_of_ble_eq_true rfl)) (fun _ => T.m_law_times) T.F_law_times.kp T.b_law_times (ca_cons (ce_sub (ce_var 1) ce_int) ca_nil) (LenA.cons LenA.nil)) ca_nil)) (ce_var 1)) ca_nil)) (LenA.cons (LenA.cons LenA.nil))))))))))
theorem sc_law_heavy_right : FnScope ["pen", "light", "heavy", "quota", "made", "some", "told", "one", "places", "chief", "rest", "size", "at"] ["pen"] (defScope (top 30)) := ⟨rfl, rfl, rfl, by decide +kernel, rfl, by decide +kernel, by decide +kernel⟩
theorem ok_law_heavy_right (T : Tx C mg) : FnOk P w C.K mg base (L2.CX P w) 6 T.a_law_heavy_right T.fd_law_heavy_right ["pen"] (spF C 1 m_law_heavy_right) := by
  refine fn_ok T.F_law_heavy_right sc_law_heavy_right rfl rfl fun cdv A outer s H E => ?_
  exact (css_cons (cs_asgT (ce_tup (ca_consD (ce_add ce_int (ce_fn (fun _ => (ok_law_draw T).mono (Nat.le_of_ble_eq_true rfl)) (fun _ => T.m_law_draw) T.F_law_draw.kp T.b_law_draw (ca_cons (ce_var 0) (ca_cons ce_int ca_nil)) (LenA.cons (LenA.cons LenA.nil)))) (ca_consD (ce_add ce_int (ce_fn (fun _ => (ok_law_draw T).mono (Nat.le_of_ble_eq_true rfl)) (fun _ => T.m_law_draw) T.F_law_draw.kp T.b_law_draw (ca_cons (ce_var 0) (ca_cons ce_int ca_nil)) (LenA.cons (LenA.cons LenA.nil)))) ca_nil))) (cg_tup (n := 2) (cgs_cons (cg_name (j := 1) (by decide : (1 : Nat) ∉ ([0] : List Nat))) (cgs_cons (cg_name (j := 2) (by decide : (2 : Nat) ∉ ([0] : List Nat))) cgs_nil))))
    (css_cons (cs_set (i := 3) (ce_add (ce_var 2) (ce_fn (fun _ => (ok_law_draw T).mono (Nat.le_of_ble_eq_true rfl)) (fun _ => T.m_law_draw) T.F_law_draw.kp T.b_law_draw (ca_cons (ce_var 0) (ca_cons (ce_var 1) ca_nil)) (LenA.cons (LenA.cons LenA.nil)))) (by decide : (3 : Nat) ∉ ([0] : List Nat)))
    (css_cons (cs_set (i := 4) (ce_make (c := "Scale") T.M_Scale (fun _ => ok_Scale_init T) (fun _ => T.m_Scale) T.b_Scale_init (ca_cons (ce_add (ce_tup (ca_consD (ce_var 2) ca_nil)) (ce_mul (ce_tup (ca_consD ce_int ca_nil)) (ce_var 1))) (ca_cons (ce_var 3) ca_nil)) (Nat.le_of_ble_eq_true rfl) (fun ρ xs ρ2 z => by rw [(LenA.cons (LenA.cons LenA.nil)) ρ xs ρ2 z]; rfl)) (by decide : (4 : Nat) ∉ ([0] : List Nat)))
    (css_cons (cs_setLc (j := 5) (ci_range2 (fun _ => T.z_range) (ca_cons (ce_max2 (hm := (fun _ => T.z_max)) (ha := (ca_cons ce_int (ca_cons (ce_sub (ce_var 3) (ce_var 2)) ca_nil)))) (ca_cons (ce_add (ce_min2 (hm := (fun _ => T.z_min)) (ha := (ca_cons (ce_sub (ce_var 3) ce_int) (ca_cons (ce_var 1) ca_nil)))) ce_int) ca_nil))) (fun _ => (BlkOk.mk rfl (by decide +kernel) (by decide +kernel) (by decide +kernel) (by decide +kernel) : BlkOk ["pen", "light", "heavy", "quota", "made", "some", "told", "one", "places", "chief", "rest", "size", "at"] (defScope (top 30)) _ [("size", 11)])) (cg_name (j := 11) (by decide : (11 : Nat) ∉ ([0] : List Nat))) cts_nil (ce_fn (fun _ => (ok_law_choose T).mono (Nat.le_of_ble_eq_true rfl)) (fun _ => T.m_law_choose) T.F_law_choose.kp T.b_law_choose (ca_cons (ce_var 1) (ca_cons (ce_var 11) ca_nil)) (LenA.cons (LenA.cons LenA.nil))) rfl (by decide : ∀ j ∈ ([11] : List Nat), j ∈ ([11] : List Nat)) (by decide : ∀ j ∈ ([11] : List Nat), j ∉ ([0] : List Nat)) (by decide : (5 : Nat) ∉ ([0] : List Nat)) (hsw := fun _ => rfl))
    (css_cons (cs_set (i := 6) (ce_fn (fun _ => (ok_scale_swings T).mono (Nat.le_of_ble_eq_true rfl)) (fun _ => T.m_scale_swings) T.F_scale_swings.kp T.b_scale_swings (ca_cons (ce_var 4) ca_nil) (LenA.cons LenA.nil)) (by decide : (6 : Nat) ∉ ([0] : List Nat)))
    (css_cons (cs_set (i := 7) (ce_add (ce_fn (fun _ => (ok_law_choose T).mono (Nat.le_of_ble_eq_true rfl)) (fun _ => T.m_law_choose) T.F_law_choose.kp T.b_law_choose (ca_cons (ce_sub (ce_var 1) ce_int) (ca_cons (ce_sub (ce_var 3) ce_int) ca_nil)) (LenA.cons (LenA.cons LenA.nil))) (ce_fn (fun _ => (ok_law_choose T).mono (Nat.le_of_ble_eq_true rfl)) (fun _ => T.m_law_choose) T.F_law_choose.kp T.b_law_choose (ca_cons (ce_sub (ce_var 1) ce_int) (ca_cons (ce_sub (ce_sub (ce_var 3) (ce_var 2)) ce_int) ca_nil)) (LenA.cons (LenA.cons LenA.nil)))) (by decide : (7 : Nat) ∉ ([0] : List Nat)))
    (css_cons (cs_if (ct_not (ct_tru (ce_fn (fun _ => (ok_law_is T 4).mono (Nat.le_of_ble_eq_true rfl)) (fun _ => T.m_law_is) T.F_law_is.kp T.b_law_is (ca_cons (ce_var 6) (ca_cons (ce_add (ce_tup (ca_consD (ce_sum (hm := (fun _ => T.z_sum)) (ha := (ca_cons (ce_var 5) ca_nil))) ca_nil)) (ce_mul (ce_tup (ca_consD (ce_var 7) ca_nil)) (ce_var 1))) ca_nil)) (LenA.cons (LenA.cons LenA.nil))))) (css_one (cs_ret ce_bl)) css_nil)
    (css_cons (cs_set (i := 8) (ce_len (hm := (fun _ => T.z_len)) (ha := (ca_cons (ce_lc (ci_range1 (fun _ => T.z_range) (ca_cons (ce_add (ce_var 1) ce_int) ca_nil)) (fun _ => (BlkOk.mk rfl (by decide +kernel) (by decide +kernel) (by decide +kernel) (by decide +kernel) : BlkOk ["pen", "light", "heavy", "quota", "made", "some", "told", "one", "places", "chief", "rest", "size", "at"] (defScope (top 30)) _ [("at", 12)])) (cg_name (j := 12) (by decide : (12 : Nat) ∉ ([0] : List Nat))) (cts_one (ct_chain ok_le leD_ok ok_lt ltD_ok (ce_sub (ce_var 3) (ce_var 2)) (ce_var 12) (ce_var 3))) (ce_var 12) rfl (by decide : ∀ j ∈ ([12] : List Nat), j ∈ ([12] : List Nat)) (by decide : ∀ j ∈ ([12] : List Nat), j ∉ ([0] : List Nat))) ca_nil))) (by decide : (8 : Nat) ∉ ([0] : List Nat)))
    (css_cons (cs_set (i := 9) (ce_mul (ce_fn (fun _ => (ok_law_times T).mono (Nat.le_of_ble_eq_true rfl)) (fun _ => T.m_law_times) T.F_law_times.kp T.b_law_times (ca_cons (ce_var 1) ca_nil) (LenA.cons LenA.nil)) (ce_var 8)) (by decide : (9 : Nat) ∉ ([0] : List Nat)))
    (css_cons (cs_set (i := 10) (ce_sub (ce_fn (fun _ => (ok_law_times T).mono (Nat.le_of_ble_eq_true rfl)) (fun _ => T.m_law_times) T.F_law_times.kp T.b_law_times (ca_cons (ce_add (ce_var 1) ce_int) ca_nil) (LenA.cons LenA.nil)) (ce_var 9)) (by decide : (10 : Nat) ∉ ([0] : List Nat)))
    (css_one (cs_ret (ce_fn (fun _ => (ok_law_is T 4).mono (Nat.le_of_ble_eq_true rfl)) (fun _ => T.m_law_is) T.F_law_is.kp T.b_law_is (ca_cons (ce_fn (fun _ => (ok_scale_pivots T).mono (Nat.le_of_ble_eq_true rfl)) (fun _ => T.m_scale_pivots) T.F_scale_pivots.kp T.b_scale_pivots (ca_cons (ce_var 4) ca_nil) (LenA.cons LenA.nil)) (ca_cons (ce_add (ce_tup (ca_consD (ce_var 9) ca_nil)) (ce_mul (ce_tup (ca_consD (ce_fdiv (ce_var 10) (ce_var 1)) ca_nil)) (ce_var 1))) ca_nil)) (LenA.cons (LenA.cons LenA.nil)))))))))))))))
theorem sc_law_pen : FnScope ["script", "fold", "cell"] ["script"] (defScope (top 23)) := ⟨rfl, rfl, rfl, by decide +kernel, rfl, by decide +kernel, by decide +kernel⟩
theorem ok_law_pen (T : Tx C mg) : FnOk P w C.K mg base (L2.CX P w) 1 T.a_law_pen T.fd_law_pen ["script"] (spF C 1 m_law_pen) := by
  refine fn_ok T.F_law_pen sc_law_pen rfl rfl fun cdv A outer s H E => ?_
  exact (css_cons (cs_set (i := 1) ce_int (by decide : (1 : Nat) ∉ ([0] : List Nat)))
    (css_cons (cs_forB 0 (fg := [2]) (hg := (cg_name (j := 2) (by decide : (2 : Nat) ∉ ([0, 0] : List Nat)))) (hb := (css_one (cs_set (i := 1) (ce_mod (ce_intOf (hm := (fun _ => T.z_int)) (ha := (ca_cons (ce_add (ce_mul (ce_var 1) ce_int) (ce_var 2)) ca_nil))) ce_int) (by decide : (1 : Nat) ∉ ([0, 0] : List Nat))))))
    (css_one (cs_ret (ce_disp (cdp_str (ce_list (hm := (fun _ => T.z_list)) (ha := (ca_cons (ce_var 0) ca_nil))) (cdp_str ce_int (cdp_str ce_int (cdp_str ce_int (cdp_str (ce_var 1) cdp_nil))))))))))
theorem sc_law : FnScope ["script", "pen", "weights", "quota", "counts", "made", "told", "at", "own", "due", "total"] ["script"] (defScope (top 31)) := ⟨rfl, rfl, rfl, by decide +kernel, rfl, by decide +kernel, by decide +kernel⟩
theorem ok_law (T : Tx C mg) : FnOk P w C.K mg base (L2.CX P w) 7 T.a_law T.fd_law ["script"] (spF C 1 m_law) := by
  refine fn_ok T.F_law sc_law rfl rfl fun cdv A outer s H E => ?_
  exact (css_cons (cs_set (i := 1) (ce_fn (fun _ => (ok_law_pen T).mono (Nat.le_of_ble_eq_true rfl)) (fun _ => T.m_law_pen) T.F_law_pen.kp T.b_law_pen (ca_cons (ce_var 0) ca_nil) (LenA.cons LenA.nil)) (by decide : (1 : Nat) ∉ ([0] : List Nat)))
    (css_cons (cs_if (CW.ct (cw_or (ct_not (ct_tru (ce_fn (fun _ => (ok_law_equal_right T).mono (Nat.le_of_ble_eq_true rfl)) (fun _ => T.m_law_equal_right) T.F_law_equal_right.kp T.b_law_equal_right (ca_cons (ce_var 1) ca_nil) (LenA.cons LenA.nil)))) (cw_or1 (ct_not (ct_tru (ce_fn (fun _ => (ok_law_heavy_right T).mono (Nat.le_of_ble_eq_true rfl)) (fun _ => T.m_law_heavy_right) T.F_law_heavy_right.kp T.b_law_heavy_right (ca_cons (ce_var 1) ca_nil) (LenA.cons LenA.nil))))))) (css_one (cs_ret ce_bl)) css_nil)
    (css_cons (cs_set (i := 2) (ce_lc (ci_range1 (fun _ => T.z_range) (ca_cons (ce_add ce_int (ce_fn (fun _ => (ok_law_draw T).mono (Nat.le_of_ble_eq_true rfl)) (fun _ => T.m_law_draw) T.F_law_draw.kp T.b_law_draw (ca_cons (ce_var 1) (ca_cons ce_int ca_nil)) (LenA.cons (LenA.cons LenA.nil)))) ca_nil)) (fun _ => (BlkOk.mk rfl (by decide +kernel) (by decide +kernel) (by decide +kernel) (by decide +kernel) : BlkOk ["script", "pen", "weights", "quota", "counts", "made", "told", "at", "own", "due", "total"] (defScope (top 31)) _ [("at", 7)])) (cg_name (j := 7) (by decide : (7 : Nat) ∉ ([0] : List Nat))) cts_nil (ce_fn (fun _ => (ok_law_draw T).mono (Nat.le_of_ble_eq_true rfl)) (fun _ => T.m_law_draw) T.F_law_draw.kp T.b_law_draw (ca_cons (ce_var 1) (ca_cons ce_int ca_nil)) (LenA.cons (LenA.cons LenA.nil))) rfl (by decide : ∀ j ∈ ([7] : List Nat), j ∈ ([7] : List Nat)) (by decide : ∀ j ∈ ([7] : List Nat), j ∉ ([0] : List Nat))) (by decide : (2 : Nat) ∉ ([0] : List Nat)))
    (css_cons (cs_set (i := 3) (ce_add ce_int (ce_fn (fun _ => (ok_law_draw T).mono (Nat.le_of_ble_eq_true rfl)) (fun _ => T.m_law_draw) T.F_law_draw.kp T.b_law_draw (ca_cons (ce_var 1) (ca_cons (ce_add (ce_sum (hm := (fun _ => T.z_sum)) (ha := (ca_cons (ce_var 2) ca_nil))) ce_int) ca_nil)) (LenA.cons (LenA.cons LenA.nil)))) (by decide : (3 : Nat) ∉ ([0] : List Nat)))
    (css_cons (cs_set (i := 3) (ce_min2 (hm := (fun _ => T.z_min)) (ha := (ca_cons (ce_var 3) (ca_cons ce_int ca_nil)))) (by decide : (3 : Nat) ∉ ([0] : List Nat)))
    (css_cons (cs_set (i := 4) (ce_fn (fun _ => (ok_law_sums T).mono (Nat.le_of_ble_eq_true rfl)) (fun _ => T.m_law_sums) T.F_law_sums.kp T.b_law_sums (ca_cons (ce_var 2) ca_nil) (LenA.cons LenA.nil)) (by decide : (4 : Nat) ∉ ([0] : List Nat)))
    (css_cons (cs_set (i := 5) (ce_make (c := "Scale") T.M_Scale (fun _ => ok_Scale_init T) (fun _ => T.m_Scale) T.b_Scale_init (ca_cons (ce_var 2) (ca_cons (ce_var 3) ca_nil)) (Nat.le_of_ble_eq_true rfl) (fun ρ xs ρ2 z => by rw [(LenA.cons (LenA.cons LenA.nil)) ρ xs ρ2 z]; rfl)) (by decide : (5 : Nat) ∉ ([0] : List Nat)))
    (css_cons (cs_if (ct_not (ct_tru (ce_fn (fun _ => (ok_law_is T 4).mono (Nat.le_of_ble_eq_true rfl)) (fun _ => T.m_law_is) T.F_law_is.kp T.b_law_is (ca_cons (ce_fn (fun _ => (ok_scale_carrying T).mono (Nat.le_of_ble_eq_true rfl)) (fun _ => T.m_scale_carrying) T.F_scale_carrying.kp T.b_scale_carrying (ca_cons (ce_var 5) ca_nil) (LenA.cons LenA.nil)) (ca_cons (ce_sum (hm := (fun _ => T.z_sum)) (ha := (ca_cons (ce_lcK 4 (ok := (fun _ => (BlkOk.mk rfl (by decide +kernel) (by decide +kernel) (by decide +kernel) (by decide +kernel) : BlkOk ["script", "pen", "weights", "quota", "counts", "made", "told", "at", "own", "due", "total"] (defScope (top 31)) _ [("total", 10)]))) (hg := (cg_name (j := 10) (by decide : (10 : Nat) ∉ ([4, 0] : List Nat)))) (ht := (cts_one (ct_cmp ok_ge geD_ok (ce_var 10) (ce_var 3) (nomark _)))) (he := (ce_ix (ce_var 4) (ce_var 10))) (hvs := rfl) (hts := (by decide : ∀ j ∈ ([10] : List Nat), j ∈ ([10] : List Nat))) (hP := (by decide : ∀ j ∈ ([10] : List Nat), j ∉ ([4, 0] : List Nat)))) ca_nil))) ca_nil)) (LenA.cons (LenA.cons LenA.nil))))) (css_one (cs_ret ce_bl)) css_nil)
    (css_cons (cs_if (ct_not (ct_tru (ce_fn (fun _ => (ok_law_is T 4).mono (Nat.le_of_ble_eq_true rfl)) (fun _ => T.m_law_is) T.F_law_is.kp T.b_law_is (ca_cons (ce_fn (fun _ => (ok_weight_counts T).mono (Nat.le_of_ble_eq_true rfl)) (fun _ => T.m_weight_counts) T.F_weight_counts.kp T.b_weight_counts (ca_cons (ce_var 5) ca_nil) (LenA.cons LenA.nil)) (ca_cons (ce_tuple (hm := (fun _ => T.z_tuple)) (ha := (ca_cons (ce_lc (ci_range1 (fun _ => T.z_range) (ca_cons (ce_var 3) ca_nil)) (fun _ => (BlkOk.mk rfl (by decide +kernel) (by decide +kernel) (by decide +kernel) (by decide +kernel) : BlkOk ["script", "pen", "weights", "quota", "counts", "made", "told", "at", "own", "due", "total"] (defScope (top 31)) _ [("total", 10)])) (cg_name (j := 10) (by decide : (10 : Nat) ∉ ([0] : List Nat))) cts_nil (ce_dget2 (ce_var 4) (ce_var 10) ce_int) rfl (by decide : ∀ j ∈ ([10] : List Nat), j ∈ ([10] : List Nat)) (by decide : ∀ j ∈ ([10] : List Nat), j ∉ ([0] : List Nat))) ca_nil))) ca_nil)) (LenA.cons (LenA.cons LenA.nil))))) (css_one (cs_ret ce_bl)) css_nil)
    (css_cons (cs_set (i := 6) (ce_fn (fun _ => (ok_scale_swings T).mono (Nat.le_of_ble_eq_true rfl)) (fun _ => T.m_scale_swings) T.F_scale_swings.kp T.b_scale_swings (ca_cons (ce_var 5) ca_nil) (LenA.cons LenA.nil)) (by decide : (6 : Nat) ∉ ([0] : List Nat)))
    (css_cons (cs_set (i := 7) (ce_fn (fun _ => (ok_law_draw T).mono (Nat.le_of_ble_eq_true rfl)) (fun _ => T.m_law_draw) T.F_law_draw.kp T.b_law_draw (ca_cons (ce_var 1) (ca_cons (ce_len (hm := (fun _ => T.z_len)) (ha := (ca_cons (ce_var 2) ca_nil))) ca_nil)) (LenA.cons (LenA.cons LenA.nil))) (by decide : (7 : Nat) ∉ ([0] : List Nat)))
    (css_cons (cs_set (i := 8) (ce_fn (fun _ => (ok_law_sums T).mono (Nat.le_of_ble_eq_true rfl)) (fun _ => T.m_law_sums) T.F_law_sums.kp T.b_law_sums (ca_cons (ce_add (ce_slice (ce_var 2) cp_none (cp_some (ce_var 7))) (ce_slice (ce_var 2) (cp_some (ce_add (ce_var 7) ce_int)) cp_none)) ca_nil) (LenA.cons LenA.nil)) (by decide : (8 : Nat) ∉ ([0] : List Nat)))
    (css_cons (cs_set (i := 9) (ce_sum (hm := (fun _ => T.z_sum)) (ha := (ca_cons (ce_lcK 8 (ok := (fun _ => (BlkOk.mk rfl (by decide +kernel) (by decide +kernel) (by decide +kernel) (by decide +kernel) : BlkOk ["script", "pen", "weights", "quota", "counts", "made", "told", "at", "own", "due", "total"] (defScope (top 31)) _ [("total", 10)]))) (hg := (cg_name (j := 10) (by decide : (10 : Nat) ∉ ([8, 0] : List Nat)))) (ht := (cts_one (ct_chain ok_le leD_ok ok_lt ltD_ok (ce_sub (ce_var 3) (ce_ix (ce_var 2) (ce_var 7))) (ce_var 10) (ce_var 3)))) (he := (ce_ix (ce_var 8) (ce_var 10))) (hvs := rfl) (hts := (by decide : ∀ j ∈ ([10] : List Nat), j ∈ ([10] : List Nat))) (hP := (by decide : ∀ j ∈ ([10] : List Nat), j ∉ ([8, 0] : List Nat)))) ca_nil))) (by decide : (9 : Nat) ∉ ([0] : List Nat)))
    (css_one (cs_ret (ce_and (ce_cmp ok_eq eqD_ok (ce_len (hm := (fun _ => T.z_len)) (ha := (ca_cons (ce_var 6) ca_nil))) (ce_len (hm := (fun _ => T.z_len)) (ha := (ca_cons (ce_var 2) ca_nil))) (nomark _)) (ce_one (ce_fn (fun _ => (ok_law_is T 4).mono (Nat.le_of_ble_eq_true rfl)) (fun _ => T.m_law_is) T.F_law_is.kp T.b_law_is (ca_cons (ce_ix (ce_var 6) (ce_var 7)) (ca_cons (ce_var 9) ca_nil)) (LenA.cons (LenA.cons LenA.nil))))))))))))))))))))
end
end k23
end DL
namespace DL
open PySem L2

/-! ## how mirrors are run -/
section
variable {α β : Type} {i j : Nat} {ρ : Env} {d e : D} {x y : XV} {f g h : Env → R XV} {a b : SV}
@[simp] theorem s_bind {k : α → Env → R β} {u : α} : (R.ok u ρ).bind k = k u ρ := rfl
@[simp] theorem s_bindX {k : α → Env → R β} {c : String} {ns vs} : (R.exc c ns vs ρ : R α).bind k = .exc c ns vs ρ := rfl
@[simp] theorem s_bindS {k : α → Env → R β} : (R.stuck : R α).bind k = .stuck := rfl
@[simp] theorem s_at0 : Env.at (a :: ρ) 0 = a := rfl
@[simp] theorem s_atS {n : Nat} : Env.at (a :: ρ) (n + 1) = Env.at ρ n := at_cons a ρ n
@[simp] theorem s_getS : getS i ρ = (match ρ.at i with
  | .dat d => .ok (.dat d) ρ
  | .own _ => .ok (.slot i) ρ
  | .brw _ => .ok (.slot i) ρ
  | .un => .stuck) := rfl
@[simp] theorem s_const : constS d ρ = .ok (.dat d) ρ := rfl
@[simp] theorem s_opnd : opnd f ρ = (f ρ).bind fun x ρ => (match x with
  | .own d => .ok (.dat d) ρ
  | x => .ok x ρ) := rfl
@[simp] theorem s_valS : valS f ρ = (f ρ).bind frzX := rfl
@[simp] theorem s_frzD : frzX (.dat d) ρ = .ok d ρ := rfl
@[simp] theorem s_frzO : frzX (.own d) ρ = .ok d ρ := rfl
@[simp] theorem s_frzS : frzX (.slot i) ρ = (match ρ.at i with
    | .own d => .ok d (ρ.set i (.dat d))
    | _ => .stuck) := rfl
@[simp] theorem s_contD : cont ρ (.dat d) = some d := rfl
@[simp] theorem s_contO : cont ρ (.own d) = some d := rfl
@[simp] theorem s_contS : cont ρ (.slot i) = (match ρ.at i with
    | .own d => some d
    | .brw d => some d
    | _ => none) := rfl
@[simp] theorem s_op2 {op} : op2S op f g ρ = (opnd f ρ).bind fun x ρ => (opnd g ρ).bind fun y ρ => app2 op x y ρ := rfl
@[simp] theorem s_op1 {op} : op1S op f ρ = (opnd f ρ).bind fun x ρ => app1 op x ρ := rfl
@[simp] theorem s_app2 {op} : app2 op x y ρ = (match cont ρ x, cont ρ y with
  | some d, some e => match op d e with
    | some z => .ok z ρ
    | none => .stuck
  | _, _ => .stuck) := rfl
@[simp] theorem s_app1 {op} : app1 op x ρ = (match cont ρ x with
  | some d => match op d with
    | some z => .ok z ρ
    | none => .stuck
  | _ => .stuck) := rfl
@[simp] theorem s_test : testS f ρ = (f ρ).bind fun x ρ => (match x with
  | .dat (.bl b) => .ok b ρ
  | _ => .stuck) := rfl
@[simp] theorem s_chain {p q} : chainS p q f g h ρ = (opnd f ρ).bind fun x ρ => (opnd g ρ).bind fun y ρ => (app2 p x y ρ).bind fun z ρ => (match z with
  | .dat (.bl true) => (opnd h ρ).bind fun w ρ => app2 q y w ρ
  | .dat (.bl false) => .ok (.dat (.bl false)) ρ
  | _ => .stuck) := rfl
variable {s t : Env → R Bool}
@[simp] theorem s_andT : andT s t ρ = (s ρ).bind fun b ρ => if b = true then t ρ else .ok false ρ := rfl
@[simp] theorem s_orT : orT s t ρ = (s ρ).bind fun b ρ => if b = true then .ok true ρ else t ρ := rfl
@[simp] theorem s_notT : notT s ρ = (s ρ).bind fun b ρ => .ok (!b) ρ := rfl
@[simp] theorem s_tru : truS f ρ = (opnd f ρ).bind fun x ρ => (match cont ρ x with
  | some d => match truD d with
    | some b => .ok b ρ
    | none => .stuck
  | none => .stuck) := rfl
@[simp] theorem s_truN : truD .non = some false := rfl
@[simp] theorem s_truB {b} : truD (.bl b) = some b := rfl
@[simp] theorem s_truI {i} : truD (.int i) = some (i != 0) := rfl
@[simp] theorem s_truT {l} : truD (.tup l) = some (!l.isEmpty) := rfl
@[simp] theorem s_truL {l} : truD (.lst l) = some (!l.isEmpty) := rfl
@[simp] theorem s_truR {l} : truD (.rol l) = some (!l.isEmpty) := rfl
@[simp] theorem s_andS : andS f g ρ = (f ρ).bind fun x ρ => (match x with
  | .dat (.bl true) => g ρ
  | .dat (.bl false) => .ok (.dat (.bl false)) ρ
  | _ => .stuck) := rfl
@[simp] theorem s_orS : orS f g ρ = (f ρ).bind fun x ρ => (match x with
  | .dat (.bl true) => .ok (.dat (.bl true)) ρ
  | .dat (.bl false) => g ρ
  | _ => .stuck) := rfl
@[simp] theorem s_notS : notS f ρ = (f ρ).bind fun x ρ => (match x with
  | .dat (.bl b) => .ok (.dat (.bl (!b))) ρ
  | _ => .stuck) := rfl
@[simp] theorem s_ifS : ifS t f g ρ = (t ρ).bind fun b ρ => if b = true then f ρ else g ρ := rfl
variable {fs : Env → R (List XV)}
@[simp] theorem s_consS : consS f fs ρ = (opnd f ρ).bind fun x ρ => (fs ρ).bind fun xs ρ => .ok (x :: xs) ρ := rfl
@[simp] theorem s_nilS : nilS ρ = .ok [] ρ := rfl
@[simp] theorem s_consD : consD f fs ρ = (valS f ρ).bind fun d ρ => (fs ρ).bind fun xs ρ => .ok (.dat d :: xs) ρ := rfl
@[simp] theorem s_call {op} : callS op fs ρ = (fs ρ).bind fun xs ρ => appN op xs ρ := rfl
@[simp] theorem s_appN {op} {xs} : appN op xs ρ = (match conts ρ xs with
  | some ds => match op ds with
    | some z => .ok z ρ
    | none => .stuck
  | _ => .stuck) := rfl
@[simp] theorem s_conts0 : conts ρ [] = some [] := rfl
@[simp] theorem s_contsC {xs} : conts ρ (x :: xs) = (match cont ρ x, conts ρ xs with
    | some d, some ds => some (d :: ds)
    | _, _ => none) := rfl
@[simp] theorem LIM_eq : LIM = 1000000 := rfl
/-! operations -/
variable {m n : Int} {l k : List D}
@[simp] theorem s_addI : addD (.int m) (.int n) = some (.dat (.int (m + n))) := rfl
@[simp] theorem s_addL : addD (.lst l) (.lst k) = if l.length + k.length ≤ LIM then some (.own (.lst (l ++ k))) else none := by
  unfold addD addI catD catT catS; dsimp only; split <;> rfl
@[simp] theorem s_addT : addD (.tup l) (.tup k) = if l.length + k.length ≤ LIM then some (.dat (.tup (l ++ k))) else none := by
  unfold addD addI catD catT catS; dsimp only; split <;> rfl
@[simp] theorem s_sub : subD (.int m) (.int n) = some (.dat (.int (m - n))) := rfl
@[simp] theorem s_mulI : mulD (.int m) (.int n) = if m.natAbs.log2 + n.natAbs.log2 < 1000000 then some (.dat (.int (m * n))) else none := by
  unfold mulD mulI repD repT; dsimp only; split <;> rfl
@[simp] theorem s_mulL : mulD (.lst l) (.int n) = if n.natAbs ≤ 1000000 ∧ l.length * n.toNat ≤ LIM then some (.own (.lst (List.replicate n.toNat l).flatten)) else none := by
  unfold mulD mulI repD repT; dsimp only; split <;> rfl
@[simp] theorem s_mulT : mulD (.tup l) (.int n) = if 2 ≤ n ∧ n.natAbs ≤ 1000 ∧ l.length ≤ 1000 ∧ l.isEmpty = false then some (.dat (.tup (List.replicate n.toNat l).flatten)) else none := rfl
@[simp] theorem s_fdiv : fdivD (.int m) (.int n) = if 0 < n ∧ n.natAbs.log2 < 9000 then some (.dat (.int (m / n))) else none := rfl
@[simp] theorem s_mod : modD (.int m) (.int n) = if 0 < n then some (.dat (.int (m % n))) else none := rfl
@[simp] theorem s_pow : powD (.int m) (.int n) = if 0 ≤ n ∧ n.natAbs ≤ 1000000 ∧ m.natAbs < 18446744073709551616 then some (.dat (.int (m ^ n.toNat))) else none := rfl
@[simp] theorem s_neg : negD (.int m) = some (.dat (.int (-m))) := rfl
@[simp] theorem s_lt : ltD (.int m) (.int n) = some (.dat (.bl (decide (m < n)))) := rfl
@[simp] theorem s_le : leD (.int m) (.int n) = some (.dat (.bl (decide (m ≤ n)))) := rfl
@[simp] theorem s_gt : gtD (.int m) (.int n) = some (.dat (.bl (decide (n < m)))) := rfl
@[simp] theorem s_ge : geD (.int m) (.int n) = some (.dat (.bl (decide (n ≤ m)))) := rfl
@[simp] theorem s_ixL : ixA (.lst l) (.int n) = (atI l n).map .dat := by
  unfold ixA ixL ixT ixS ixD; dsimp only; cases atI l n <;> rfl
@[simp] theorem s_ixR : ixA (.rol l) (.int n) = (atI l n).map .dat := by
  unfold ixA ixL ixT ixS ixD; dsimp only; cases atI l n <;> rfl
@[simp] theorem s_ixT : ixA (.tup l) (.int n) = (atI l n).map .dat := by
  unfold ixA ixL ixT ixS ixD; dsimp only; cases atI l n <;> rfl
@[simp] theorem s_ixD {ks} : ixA (.dct ks l) d = (keyD d).bind fun q => (dgetD ks l q).map .dat := by
  unfold ixA ixL ixT ixS ixD; dsimp only; cases keyD d <;> rfl
@[simp] theorem s_keyI : keyD (.int m) = some (.inl m) := rfl
@[simp] theorem s_keyS {z} : keyD (.str z) = some (.inr z) := rfl
@[simp] theorem s_get0 {q} : dgetD [] l q = none := rfl
@[simp] theorem s_getC {k : Key} {ks q} : dgetD (k :: ks) (d :: l) q = if k = q then some d else dgetD ks l q := rfl
@[simp] theorem s_lenL : lenD [.lst l] = some (.dat (.int l.length)) := rfl
@[simp] theorem s_lenR : lenD [.rol l] = some (.dat (.int l.length)) := rfl
@[simp] theorem s_lenT : lenD [.tup l] = some (.dat (.int l.length)) := rfl
@[simp] theorem s_int : intL [.int m] = some (.dat (.int m)) := rfl
@[simp] theorem s_list : listL [.lst l] = some (.own (.lst l)) := rfl
@[simp] theorem s_listR : listL [.rol l] = some (.own (.lst l)) := rfl
@[simp] theorem s_listT : listL [.tup l] = some (.own (.lst l)) := rfl
@[simp] theorem s_tupL : tupL [.lst l] = some (.dat (.tup l)) := rfl
@[simp] theorem s_tupR : tupL [.rol l] = some (.dat (.tup l)) := rfl
@[simp] theorem s_tupT : tupL [.tup l] = some (.dat (.tup l)) := rfl
@[simp] theorem s_sum : sumL [.lst l] = (intsD l).map fun ns => .dat (.int ns.sum) := rfl
@[simp] theorem s_max2 : max2 [.int m, .int n] = some (.dat (.int (if n > m then n else m))) := rfl
@[simp] theorem s_min2 : min2 [.int m, .int n] = some (.dat (.int (if n < m then n else m))) := rfl
/-! statements -/
variable {p q : Env → R Out}
@[simp] theorem s_seq : seqS p q ρ = (match p ρ with
  | .ok .nx ρ => q ρ
  | r => r) := rfl
@[simp] theorem s_next : nextS ρ = .ok .nx ρ := rfl
@[simp] theorem s_ret : retS f ρ = (f ρ).bind fun x ρ => .ok (.ret x) ρ := rfl
@[simp] theorem s_drop : dropS f ρ = (f ρ).bind fun _ ρ => .ok .nx ρ := rfl
@[simp] theorem s_ite : iteS t p q ρ = (t ρ).bind fun b ρ => if b = true then p ρ else q ρ := rfl
@[simp] theorem s_asg : asgS i f ρ = (f ρ).bind (storeS i) := rfl
@[simp] theorem s_store : storeS i x ρ = (takeX x ρ).bind fun x ρ => .ok .nx (ρ.set i (svOf x)) := rfl
@[simp] theorem s_takeD : takeX (.dat d) ρ = .ok (.dat d) ρ := rfl
@[simp] theorem s_takeO : takeX (.own d) ρ = .ok (.own d) ρ := rfl
@[simp] theorem s_takeS : takeX (.slot i) ρ = (match ρ.at i with
    | .own d => .ok (.dat d) (ρ.set i (.dat d))
    | _ => .stuck) := rfl
@[simp] theorem s_svD : svOf (.dat d) = .dat d := rfl
@[simp] theorem s_svO : svOf (.own d) = .own d := rfl
@[simp] theorem s_pair : pairS f g ρ = (f ρ).bind fun x ρ => (takeX x ρ).bind fun x ρ => (g ρ).bind fun y ρ => (takeX y ρ).bind fun y ρ => .ok (x, y) ρ := rfl
@[simp] theorem s_par2 : par2S i j f g ρ = (pairS f g ρ).bind fun p ρ => .ok .nx ((ρ.set i (svOf p.1)).set j (svOf p.2)) := rfl
@[simp] theorem s_move : moveS j i ρ = (match ρ.at i with
  | .own d => if i = j then .stuck else .ok .nx ((ρ.set i .un).set j (.own d))
  | _ => .stuck) := rfl
@[simp] theorem s_forget0 : forget [] ρ = ρ := rfl
@[simp] theorem s_forgetC {v} : forget (i :: v) ρ = forget v (ρ.set i .un) := rfl
@[simp] theorem s_nameT : nameT j d ρ = some (ρ.set j (.dat d)) := rfl
@[simp] theorem s_nilT : nilT [] ρ = some ρ := rfl
@[simp] theorem s_consT {u : D → Env → Option Env} {v : List D → Env → Option Env} : consT u v (d :: l) ρ = (u d ρ).bind (v l) := rfl
@[simp] theorem s_tup2T {v : List D → Env → Option Env} {n : Nat} : tupT n v (.tup l) ρ = if l.length = n then v l ρ else none := rfl
@[simp] theorem s_forS {fg fi ft fb} : forS fg fi ft fb ρ = (fi ρ).bind fun items ρ => forL fg ft fb items ρ := rfl
@[simp] theorem s_inV {it} : inV_ f it ρ = (valS f ρ).bind it := rfl
@[simp] theorem s_itL : itV (.lst l) ρ = .ok l ρ := rfl
@[simp] theorem s_itR : itV (.rol l) ρ = .ok l ρ := rfl
@[simp] theorem s_itT : itV (.tup l) ρ = .ok l ρ := rfl
@[simp] theorem s_rangeI {rg} : rangeI rg fs ρ = (fs ρ).bind rg := rfl
@[simp] theorem s_lcS {vs fi ft tt} : lcS vs fi ft tt f ρ = (fi ρ).bind (lcR vs ft tt f) := rfl
@[simp] theorem s_tupS : tupS fs ρ = (fs ρ).bind tupO := rfl
@[simp] theorem s_lstS : lstS fs ρ = (fs ρ).bind lstO := rfl
@[simp] theorem s_dats0 : datsOf [] = some [] := rfl
@[simp] theorem s_datsC {xs} : datsOf (.dat d :: xs) = (datsOf xs).map (d :: ·) := rfl
@[simp] theorem s_tupO {xs} : tupO xs ρ = (match datsOf xs with
  | some ds => if ds.length ≤ LIM then .ok (.dat (.tup ds)) ρ else .stuck
  | none => .stuck) := rfl
@[simp] theorem s_lstO {xs} : lstO xs ρ = (match datsOf xs with
  | some ds => if ds.length ≤ LIM then .ok (.own (.lst ds)) ρ else .stuck
  | none => .stuck) := rfl
@[simp] theorem s_asgT {ft} : asgT f ft ρ = (valS f ρ).bind fun d ρ => (match ft d ρ with
  | some ρ' => .ok .nx ρ'
  | none => .stuck) := rfl
@[simp] theorem s_item : itemS i f g ρ = (valS f ρ).bind fun d ρ => (match ρ.at i with
  | .own _ => (opnd g ρ).bind fun y ρ => setAt i y d ρ
  | _ => .stuck) := rfl
@[simp] theorem s_setAt : setAt i x d ρ = (match cont ρ x with
  | some k => match ρ.at i with
    | .own (.lst l) => match k with
      | .int n => match ixN l.length n with
        | some j => .ok .nx (ρ.set i (.own (.lst (l.set j d))))
        | none => .stuck
      | _ => .stuck
    | .own (.dct ks vs) => match keyD k with
      | some q => if ks.length < LIM then .ok .nx (ρ.set i (.own (.dct (putKs q ks) (putDs q d ks vs)))) else .stuck
      | none => .stuck
    | _ => .stuck
  | none => .stuck) := rfl
@[simp] theorem s_meth {op} : methS op i fs ρ = (match ρ.at i with
  | .own (.lst _) => (fs ρ).bind (methAt op i)
  | _ => .stuck) := rfl
@[simp] theorem s_methAt {op} {xs} : methAt op i xs ρ = (match ρ.at i, datsOf xs with
  | .own d, some ds => match op d ds with
    | some (d', x) => .ok (.dat x) (ρ.set i (.own d'))
    | none => .stuck
  | _, _ => .stuck) := rfl
@[simp] theorem s_append : appendD (.lst l) [d] = if l.length < LIM then some (.lst (l ++ [d]), .non) else none := rfl
@[simp] theorem s_fld {cs nm} : fldS cs nm f ρ = op1S (fldD cs nm) f ρ := rfl
@[simp] theorem s_fldD {cs nm c ns vs} : fldD cs nm (.ins c ns vs) = if cs.contains c = true then (lookD nm ns vs).map XV.dat else none := rfl
@[simp] theorem s_fn {F} : fnS F fs ρ = (fs ρ).bind fun xs ρ => callF F xs ρ := rfl
@[simp] theorem s_callF {F xs} : callF F xs ρ = (match argsOf ρ xs with
  | some args => if noTwice (slotsOf xs) = true then match F args with
      | .ok x outs => .ok x (putBack xs outs ρ)
      | .exc c ns vs outs => .exc c ns vs (putBack xs outs ρ)
      | .stuck => .stuck
    else .stuck
  | none => .stuck) := rfl
@[simp] theorem s_args0 : argsOf ρ [] = some [] := rfl
@[simp] theorem s_argsD {xs} : argsOf ρ (.dat d :: xs) = (argsOf ρ xs).map (SV.dat d :: ·) := rfl
@[simp] theorem s_argsS {xs} : argsOf ρ (.slot i :: xs) = (match ρ.at i with
    | .own d => (argsOf ρ xs).map (SV.own d :: ·)
    | .brw d => (argsOf ρ xs).map (SV.brw d :: ·)
    | _ => none) := rfl
@[simp] theorem s_slots0 : slotsOf [] = [] := rfl
@[simp] theorem s_slotsD {xs} : slotsOf (.dat d :: xs) = slotsOf xs := rfl
@[simp] theorem s_slotsS {xs} : slotsOf (.slot i :: xs) = i :: slotsOf xs := rfl
@[simp] theorem s_tw0 : noTwice [] = true := rfl
@[simp] theorem s_twC {u} : noTwice (i :: u) = (!u.contains i && noTwice u) := rfl
@[simp] theorem s_pb {xs outs} : putBack xs outs ρ = (match slotsOf xs with
  | [] => ρ
  | _ => putBackL xs outs 0 ρ) := rfl
@[simp] theorem s_pb0 {xs outs} : putBackL xs outs i [] = [] := rfl
@[simp] theorem s_pbC {xs outs} : putBackL xs outs i (a :: ρ) = putBack1 xs outs i a :: putBackL xs outs (i + 1) ρ := rfl
@[simp] theorem s_pb1O {xs outs} : putBack1 xs outs i (.own d) = (match findSlot xs outs i with
    | some o => backSV o
    | none => .own d) := rfl
@[simp] theorem s_pb1D {xs outs} : putBack1 xs outs i (.dat d) = .dat d := rfl
@[simp] theorem s_pb1B {xs outs} : putBack1 xs outs i (.brw d) = .brw d := rfl
@[simp] theorem s_pb1U {xs outs} : putBack1 xs outs i .un = .un := rfl
@[simp] theorem s_fsS {xs o} {outs : List SV} {k : Nat} : findSlot (.slot k :: xs) (o :: outs) i = if k = i then some o else findSlot xs outs i := rfl
@[simp] theorem s_fsD {xs o} {outs : List SV} : findSlot (.dat d :: xs) (o :: outs) i = findSlot xs outs i := rfl
@[simp] theorem s_fs0 {outs : List SV} : findSlot [] outs i = none := by cases outs <;> rfl
@[simp] theorem s_backO : backSV (.own d) = .own d := rfl
@[simp] theorem s_backD : backSV (.dat d) = .dat d := rfl
@[simp] theorem s_backU : backSV .un = .un := rfl
@[simp] theorem s_backB : backSV (.brw d) = .un := rfl
@[simp] theorem s_own0 {P} {n : Nat} : ownIn P n [] = true := rfl
@[simp] theorem s_ownO {P args} {n : Nat} : ownIn P n (.own d :: args) = (P.contains n && ownIn P (n + 1) args) := rfl
@[simp] theorem s_ownD {P args} {n : Nat} : ownIn P n (.dat d :: args) = ownIn P (n + 1) args := rfl
@[simp] theorem s_ownB {P args} {n : Nat} : ownIn P n (.brw d :: args) = ownIn P (n + 1) args := rfl
@[simp] theorem s_outs0 : outsOf [] ρ = [] := rfl
@[simp] theorem s_outsO {args} : outsOf (.own d :: args) (a :: ρ) = backSV a :: outsOf args ρ := rfl
@[simp] theorem s_outsD {args} : outsOf (.dat d :: args) (a :: ρ) = .dat d :: outsOf args ρ := rfl
@[simp] theorem s_outsB {args} : outsOf (.brw d :: args) (a :: ρ) = .brw d :: outsOf args ρ := rfl
@[simp] theorem s_runF {P b} {n m : Nat} {args} : runF n m P b args = if ownIn P 0 args = true then endF n args (b (args ++ List.replicate m .un)) else .stuck := rfl
@[simp] theorem s_endN {n : Nat} {args} : endF n args (.ok .nx ρ) = .ok (.dat .non) (outsOf args ρ) := rfl
@[simp] theorem s_endD {n : Nat} {args} : endF n args (.ok (.ret (.dat d)) ρ) = .ok (.dat d) (outsOf args ρ) := rfl
@[simp] theorem s_endO {n : Nat} {args} : endF n args (.ok (.ret (.own d)) ρ) = .ok (.own d) (outsOf args ρ) := rfl
@[simp] theorem s_endS {n : Nat} {args} : endF n args (.ok (.ret (.slot i)) ρ) = (if n ≤ i then match ρ.at i with
      | .own d => .ok (.own d) (outsOf args ρ)
      | _ => .stuck
    else .stuck) := rfl
@[simp] theorem s_isi {T} : isiS T f ρ = op1S (isiOp T) f ρ := rfl
@[simp] theorem s_isi2 {T U} : isi2S T U f ρ = op1S (isi2D T U) f ρ := rfl
end
section
@[simp] theorem i_IntN : isiOp tyInt .non = some (.dat (.bl false)) := rfl
@[simp] theorem j_IntN : isiD tyInt .non = some false := rfl
@[simp] theorem i_IntB {b : Bool} : isiOp tyInt (.bl b) = some (.dat (.bl true)) := rfl
@[simp] theorem j_IntB {b : Bool} : isiD tyInt (.bl b) = some true := rfl
@[simp] theorem i_IntI {n : Int} : isiOp tyInt (.int n) = some (.dat (.bl true)) := rfl
@[simp] theorem j_IntI {n : Int} : isiD tyInt (.int n) = some true := rfl
@[simp] theorem i_IntS {z : Str} : isiOp tyInt (.str z) = some (.dat (.bl false)) := rfl
@[simp] theorem j_IntS {z : Str} : isiD tyInt (.str z) = some false := rfl
@[simp] theorem i_IntT {l : List D} : isiOp tyInt (.tup l) = some (.dat (.bl false)) := rfl
@[simp] theorem j_IntT {l : List D} : isiD tyInt (.tup l) = some false := rfl
@[simp] theorem i_IntL {l : List D} : isiOp tyInt (.lst l) = some (.dat (.bl false)) := rfl
@[simp] theorem j_IntL {l : List D} : isiD tyInt (.lst l) = some false := rfl
@[simp] theorem i_IntR {l : List D} : isiOp tyInt (.rol l) = some (.dat (.bl false)) := rfl
@[simp] theorem j_IntR {l : List D} : isiD tyInt (.rol l) = some false := rfl
@[simp] theorem i_BoolN : isiOp tyBool .non = some (.dat (.bl false)) := rfl
@[simp] theorem j_BoolN : isiD tyBool .non = some false := rfl
@[simp] theorem i_BoolB {b : Bool} : isiOp tyBool (.bl b) = some (.dat (.bl true)) := rfl
@[simp] theorem j_BoolB {b : Bool} : isiD tyBool (.bl b) = some true := rfl
@[simp] theorem i_BoolI {n : Int} : isiOp tyBool (.int n) = some (.dat (.bl false)) := rfl
@[simp] theorem j_BoolI {n : Int} : isiD tyBool (.int n) = some false := rfl
@[simp] theorem i_BoolS {z : Str} : isiOp tyBool (.str z) = some (.dat (.bl false)) := rfl
@[simp] theorem j_BoolS {z : Str} : isiD tyBool (.str z) = some false := rfl
@[simp] theorem i_BoolT {l : List D} : isiOp tyBool (.tup l) = some (.dat (.bl false)) := rfl
@[simp] theorem j_BoolT {l : List D} : isiD tyBool (.tup l) = some false := rfl
@[simp] theorem i_BoolL {l : List D} : isiOp tyBool (.lst l) = some (.dat (.bl false)) := rfl
@[simp] theorem j_BoolL {l : List D} : isiD tyBool (.lst l) = some false := rfl
@[simp] theorem i_BoolR {l : List D} : isiOp tyBool (.rol l) = some (.dat (.bl false)) := rfl
@[simp] theorem j_BoolR {l : List D} : isiD tyBool (.rol l) = some false := rfl
@[simp] theorem i_TupleN : isiOp tyTuple .non = some (.dat (.bl false)) := rfl
@[simp] theorem j_TupleN : isiD tyTuple .non = some false := rfl
@[simp] theorem i_TupleB {b : Bool} : isiOp tyTuple (.bl b) = some (.dat (.bl false)) := rfl
@[simp] theorem j_TupleB {b : Bool} : isiD tyTuple (.bl b) = some false := rfl
@[simp] theorem i_TupleI {n : Int} : isiOp tyTuple (.int n) = some (.dat (.bl false)) := rfl
@[simp] theorem j_TupleI {n : Int} : isiD tyTuple (.int n) = some false := rfl
@[simp] theorem i_TupleS {z : Str} : isiOp tyTuple (.str z) = some (.dat (.bl false)) := rfl
@[simp] theorem j_TupleS {z : Str} : isiD tyTuple (.str z) = some false := rfl
@[simp] theorem i_TupleT {l : List D} : isiOp tyTuple (.tup l) = some (.dat (.bl true)) := rfl
@[simp] theorem j_TupleT {l : List D} : isiD tyTuple (.tup l) = some true := rfl
@[simp] theorem i_TupleL {l : List D} : isiOp tyTuple (.lst l) = some (.dat (.bl false)) := rfl
@[simp] theorem j_TupleL {l : List D} : isiD tyTuple (.lst l) = some false := rfl
@[simp] theorem i_TupleR {l : List D} : isiOp tyTuple (.rol l) = some (.dat (.bl false)) := rfl
@[simp] theorem j_TupleR {l : List D} : isiD tyTuple (.rol l) = some false := rfl
@[simp] theorem i_ListN : isiOp tyList .non = some (.dat (.bl false)) := rfl
@[simp] theorem j_ListN : isiD tyList .non = some false := rfl
@[simp] theorem i_ListB {b : Bool} : isiOp tyList (.bl b) = some (.dat (.bl false)) := rfl
@[simp] theorem j_ListB {b : Bool} : isiD tyList (.bl b) = some false := rfl
@[simp] theorem i_ListI {n : Int} : isiOp tyList (.int n) = some (.dat (.bl false)) := rfl
@[simp] theorem j_ListI {n : Int} : isiD tyList (.int n) = some false := rfl
@[simp] theorem i_ListS {z : Str} : isiOp tyList (.str z) = some (.dat (.bl false)) := rfl
@[simp] theorem j_ListS {z : Str} : isiD tyList (.str z) = some false := rfl
@[simp] theorem i_ListT {l : List D} : isiOp tyList (.tup l) = some (.dat (.bl false)) := rfl
@[simp] theorem j_ListT {l : List D} : isiD tyList (.tup l) = some false := rfl
@[simp] theorem i_ListL {l : List D} : isiOp tyList (.lst l) = some (.dat (.bl true)) := rfl
@[simp] theorem j_ListL {l : List D} : isiD tyList (.lst l) = some true := rfl
@[simp] theorem i_ListR {l : List D} : isiOp tyList (.rol l) = some (.dat (.bl true)) := rfl
@[simp] theorem j_ListR {l : List D} : isiD tyList (.rol l) = some true := rfl
@[simp] theorem i_StrN : isiOp tyStr .non = some (.dat (.bl false)) := rfl
@[simp] theorem j_StrN : isiD tyStr .non = some false := rfl
@[simp] theorem i_StrB {b : Bool} : isiOp tyStr (.bl b) = some (.dat (.bl false)) := rfl
@[simp] theorem j_StrB {b : Bool} : isiD tyStr (.bl b) = some false := rfl
@[simp] theorem i_StrI {n : Int} : isiOp tyStr (.int n) = some (.dat (.bl false)) := rfl
@[simp] theorem j_StrI {n : Int} : isiD tyStr (.int n) = some false := rfl
@[simp] theorem i_StrS {z : Str} : isiOp tyStr (.str z) = some (.dat (.bl true)) := rfl
@[simp] theorem j_StrS {z : Str} : isiD tyStr (.str z) = some true := rfl
@[simp] theorem i_StrT {l : List D} : isiOp tyStr (.tup l) = some (.dat (.bl false)) := rfl
@[simp] theorem j_StrT {l : List D} : isiD tyStr (.tup l) = some false := rfl
@[simp] theorem i_StrL {l : List D} : isiOp tyStr (.lst l) = some (.dat (.bl false)) := rfl
@[simp] theorem j_StrL {l : List D} : isiD tyStr (.lst l) = some false := rfl
@[simp] theorem i_StrR {l : List D} : isiOp tyStr (.rol l) = some (.dat (.bl false)) := rfl
@[simp] theorem j_StrR {l : List D} : isiD tyStr (.rol l) = some false := rfl
@[simp] theorem s_isi2D {T U : IsiT} {d : D} : isi2D T U d = (match isiD T d with
  | some true => some (xbl true)
  | some false => (isiD U d).map xbl
  | none => none) := by unfold isi2D; cases isiD T d with
  | none => rfl
  | some b => cases b <;> rfl
@[simp] theorem s_xbl {b : Bool} : xbl b = .dat (.bl b) := rfl
@[simp] theorem s_xint {b : Int} : xint b = .dat (.int b) := rfl
end
@[simp] theorem s_eqI {m n : Int} : eqD (.int m) (.int n) = some (.dat (.bl (decide (m = n)))) := by
  show (eqDat _ _).map xbl = _
  unfold eqDat toP
  simp [SeqAt.shaped, PyData.eqv]
  refine ⟨⟨⟨rfl, ?_⟩, rfl, ?_⟩, ?_⟩
  · simp [PyData.depth]
  · simp [PyData.depth]
  · by_cases h : m = n <;> simp [h]
theorem seq_nx {p q : Env → R Out} {ρ ρ' : Env} (h : p ρ = .ok .nx ρ') : seqS p q ρ = q ρ' := by rw [s_seq, h]
theorem seq_ret {p q : Env → R Out} {ρ ρ' : Env} {x : XV} (h : p ρ = .ok (.ret x) ρ') : seqS p q ρ = .ok (.ret x) ρ' := by rw [s_seq, h]
theorem ite_T {t : Env → R Bool} {p q : Env → R Out} {ρ ρ' : Env} (h : t ρ = .ok true ρ') : iteS t p q ρ = p ρ' := by rw [s_ite, h]; rfl
theorem ite_F {t : Env → R Bool} {p q : Env → R Out} {ρ ρ' : Env} (h : t ρ = .ok false ρ') : iteS t p q ρ = q ρ' := by rw [s_ite, h]; rfl
@[simp] theorem pb1_no {xs : List XV} {outs : List SV} {i : Nat} {s : SV} (h : findSlot xs outs i = none) : putBack1 xs outs i s = s := by
  cases s <;> simp [h]
end DL
namespace DL
open PySem L2

/-! ## loops and comprehensions by invariants -/
theorem forL_ind {fg : List Nat} {ft : D → Env → Option Env} {fb : Env → R Out} (P : List D → Env → Prop)
    (step : ∀ d ds ρ, P (d :: ds) ρ → ∃ ρ1 ρ2, ft d (forget fg ρ) = some ρ1 ∧ fb ρ1 = .ok .nx ρ2 ∧ P ds ρ2) : ∀ items ρ, P items ρ → ∃ ρ', forL fg ft fb items ρ = .ok .nx (forget fg ρ') ∧ P [] ρ'
  | [], ρ, h => ⟨ρ, rfl, h⟩
  | d :: ds, ρ, h => by
    obtain ⟨ρ1, ρ2, h1, h2, h3⟩ := step d ds ρ h
    obtain ⟨ρ', e, h4⟩ := forL_ind P step ds ρ2 h3
    refine ⟨ρ', ?_, h4⟩
    rw [forL, h1]
    dsimp only
    rw [h2]
    exact e
theorem lcL_ind {vs : List Nat} {ft : D → Env → Option Env} {tt : Env → R Bool} {fe : Env → R XV} (P : List D → List D → Env → Prop)
    (step : ∀ d ds acc ρ, P (d :: ds) acc ρ → ∃ ρ1 b ρ2, ft d ρ = some ρ1 ∧ tt ρ1 = .ok b ρ2 ∧ (b = true → ∃ y ρ3, valS fe ρ2 = .ok y ρ3 ∧ acc.length < LIM ∧ P ds (acc ++ [y]) (forget vs ρ3)) ∧ (b = false → P ds acc (forget vs ρ2))) :
    ∀ items acc ρ, P items acc ρ → ∃ out ρ', lcL vs ft tt fe items acc ρ = .ok out ρ' ∧ P [] out ρ'
  | [], acc, ρ, h => ⟨acc, ρ, rfl, h⟩
  | d :: ds, acc, ρ, h => by
    obtain ⟨ρ1, b, ρ2, h1, h2, h3, h4⟩ := step d ds acc ρ h
    rw [lcL, h1]
    dsimp only
    rw [h2]
    cases b with
    | false => exact lcL_ind P step ds acc _ (h4 rfl)
    | true =>
      obtain ⟨y, ρ3, h5, h6, h7⟩ := h3 rfl
      dsimp only
      rw [h5]
      dsimp only
      rw [if_pos h6]
      exact lcL_ind P step ds _ _ h7
theorem lcR_map {α : Type} {vs : List Nat} {ft : D → Env → Option Env} {tt : Env → R Bool} {fe : Env → R XV} {L : List α} {it : α → D} {y : α → Option D} {ρ : Env} (hc : clear vs ρ = true) (hl : L.length ≤ LIM)
    (h : ∀ x ∈ L, ∃ ρ1 b ρ2, ft (it x) (forget vs ρ) = some ρ1 ∧ tt ρ1 = .ok b ρ2 ∧ (b = true → ∃ v ρ3, valS fe ρ2 = .ok v ρ3 ∧ y x = some v ∧ forget vs ρ3 = forget vs ρ) ∧ (b = false → y x = none ∧ forget vs ρ2 = forget vs ρ)) :
    lcR vs ft tt fe (L.map it) ρ = .ok (.own (.lst (L.filterMap y))) (restore vs ρ (forget vs ρ)) := by
  have key : ∀ (l : List α) (acc : List D), (∀ x ∈ l, x ∈ L) → acc.length + l.length ≤ LIM → lcL vs ft tt fe (l.map it) acc (forget vs ρ) = .ok (acc ++ l.filterMap y) (forget vs ρ) := by
    intro l
    induction l with
    | nil => intro acc _ _; simp [lcL]
    | cons x l ih =>
      intro acc hm hlen
      have hL : LIM = 1000000 := rfl
      simp at hlen
      obtain ⟨ρ1, b, ρ2, h1, h2, h3, h4⟩ := h x (hm x List.mem_cons_self)
      rw [List.map_cons, lcL, h1]
      dsimp only
      rw [h2]
      cases b with
      | false =>
        obtain ⟨e1, e2⟩ := h4 rfl
        dsimp only
        rw [e2, ih acc (fun z hz => hm z (List.mem_cons_of_mem _ hz)) (by omega), List.filterMap_cons, e1]
      | true =>
        obtain ⟨v, ρ3, e1, e2, e3⟩ := h3 rfl
        dsimp only
        rw [e1]
        dsimp only
        rw [if_pos (by omega), e3, ih (acc ++ [v]) (fun z hz => hm z (List.mem_cons_of_mem _ hz)) (by simp; omega), List.filterMap_cons, e2]
        simp
  unfold lcR
  rw [if_pos hc, key L [] (fun _ h => h) (by simpa using hl)]
  simp
/-- each item gives one -/
theorem lcR_all {α : Type} {vs : List Nat} {ft : D → Env → Option Env} {tt : Env → R Bool} {fe : Env → R XV} {L : List α} {it : α → D} {y : α → D} {ρ : Env} (hc : clear vs ρ = true) (hl : L.length ≤ LIM)
    (h : ∀ x ∈ L, ∃ ρ1 ρ2 ρ3, ft (it x) (forget vs ρ) = some ρ1 ∧ tt ρ1 = .ok true ρ2 ∧ valS fe ρ2 = .ok (y x) ρ3 ∧ forget vs ρ3 = forget vs ρ) :
    lcR vs ft tt fe (L.map it) ρ = .ok (.own (.lst (L.map y))) (restore vs ρ (forget vs ρ)) := by
  rw [lcR_map (y := fun x => some (y x)) hc hl fun x hx => ?_]
  · rw [show (fun x => some (y x)) = some ∘ y from rfl, List.filterMap_eq_map]
  · obtain ⟨ρ1, ρ2, ρ3, h1, h2, h3, h4⟩ := h x hx
    exact ⟨ρ1, true, ρ2, h1, h2, fun _ => ⟨_, ρ3, h3, rfl, h4⟩, fun z => by cases z⟩
theorem forL_st {fg : List Nat} {ft : D → Env → Option Env} {fb : Env → R Out} : ∀ (l : List D) (st : Nat → Env) (ρ : Env), forget fg ρ = st 0 →
    (∀ i (hi : i < l.length), ∃ ρ1 ρ2, ft l[i] (st i) = some ρ1 ∧ fb ρ1 = .ok .nx ρ2 ∧ forget fg ρ2 = st (i + 1)) → forL fg ft fb l ρ = .ok .nx (st l.length)
  | [], st, ρ, h0, _ => by rw [forL, h0]; rfl
  | d :: ds, st, ρ, h0, h => by
    obtain ⟨ρ1, ρ2, h1, h2, h3⟩ := h 0 (by simp)
    rw [forL, h0, show ft d (st 0) = some ρ1 from h1]
    dsimp only
    rw [h2]
    exact forL_st ds (fun i => st (i + 1)) ρ2 h3 fun i hi => h (i + 1) (by simp; omega)
theorem lcR_inv {α : Type} {vs : List Nat} {ft : D → Env → Option Env} {tt : Env → R Bool} {fe : Env → R XV} {L : List α} {it : α → D} {y : α → D} {ρ : Env} (I : Env → Prop) (hc : clear vs ρ = true) (hl : L.length ≤ LIM) (h0 : I (forget vs ρ))
    (h : ∀ x ∈ L, ∀ ρ0, I ρ0 → ∃ ρ1 ρ2 ρ3, ft (it x) ρ0 = some ρ1 ∧ tt ρ1 = .ok true ρ2 ∧ valS fe ρ2 = .ok (y x) ρ3 ∧ I (forget vs ρ3)) :
    ∃ ρ', I ρ' ∧ lcR vs ft tt fe (L.map it) ρ = .ok (.own (.lst (L.map y))) (restore vs ρ ρ') := by
  have key : ∀ (l : List α) (acc : List D) (ρ0 : Env), (∀ x ∈ l, x ∈ L) → acc.length + l.length ≤ LIM → I ρ0 → ∃ ρ', I ρ' ∧ lcL vs ft tt fe (l.map it) acc ρ0 = .ok (acc ++ l.map y) ρ' := by
    intro l
    induction l with
    | nil => intro acc ρ0 _ _ hI; exact ⟨ρ0, hI, by simp [lcL]⟩
    | cons x l ih =>
      intro acc ρ0 hm hlen hI
      have hL : LIM = 1000000 := rfl
      simp at hlen
      obtain ⟨ρ1, ρ2, ρ3, h1, h2, h3, h4⟩ := h x (hm x List.mem_cons_self) ρ0 hI
      obtain ⟨ρ', i1, i2⟩ := ih (acc ++ [y x]) (forget vs ρ3) (fun z hz => hm z (List.mem_cons_of_mem _ hz)) (by simp; omega) h4
      refine ⟨ρ', i1, ?_⟩
      rw [List.map_cons, lcL, h1]
      dsimp only
      rw [h2]
      dsimp only
      rw [h3]
      dsimp only
      rw [if_pos (by omega), i2]
      simp
  obtain ⟨ρ', i1, i2⟩ := key L [] (forget vs ρ) (fun _ h => h) (by simpa using hl) h0
  refine ⟨ρ', i1, ?_⟩
  unfold lcR
  rw [if_pos hc, i2]
  simp
/-! ## items -/
theorem rangeD_eq (lo : Int) (n : Nat) : rangeD lo n = (List.range n).map fun i => D.int (lo + (i : Nat)) := by
  refine List.ext_getElem? fun i => ?_
  by_cases h : i < n
  · rw [rangeD_get lo n i h]; simp [h]
  · rw [List.getElem?_eq_none (by rw [rangeD_len]; omega), List.getElem?_eq_none (by simp; omega)]
theorem enumD_eq (l : List D) : enumD 0 l = (List.range l.length).map fun i => D.tup [.int (i : Nat), l.getD i .non] := by
  refine List.ext_getElem? fun i => ?_
  by_cases h : i < l.length
  · have h' : i < (enumD 0 l).length := by rw [enumD_len]; exact h
    obtain ⟨e, h1, h2⟩ := enumD_get 0 l i _ (List.getElem?_eq_getElem h')
    rw [List.getElem?_eq_getElem h', h2]
    rw [List.getElem?_eq_getElem h] at h1
    cases h1
    simp [h]
  · rw [List.getElem?_eq_none (by rw [enumD_len]; omega), List.getElem?_eq_none (by simp; omega)]
theorem zipD_eq : ∀ (l m : List D), zipD l m = (l.zip m).map fun p => D.tup [p.1, p.2]
  | [], m => by simp [zipD]
  | _ :: _, [] => by simp [zipD]
  | d :: ds, e :: es => by simp [zipD, zipD_eq ds es]
/-- a bound that range takes -/
structure Rg (n : Int) : Prop where
  fit : n.natAbs < 4611686018427387904
theorem Rg.of {n : Int} (h : -1000000000 ≤ n) (h' : n ≤ 1000000000) : Rg n := ⟨by omega⟩
theorem rg1_ok {n : Int} {ρ : Env} (h : Rg n) : rg1 [.dat (.int n)] ρ = .ok (rangeD 0 n.toNat) ρ := if_pos h.fit
theorem rg2_ok {m n : Int} {ρ : Env} (h : Rg m) (h' : Rg n) : rg2 [.dat (.int m), .dat (.int n)] ρ = .ok (rangeD m (n - m).toNat) ρ := if_pos ⟨h.fit, h'.fit⟩
@[simp] theorem s_enumL {l : List D} {ρ : Env} : enumL [.dat (.lst l)] ρ = .ok (enumD 0 l) ρ := rfl
@[simp] theorem s_zipLL {l m : List D} {ρ : Env} : zipL [.dat (.lst l), .dat (.lst m)] ρ = .ok (zipD l m) ρ := rfl
@[simp] theorem s_zipTT {l m : List D} {ρ : Env} : zipL [.dat (.tup l), .dat (.tup m)] ρ = .ok (zipD l m) ρ := rfl
@[simp] theorem s_overD {α : Type} {i : Nat} {body : List D → Env → R α} {ρ : Env} : overS i body ρ = (match ρ.at i with
  | .own (.lst l) => giveBack i (.lst l) (body l (ρ.set i (.brw (.lst l))))
  | .brw (.lst l) => body l ρ
  | .dat (.lst l) => body l ρ
  | .dat (.rol l) => body l ρ
  | .dat (.tup l) => body l ρ
  | _ => .stuck) := rfl
@[simp] theorem s_gb {α : Type} {i : Nat} {d : D} {x : α} {ρ : Env} : giveBack i d (.ok x ρ) = .ok x (ρ.set i (.own d)) := rfl
@[simp] theorem s_keysS {α : Type} {i : Nat} {body : List D → Env → R α} {ρ : Env} : keysS i body ρ = (match ρ.at i with
  | .own (.dct ks vs) => lockBack i (.dct ks vs) (body (ks.map keyDat) (ρ.set i (.brw (.dct ks vs))))
  | _ => .stuck) := rfl
@[simp] theorem s_lb {α : Type} {i : Nat} {d : D} {x : α} {ρ : Env} : lockBack i d (.ok x ρ) = .ok x (ρ.set i (.own d)) := rfl
@[simp] theorem s_restore0 {a b : Env} : restore [] a b = b := rfl
@[simp] theorem s_restoreC {j : Nat} {vs : List Nat} {a b : Env} : restore (j :: vs) a b = (restore vs a b).set j (a.at j) := rfl
@[simp] theorem s_newDS {ρ : Env} : newDS ρ = .ok (.own (.dct [] [])) ρ := rfl
@[simp] theorem s_nilP {ρ : Env} : nilP ρ = .ok [] ρ := rfl
@[simp] theorem s_consP {f : Env → R XV} {fs : Env → R (List D)} {ρ : Env} : consP f fs ρ = (valS f ρ).bind fun d ρ => (fs ρ).bind fun ds ρ => .ok (d :: ds) ρ := rfl
@[simp] theorem s_dispS {ks : List Key} {fs : Env → R (List D)} {ρ : Env} : dispS ks fs ρ = (fs ρ).bind fun ds ρ => if ds.length = ks.length then .ok (.own (.dct ks ds)) ρ else .stuck := rfl
@[simp] theorem s_noP {ρ : Env} : noP ρ = .ok none ρ := rfl
@[simp] theorem s_someP {f : Env → R XV} {ρ : Env} : someP f ρ = (f ρ).bind fun x ρ => (match x with
  | .dat (.int i) => .ok (some i) ρ
  | _ => .stuck) := rfl
@[simp] theorem s_yes {ρ : Env} : yesT ρ = .ok true ρ := rfl
@[simp] theorem s_slice {f : Env → R XV} {fl fh} {ρ : Env} : sliceS f fl fh ρ = (opnd f ρ).bind (slO fl fh) := rfl
@[simp] theorem s_slO {x : XV} {fl fh} {ρ : Env} : slO fl fh x ρ = (fl ρ).bind fun lo ρ => (fh ρ).bind fun hi ρ => (match cont ρ x with
  | some d => match slD d lo hi with
    | some z => .ok z ρ
    | none => .stuck
  | none => .stuck) := rfl
@[simp] theorem s_slL {l : List D} {lo hi} : slD (.lst l) lo hi = some (.own (.lst (cutD l lo hi))) := rfl
@[simp] theorem s_slR {l : List D} {lo hi} : slD (.rol l) lo hi = some (.own (.lst (cutD l lo hi))) := rfl
@[simp] theorem s_slT {l : List D} {lo hi} : slD (.tup l) lo hi = some (.dat (.tup (cutD l lo hi))) := rfl
end DL
namespace DL

/-! ## sums over the choices of some of a list: by how many, and by their sum -/
def M : List Int → (Nat → Int → Int) → Int
  | [], g => g 0 0
  | w :: ws, g => M ws g + M ws (fun s t => g (s + 1) (t + w))
theorem M_add (ws : List Int) : ∀ g h, M ws (fun s t => g s t + h s t) = M ws g + M ws h := by
  induction ws with
  | nil => intro g h; rfl
  | cons w ws ih =>
    intro g h
    have e := ih (fun s t => g (s + 1) (t + w)) (fun s t => h (s + 1) (t + w))
    simp only [M, ih g h, e]; omega
theorem M_zero (ws : List Int) : M ws (fun _ _ => 0) = 0 := by
  induction ws with
  | nil => rfl
  | cons w ws ih => simp only [M, ih]; rfl
theorem M_mul (ws : List Int) (c : Int) : ∀ g, M ws (fun s t => c * g s t) = c * M ws g := by
  induction ws with
  | nil => intro g; rfl
  | cons w ws ih =>
    intro g
    have e := ih (fun s t => g (s + 1) (t + w))
    simp only [M, ih g, e, Int.mul_add]
theorem M_sub (ws : List Int) (g h : Nat → Int → Int) : M ws (fun s t => g s t - h s t) = M ws g - M ws h := by
  have e := M_add ws g (fun s t => -1 * h s t)
  rw [M_mul] at e
  have : (fun s t => g s t - h s t) = fun s t => g s t + -1 * h s t := by funext s t; omega
  rw [this, e]; omega
/-- only what is reached matters -/
theorem M_congr {ws : List Int} (hw : ∀ w ∈ ws, 0 ≤ w) : ∀ {g h : Nat → Int → Int}, (∀ s t, s ≤ ws.length → 0 ≤ t → g s t = h s t) → M ws g = M ws h := by
  induction ws with
  | nil => intro g h e; exact e 0 0 (Nat.le_refl _) (Int.le_refl _)
  | cons w ws ih =>
    intro g h e
    have h0 := hw w List.mem_cons_self
    have ih := fun {g h} => @ih (fun w hm => hw w (List.mem_cons_of_mem _ hm)) g h
    simp only [M]
    rw [ih (g := g) (h := h) fun s t hs ht => e s t (by simp; omega) ht, ih (g := fun s t => g (s + 1) (t + w)) (h := fun s t => h (s + 1) (t + w)) fun s t hs ht => e (s + 1) (t + w) (by simp; omega) (by omega)]
theorem M_snoc (ws : List Int) (w : Int) : ∀ g, M (ws ++ [w]) g = M ws g + M ws (fun s t => g (s + 1) (t + w)) := by
  induction ws with
  | nil => intro g; rfl
  | cons v ws ih =>
    intro g
    simp only [List.cons_append, M, ih]
    have : (fun (s : Nat) (t : Int) => g (s + 1 + 1) (t + v + w)) = fun s t => g (s + 1 + 1) (t + w + v) := by funext s t; congr 1; omega
    rw [this]; omega
theorem M_perm {ws vs : List Int} (p : ws.Perm vs) : ∀ g, M ws g = M vs g := by
  induction p with
  | nil => intro g; rfl
  | cons w _ ih => intro g; simp only [M, ih]
  | swap v w l =>
    intro g
    simp only [M]
    have : (fun (s : Nat) (t : Int) => g (s + 1 + 1) (t + w + v)) = fun s t => g (s + 1 + 1) (t + v + w) := by funext s t; congr 1; omega
    rw [this]; omega
  | trans _ _ h1 h2 => intro g; rw [h1, h2]
theorem M_erase {ws : List Int} {w : Int} (h : w ∈ ws) (g : Nat → Int → Int) : M ws g = M (ws.erase w) g + M (ws.erase w) (fun s t => g (s + 1) (t + w)) := by
  rw [M_perm (List.perm_cons_erase h) g]; rfl
theorem M_const (ws : List Int) (c : Int) : M ws (fun _ _ => c) = c * 2 ^ ws.length := by
  induction ws with
  | nil => simp [M]
  | cons w ws ih => simp only [M, ih, List.length_cons, Int.pow_succ]; rw [← Int.mul_assoc]; omega
/-! sums of n terms -/
def S : Nat → (Nat → Int) → Int
  | 0, _ => 0
  | n + 1, f => S n f + f n
theorem S_sum (n : Nat) (f : Nat → Int) : ((List.range n).map f).sum = S n f := by
  induction n with
  | zero => rfl
  | succ n ih => rw [List.range_succ, List.map_append, List.sum_append, ih]; simp [S]
theorem S_congr {n : Nat} {f g : Nat → Int} (h : ∀ i, i < n → f i = g i) : S n f = S n g := by
  induction n with
  | zero => rfl
  | succ n ih => simp only [S]; rw [ih fun i hi => h i (by omega), h n (by omega)]
theorem S_add (n : Nat) (f g : Nat → Int) : S n (fun i => f i + g i) = S n f + S n g := by
  induction n with
  | zero => rfl
  | succ n ih => simp only [S, ih]; omega
theorem S_zero (n : Nat) : S n (fun _ => 0) = 0 := by
  induction n with
  | zero => rfl
  | succ n ih => simp only [S, ih]; rfl
theorem S_mul (n : Nat) (c : Int) (f : Nat → Int) : S n (fun i => c * f i) = c * S n f := by
  induction n with
  | zero => simp [S]
  | succ n ih => simp only [S, ih, Int.mul_add]
theorem M_S (ws : List Int) (n : Nat) (g : Nat → Nat → Int → Int) : M ws (fun s t => S n fun i => g i s t) = S n fun i => M ws (g i) := by
  induction n with
  | zero => exact M_zero ws
  | succ n ih => simp only [S]; rw [M_add, ih]
/-- head off -/
theorem S_shift (n : Nat) (f : Nat → Int) : S (n + 1) f = f 0 + S n (fun i => f (i + 1)) := by
  induction n with
  | zero => simp [S]
  | succ n ih => rw [S, ih]; simp only [S]; omega
/-- a one at one place -/
theorem S_one (n : Nat) (t : Int) (c : Int) : S n (fun i => if t = (i : Int) then c else 0) = if 0 ≤ t ∧ t < n then c else 0 := by
  induction n with
  | zero => simp [S]; omega
  | succ n ih =>
    simp only [S, ih]
    by_cases h1 : t = (n : Int)
    · rw [if_pos h1, if_neg (by omega), if_pos (by omega)]; omega
    · rw [if_neg h1]
      by_cases h2 : 0 ≤ t ∧ t < n
      · rw [if_pos h2, if_pos (by omega)]; omega
      · rw [if_neg h2, if_neg (by omega)]; rfl
/-- of n terms those from k on -/
theorem S_from (n k : Nat) (f : Nat → Int) (h : k ≤ n) : S (n - k) (fun i => f (k + i)) = S n (fun i => if k ≤ i then f i else 0) := by
  induction n with
  | zero => have : k = 0 := by omega
            subst this; rfl
  | succ n ih =>
    by_cases hk : k ≤ n
    · rw [show n + 1 - k = (n - k) + 1 by omega, S, ih hk, S, if_pos hk, show k + (n - k) = n by omega]
    · have : k = n + 1 := by omega
      subst this
      rw [Nat.sub_self, S]
      rw [S_congr (g := fun _ => 0) fun i hi => by rw [if_neg (by omega)], S_zero]
/-! ## factorials, binomials -/
def fact : Nat → Nat
  | 0 => 1
  | n + 1 => fact n * (n + 1)
theorem fact_pos (n : Nat) : 0 < fact n := by
  induction n with
  | zero => decide
  | succ n ih => exact Nat.mul_pos ih (Nat.succ_pos n)
def bin : Nat → Nat → Nat
  | _, 0 => 1
  | 0, _ + 1 => 0
  | n + 1, k + 1 => bin n k + bin n (k + 1)
theorem bin_out : ∀ {n k : Nat}, n < k → bin n k = 0
  | 0, k + 1, _ => rfl
  | n + 1, k + 1, h => by rw [bin, bin_out (by omega), bin_out (by omega)]
  | _, 0, h => by omega
theorem bin_fact : ∀ {n k : Nat}, k ≤ n → bin n k * (fact k * fact (n - k)) = fact n
  | n, 0, _ => by cases n <;> simp [bin, fact]
  | 0, k + 1, h => by omega
  | n + 1, k + 1, h => by
    have h1 := bin_fact (n := n) (k := k) (by omega)
    rw [bin, show n + 1 - (k + 1) = n - k by omega]
    by_cases hk : k + 1 ≤ n
    · have h2 := bin_fact (n := n) (k := k + 1) hk
      have e : n - k = (n - (k + 1)) + 1 := by omega
      have e3 : fact (n - k) = fact (n - (k + 1)) * (n - k) := by rw [e, fact]
      rw [Nat.add_mul]
      have a1 : bin n k * (fact (k + 1) * fact (n - k)) = fact n * (k + 1) := by
        rw [fact, ← h1]
        simp only [Nat.mul_assoc, Nat.mul_comm, Nat.mul_left_comm]
      have a2 : bin n (k + 1) * (fact (k + 1) * fact (n - k)) = fact n * (n - k) := by
        rw [e3, ← h2]
        simp only [Nat.mul_assoc, Nat.mul_comm, Nat.mul_left_comm]
      rw [a1, a2, fact, ← Nat.mul_add]
      congr 1; omega
    · have : k = n := by omega
      subst this
      have e0 : fact 0 = 1 := rfl
      rw [Nat.sub_self, e0, Nat.mul_one] at h1
      rw [bin_out (by omega : k < k + 1), Nat.sub_self, Nat.add_zero, e0, Nat.mul_one, show fact (k + 1) = fact k * (k + 1) from rfl, ← Nat.mul_assoc, h1]
theorem bin_eq {n k : Nat} (h : k ≤ n) : fact n / (fact k * fact (n - k)) = bin n k := by
  rw [← bin_fact h]
  exact Nat.mul_div_cancel _ (Nat.mul_pos (fact_pos _) (fact_pos _))
/-- some of n equal ones -/
theorem M_same (n : Nat) (w : Int) : ∀ g, M (List.replicate n w) g = S (n + 1) (fun k => (bin n k : Int) * g k (k * w)) := by
  induction n with
  | zero => intro g; simp [M, S, bin]
  | succ n ih =>
    intro g
    rw [List.replicate_succ, M, ih, ih, S_shift (n + 1)]
    have e1 : S (n + 1) (fun k => (bin n k : Int) * g k (k * w)) = g 0 0 + S n (fun k => (bin n (k + 1) : Int) * g (k + 1) ((k + 1 : Nat) * w)) := by
      rw [S_shift]; cases n <;> simp [bin]
    have e2 : S (n + 1) (fun i => (bin (n + 1) (i + 1) : Int) * g (i + 1) ((i + 1 : Nat) * w)) = S (n + 1) (fun k => (bin n k : Int) * g (k + 1) (k * w + w)) + S (n + 1) (fun k => (bin n (k + 1) : Int) * g (k + 1) ((k + 1 : Nat) * w)) := by
      rw [← S_add]
      refine S_congr fun i _ => ?_
      rw [bin]
      have : ((i + 1 : Nat) : Int) * w = i * w + w := by rw [Int.natCast_add, Int.add_mul]; omega
      rw [this, Int.natCast_add, Int.add_mul]
    have e3 : S (n + 1) (fun k => (bin n (k + 1) : Int) * g (k + 1) ((k + 1 : Nat) * w)) = S n (fun k => (bin n (k + 1) : Int) * g (k + 1) ((k + 1 : Nat) * w)) := by
      rw [S, bin_out (by omega : n < n + 1)]; omega
    rw [e1, e2, e3]
    have e4 : ((bin (n + 1) 0 : Nat) : Int) * g 0 (((0 : Nat) : Int) * w) = g 0 0 := by simp [bin]
    rw [e4]; omega
theorem M_bound {ws : List Int} {B : Int} : ∀ {g : Nat → Int → Int}, (∀ s t, 0 ≤ g s t ∧ g s t ≤ B) → 0 ≤ M ws g ∧ M ws g ≤ B * 2 ^ ws.length := by
  induction ws with
  | nil => intro g h; have := h 0 0; simpa [M] using this
  | cons w ws ih =>
    intro g h
    have h1 := ih h
    have h2 := ih (g := fun s t => g (s + 1) (t + w)) fun s t => h _ _
    simp only [M, List.length_cons, Int.pow_succ]
    rw [← Int.mul_assoc]
    omega
end DL
namespace DL
open PySem L2
namespace k23
@[simp] theorem ne_cells_at : (Str.ofString "cells" = Str.ofString "at") = False := eq_false (by decide +kernel)
@[simp] theorem ne_cells_digits : (Str.ofString "cells" = Str.ofString "digits") = False := eq_false (by decide +kernel)
@[simp] theorem ne_cells_count : (Str.ofString "cells" = Str.ofString "count") = False := eq_false (by decide +kernel)
@[simp] theorem ne_cells_fold : (Str.ofString "cells" = Str.ofString "fold") = False := eq_false (by decide +kernel)
@[simp] theorem ne_at_cells : (Str.ofString "at" = Str.ofString "cells") = False := eq_false (by decide +kernel)
@[simp] theorem ne_at_digits : (Str.ofString "at" = Str.ofString "digits") = False := eq_false (by decide +kernel)
@[simp] theorem ne_at_count : (Str.ofString "at" = Str.ofString "count") = False := eq_false (by decide +kernel)
@[simp] theorem ne_at_fold : (Str.ofString "at" = Str.ofString "fold") = False := eq_false (by decide +kernel)
@[simp] theorem ne_digits_cells : (Str.ofString "digits" = Str.ofString "cells") = False := eq_false (by decide +kernel)
@[simp] theorem ne_digits_at : (Str.ofString "digits" = Str.ofString "at") = False := eq_false (by decide +kernel)
@[simp] theorem ne_digits_count : (Str.ofString "digits" = Str.ofString "count") = False := eq_false (by decide +kernel)
@[simp] theorem ne_digits_fold : (Str.ofString "digits" = Str.ofString "fold") = False := eq_false (by decide +kernel)
@[simp] theorem ne_count_cells : (Str.ofString "count" = Str.ofString "cells") = False := eq_false (by decide +kernel)
@[simp] theorem ne_count_at : (Str.ofString "count" = Str.ofString "at") = False := eq_false (by decide +kernel)
@[simp] theorem ne_count_digits : (Str.ofString "count" = Str.ofString "digits") = False := eq_false (by decide +kernel)
@[simp] theorem ne_count_fold : (Str.ofString "count" = Str.ofString "fold") = False := eq_false (by decide +kernel)
@[simp] theorem ne_fold_cells : (Str.ofString "fold" = Str.ofString "cells") = False := eq_false (by decide +kernel)
@[simp] theorem ne_fold_at : (Str.ofString "fold" = Str.ofString "at") = False := eq_false (by decide +kernel)
@[simp] theorem ne_fold_digits : (Str.ofString "fold" = Str.ofString "digits") = False := eq_false (by decide +kernel)
@[simp] theorem ne_fold_count : (Str.ofString "fold" = Str.ofString "count") = False := eq_false (by decide +kernel)

theorem m_is_whole_int (a : Int) : m_is_whole [.dat (.int a)] = .ok (.dat (.bl true)) [.dat (.int a)] := by
  simp [m_is_whole, b_is_whole]
theorem m_is_number_int (a : Int) (h : 0 ≤ a) : m_is_number [.dat (.int a)] = .ok (.dat (.bl true)) [.dat (.int a)] := by
  simp [m_is_number, b_is_number, m_is_whole_int, h]
def penKs : List Key := [.inr "cells", .inr "at", .inr "digits", .inr "count", .inr "fold"]
def penD (c : List D) (a b n f : Int) : D := .dct penKs [.lst c, .int a, .int b, .int n, .int f]
section
variable (c : List D) (a b n f : Int) (d : D)
@[simp] theorem pen_get1 : ixA (penD c a b n f) (.str "cells") = some (.dat (.lst c)) := by simp [penD, penKs]
@[simp] theorem pen_get2 : ixA (penD c a b n f) (.str "at") = some (.dat (.int a)) := by simp [penD, penKs]
@[simp] theorem pen_get3 : ixA (penD c a b n f) (.str "digits") = some (.dat (.int b)) := by simp [penD, penKs]
@[simp] theorem pen_get4 : ixA (penD c a b n f) (.str "count") = some (.dat (.int n)) := by simp [penD, penKs]
@[simp] theorem pen_get5 : ixA (penD c a b n f) (.str "fold") = some (.dat (.int f)) := by simp [penD, penKs]
theorem lim5 : penKs.length < LIM := by decide
theorem pen_ks {q : Key} (h : hasK q penKs = true) : putKs q penKs = penKs := by unfold putKs; rw [if_pos h]
theorem pen_ds {q : Key} (h : hasK q penKs = true) {e : D} {vs : List D} : putDs q e penKs vs = repD1 q e penKs vs := by unfold putDs; rw [if_pos h]
@[simp] theorem pen_set2 {ρ : Env} {i : Nat} (h : ρ.at i = .own (penD c a b n f)) (z : Int) : setAt i (.dat (.str "at")) (.int z) ρ = .ok .nx (ρ.set i (.own (penD c z b n f))) := by
  simp only [s_setAt, s_contD, h, penD, s_keyS]; rw [if_pos lim5, pen_ks (by decide +kernel), pen_ds (by decide +kernel)]; simp [penKs, repD1]
@[simp] theorem pen_set3 {ρ : Env} {i : Nat} (h : ρ.at i = .own (penD c a b n f)) (z : Int) : setAt i (.dat (.str "digits")) (.int z) ρ = .ok .nx (ρ.set i (.own (penD c a z n f))) := by
  simp only [s_setAt, s_contD, h, penD, s_keyS]; rw [if_pos lim5, pen_ks (by decide +kernel), pen_ds (by decide +kernel)]; simp [penKs, repD1]
@[simp] theorem pen_set4 {ρ : Env} {i : Nat} (h : ρ.at i = .own (penD c a b n f)) (z : Int) : setAt i (.dat (.str "count")) (.int z) ρ = .ok .nx (ρ.set i (.own (penD c a b z f))) := by
  simp only [s_setAt, s_contD, h, penD, s_keyS]; rw [if_pos lim5, pen_ks (by decide +kernel), pen_ds (by decide +kernel)]; simp [penKs, repD1]
@[simp] theorem pen_set5 {ρ : Env} {i : Nat} (h : ρ.at i = .own (penD c a b n f)) (z : Int) : setAt i (.dat (.str "fold")) (.int z) ρ = .ok .nx (ρ.set i (.own (penD c a b n z))) := by
  simp only [s_setAt, s_contD, h, penD, s_keyS]; rw [if_pos lim5, pen_ks (by decide +kernel), pen_ds (by decide +kernel)]; simp [penKs, repD1]
end

theorem pow18 : (10 : Int) ^ (18 : Int).toNat = 1000000000000000000 := by decide +kernel
theorem log2_lt {x : Int} {k : Nat} (h : x.natAbs < 2 ^ k) : x.natAbs.log2 < k ∨ x.natAbs = 0 := by
  by_cases z : x.natAbs = 0
  · exact .inr z
  · exact .inl ((Nat.log2_lt z).mpr h)
theorem mul_fit {x y : Int} (hx : x.natAbs < 2 ^ 400000) (hy : y.natAbs < 2 ^ 400000) : x.natAbs.log2 + y.natAbs.log2 < 1000000 := by
  have l0 : Nat.log2 0 = 0 := by decide
  rcases log2_lt hx with h | h <;> rcases log2_lt hy with h' | h' <;> (try rw [h]) <;> (try rw [h']) <;> omega

def IsPen (K : Int) (d : D) : Prop := ∃ (c : List Int) (a b n f : Int), d = penD (c.map .int) a b n f ∧ 0 ≤ a ∧ 0 ≤ b ∧ 0 ≤ n ∧ n ≤ K ∧ 0 ≤ f ∧ f < 2147483648
theorem fit_nat {x : Int} (h : -(10 ^ 30) < x) (h' : x < 10 ^ 30) : x.natAbs < 2 ^ 400000 := by
  have : (10 : Nat) ^ 30 < 2 ^ 400000 := Nat.lt_of_lt_of_le (by decide +kernel : (10 : Nat) ^ 30 < 2 ^ 100) (Nat.pow_le_pow_right (by decide) (by decide))
  have h1 : x.natAbs < 10 ^ 30 := by omega
  omega
@[simp] theorem pset2 {c : List D} {a b n f z : Int} {ρ : Env} : setAt 0 (.dat (.str "at")) (.int z) (SV.own (penD c a b n f) :: ρ) = .ok .nx (SV.own (penD c z b n f) :: ρ) := pen_set2 c a b n f rfl z
@[simp] theorem pset3 {c : List D} {a b n f z : Int} {ρ : Env} : setAt 0 (.dat (.str "digits")) (.int z) (SV.own (penD c a b n f) :: ρ) = .ok .nx (SV.own (penD c a z n f) :: ρ) := pen_set3 c a b n f rfl z
@[simp] theorem pset4 {c : List D} {a b n f z : Int} {ρ : Env} : setAt 0 (.dat (.str "count")) (.int z) (SV.own (penD c a b n f) :: ρ) = .ok .nx (SV.own (penD c a b z f) :: ρ) := pen_set4 c a b n f rfl z
@[simp] theorem pset5 {c : List D} {a b n f z : Int} {ρ : Env} : setAt 0 (.dat (.str "fold")) (.int z) (SV.own (penD c a b n f) :: ρ) = .ok .nx (SV.own (penD c a b n z) :: ρ) := pen_set5 c a b n f rfl z
theorem draw_1 {c : List D} {a b n f m : Int} (hb : 0 < b) (hm : 0 < m) (hml : m.natAbs.log2 < 9000) : m_law_draw [.own (penD c a b n f), .dat (.int m)] = .ok (.dat (.int (b % m))) [.own (penD c a (b / m) (n + 1) f), .dat (.int m)] := by
  have h0 : ¬ b = 0 := by omega
  simp [-s_setAt, m_law_draw, b_law_draw, h0, hb, hm, hml]

structure Fit (x : Int) : Prop where
  fit : x.natAbs < 2 ^ 400000
theorem Fit.of {x : Int} (h : -(10 ^ 30) < x) (h' : x < 10 ^ 30) : Fit x := ⟨fit_nat h h'⟩
theorem mulF {x y : Int} (hx : Fit x) (hy : Fit y) : mulD (.int x) (.int y) = some (.dat (.int (x * y))) := by rw [s_mulI, if_pos (mul_fit hx.fit hy.fit)]
theorem fit_mod {x k : Int} (h : 0 < k) (h2 : k < 1000000000000) : Fit (x % k) := by
  have h1 := Int.emod_nonneg x (by omega : k ≠ 0)
  have h3 := Int.emod_lt_of_pos x h
  exact Fit.of (by omega) (by omega)
theorem l64 : Nat.log2 64 < 9000 := by decide
def pY (f n : Int) : Int := (f * 48271 + n * 7919 + 13) % 2147483647
def pZ (f n : Int) : Int := (pY f n * pY f n + 31 * pY f n + n) % 2147483629
def pF (f n : Int) : Int := (pZ f n * 16807 + 7) % 2147483647
theorem pF_ok (f n : Int) : 0 ≤ pF f n ∧ pF f n < 2147483648 := by
  have h1 := Int.emod_nonneg (pZ f n * 16807 + 7) (by decide : (2147483647 : Int) ≠ 0)
  have h2 := Int.emod_lt_of_pos (pZ f n * 16807 + 7) (by decide : (0 : Int) < 2147483647)
  unfold pF; omega
section
variable {c : List D} {a n f m : Int} (hn : 0 ≤ n) (hn2 : n ≤ 1000000) (hf : 0 ≤ f) (hf2 : f < 2147483648) (hm : 0 < m)
include hn hn2 hf hf2 hm
theorem draw_2 (ha : (c.length : Int) ≤ a) : m_law_draw [.own (penD c a 0 n f), .dat (.int m)] = .ok (.dat (.int (pZ f (n + 1) / 64 % m))) [.own (penD c a 0 (n + 1) (pF f (n + 1))), .dat (.int m)] := by
  have h1 : ¬ a < (c.length : Int) := by omega
  have F1 : Fit f := Fit.of (by omega) (by omega)
  have F2 : Fit (n + 1) := Fit.of (by omega) (by omega)
  have L1 : Fit 48271 := Fit.of (by decide) (by decide)
  have L2 : Fit 7919 := Fit.of (by decide) (by decide)
  have L3 : Fit 31 := Fit.of (by decide) (by decide)
  have L4 : Fit 16807 := Fit.of (by decide) (by decide)
  simp [-s_setAt, -s_mulI, mulF, m_law_draw, b_law_draw, h1, hm, F1, F2, L1, L2, L3, L4, fit_mod, pY, pZ, pF, l64]
theorem draw_3 {x : Int} (hx : atI c a = some (.int x)) (ha : a < (c.length : Int)) (h18 : 1000000000000000000 ≤ x) (h0 : ¬ x - 1000000000000000000 = 0) (hml : m.natAbs.log2 < 9000) :
    m_law_draw [.own (penD c a 0 n f), .dat (.int m)] = .ok (.dat (.int ((x - 1000000000000000000) % m))) [.own (penD c (a + 1) ((x - 1000000000000000000) / m) (n + 1) f), .dat (.int m)] := by
  have h1 : 1000000000000000000 < x := by omega
  simp [-s_setAt, -s_mulI, mulF, m_law_draw, b_law_draw, ha, hm, hx, h18, hml, h1]
theorem draw_4 (hx : atI c a = some (.int 1000000000000000000)) (ha : a < (c.length : Int)) :
    m_law_draw [.own (penD c a 0 n f), .dat (.int m)] = .ok (.dat (.int (pZ f (n + 1) / 64 % m))) [.own (penD c (a + 1) 0 (n + 1) (pF f (n + 1))), .dat (.int m)] := by
  have F1 : Fit f := Fit.of (by omega) (by omega)
  have F2 : Fit (n + 1) := Fit.of (by omega) (by omega)
  have L1 : Fit 48271 := Fit.of (by decide) (by decide)
  have L2 : Fit 7919 := Fit.of (by decide) (by decide)
  have L3 : Fit 31 := Fit.of (by decide) (by decide)
  have L4 : Fit 16807 := Fit.of (by decide) (by decide)
  simp [-s_setAt, -s_mulI, mulF, m_law_draw, b_law_draw, ha, hm, hx, F1, F2, L1, L2, L3, L4, fit_mod, pY, pZ, pF, l64]
theorem draw_5 {x : Int} (hx : atI c a = some (.int x)) (ha : a < (c.length : Int)) (h18 : ¬ 1000000000000000000 ≤ x) :
    ∃ g, g = (f * 69069 + x) % 2147483587 ∧ m_law_draw [.own (penD c a 0 n f), .dat (.int m)] = .ok (.dat (.int (pZ g (n + 1) / 64 % m))) [.own (penD c (a + 1) 0 (n + 1) (pF g (n + 1))), .dat (.int m)] := by
  refine ⟨_, rfl, ?_⟩
  have F1 : Fit f := Fit.of (by omega) (by omega)
  have F2 : Fit (n + 1) := Fit.of (by omega) (by omega)
  have L1 : Fit 48271 := Fit.of (by decide) (by decide)
  have L2 : Fit 7919 := Fit.of (by decide) (by decide)
  have L3 : Fit 31 := Fit.of (by decide) (by decide)
  have L4 : Fit 16807 := Fit.of (by decide) (by decide)
  have L5 : Fit 69069 := Fit.of (by decide) (by decide)
  simp [-s_setAt, -s_mulI, mulF, m_law_draw, b_law_draw, ha, hm, hx, h18, F1, F2, L1, L2, L3, L4, L5, fit_mod, pY, pZ, pF, l64]
end
theorem draw_ok {K m : Int} {d : D} (h : IsPen K d) (hK : K ≤ 1000000) (hm : 0 < m) (hm2 : m ≤ 1000000) : ∃ r d', m_law_draw [.own d, .dat (.int m)] = .ok (.dat (.int r)) [.own d', .dat (.int m)] ∧ 0 ≤ r ∧ r < m ∧ IsPen (K + 1) d' := by
  obtain ⟨c, a, b, n, f, rfl, ha, hb, hn, hnK, hf, hf2⟩ := h
  have hml : m.natAbs.log2 < 9000 := by
    rcases log2_lt (x := m) (k := 9000) (Nat.lt_of_lt_of_le (by omega : m.natAbs < 2 ^ 20) (Nat.pow_le_pow_right (by decide) (by decide))) with h | h
    · exact h
    · omega
  have R : ∀ z : Int, 0 ≤ z % m ∧ z % m < m := fun z => ⟨Int.emod_nonneg z (by omega), Int.emod_lt_of_pos z hm⟩
  have hn2 : n ≤ 1000000 := by omega
  by_cases h0 : b = 0
  · subst h0
    by_cases hl : a < (c.length : Int)
    · have hx : ∃ x, atI (c.map D.int) a = some (.int x) := by
        unfold atI ixN
        rw [if_pos ha, if_pos (by rw [List.length_map]; exact hl)]
        have : a.toNat < c.length := by omega
        exact ⟨c[a.toNat], by simp [this]⟩
      obtain ⟨x, hx⟩ := hx
      have hl' : a < ((c.map D.int).length : Int) := by rw [List.length_map]; exact hl
      by_cases h18 : 1000000000000000000 ≤ x
      · by_cases hz : x - 1000000000000000000 = 0
        · have e : x = 1000000000000000000 := by omega
          subst e
          exact ⟨_, _, draw_4 hn hn2 hf hf2 hm hx hl', (R _).1, (R _).2, c, _, _, _, _, rfl, by omega, by omega, by omega, by omega, (pF_ok _ _).1, (pF_ok _ _).2⟩
        · exact ⟨_, _, draw_3 hn hn2 hf hf2 hm hx hl' h18 hz hml, (R _).1, (R _).2, c, _, _, _, _, rfl, by omega, Int.ediv_nonneg (by omega) (by omega), by omega, by omega, hf, hf2⟩
      · obtain ⟨g, _, e⟩ := draw_5 hn hn2 hf hf2 hm hx hl' h18
        exact ⟨_, _, e, (R _).1, (R _).2, c, _, _, _, _, rfl, by omega, by omega, by omega, by omega, (pF_ok _ _).1, (pF_ok _ _).2⟩
    · exact ⟨_, _, draw_2 hn hn2 hf hf2 hm (by rw [List.length_map]; omega), (R _).1, (R _).2, c, _, _, _, _, rfl, ha, by omega, by omega, by omega, (pF_ok _ _).1, (pF_ok _ _).2⟩
  · exact ⟨_, _, draw_1 (by omega) hm hml, (R _).1, (R _).2, c, _, _, _, _, rfl, ha, Int.ediv_nonneg hb (by omega), by omega, by omega, hf, hf2⟩
end k23
end DL
namespace DL
open PySem L2
namespace k23
def row (q : Nat) (f : Nat → Int) : List D := (List.range q).map fun j => D.int (f j)
@[simp] theorem row_len {q : Nat} {f : Nat → Int} : (row q f).length = q := by simp [row]
theorem row_congr {q : Nat} {f g : Nat → Int} (h : ∀ j, j < q → f j = g j) : row q f = row q g := by
  unfold row
  refine List.map_congr_left fun j hj => ?_
  rw [h j (List.mem_range.mp hj)]
theorem row_get {q : Nat} {f : Nat → Int} {j : Nat} : (row q f)[j]? = if j < q then some (.int (f j)) else none := by
  unfold row
  by_cases h : j < q
  · simp [h]
  · rw [if_neg h]; simp; omega
theorem row_at {q : Nat} {f : Nat → Int} {i : Int} (h : 0 ≤ i) (h' : i < q) : atI (row q f) i = some (.int (f i.toNat)) := by
  unfold atI ixN
  rw [if_pos h, if_pos (by rw [row_len]; exact h')]
  show (row q f)[i.toNat]? = _
  rw [row_get, if_pos (by omega)]
theorem row_ints {q : Nat} {f : Nat → Int} : intsD (row q f) = some ((List.range q).map f) := by
  unfold row
  induction (List.range q) with
  | nil => rfl
  | cons a l ih => simp only [List.map_cons, intsD, ih]; rfl
theorem row_enum {q : Nat} {f : Nat → Int} : enumD 0 (row q f) = (List.range q).map fun j => D.tup [.int (j : Nat), .int (f j)] := by
  rw [enumD_eq, row_len]
  refine List.map_congr_left fun j hj => ?_
  have := List.mem_range.mp hj
  rw [List.getD_eq_getElem?_getD, row_get, if_pos this]; rfl
theorem row_ext {q : Nat} {f : Nat → Int} {l : List D} (h : l.length = q) (hj : ∀ j, j < q → l[j]? = some (.int (f j))) : l = row q f := by
  refine List.ext_getElem? fun j => ?_
  rw [row_get]
  by_cases z : j < q
  · rw [if_pos z, hj j z]
  · rw [if_neg z, List.getElem?_eq_none (by omega)]
/-- shifted up by w -/
def sh (w : Int) (f : Nat → Int) (j : Nat) : Int := if w ≤ (j : Int) then f ((j : Int) - w).toNat else 0
theorem put_in_ok {q : Nat} {f : Nat → Int} {w : Int} {X : SV} (hX : X = .own (.lst (row q f)) ∨ X = .dat (.lst (row q f))) (hq : q ≤ 10000) (hw : 0 ≤ w) :
    m_put_in [X, .dat (.int w)] = .ok (.own (.lst (row q fun j => f j + sh w f j))) [.dat (.lst (row q f)), .dat (.int w)] := by
  have key : lcR [2, 3] (tupT 2 (consT (nameT 2) (consT (nameT 3) nilT))) yesT (op2S addD (getS 3) (ifS (testS (op2S geD (getS 2) (getS 1))) (op2S ixA (getS 0) (op2S subD (getS 2) (getS 1))) (constS (.int 0)))) (enumD 0 (row q f)) [.dat (.lst (row q f)), .dat (.int w), .un, .un]
      = .ok (.own (.lst (row q fun j => f j + sh w f j))) [.dat (.lst (row q f)), .dat (.int w), .un, .un] := by
    rw [row_enum]
    refine (lcR_all (y := fun j => D.int (f j + sh w f j)) rfl (by simp; exact Nat.le_trans hq (by decide)) fun j hj => ⟨_, _, [.dat (.lst (row q f)), .dat (.int w), .dat (.int (j : Nat)), .dat (.int (f j))], rfl, rfl, ?_, rfl⟩).trans rfl
    · have hj := List.mem_range.mp hj
      by_cases h : w ≤ (j : Int)
      · have h1 : atI (row q f) ((j : Int) - w) = some (.int (f ((j : Int) - w).toNat)) := row_at (by omega) (by omega)
        simp [h, sh, h1]
      · simp [h, sh]
  rcases hX with rfl | rfl
  · simp [m_put_in, b_put_in]
    rw [key]
    simp
  · simp [m_put_in, b_put_in]
    rw [key]
    simp
end k23
end DL
namespace DL
open PySem L2
namespace k23
def dl (j : Int) : Nat → Int → Int := fun _ t => if t = j then 1 else 0
def cnt (ws : List Int) (j : Nat) : Int := M ws (dl j)
theorem M_shift {ws : List Int} (h : ∀ v ∈ ws, 0 ≤ v) {w : Int} (hw : 0 ≤ w) (j : Nat) : M ws (fun s t => dl j (s + 1) (t + w)) = sh w (cnt ws) j := by
  unfold sh
  by_cases z : w ≤ (j : Int)
  · rw [if_pos z]
    refine M_congr h fun s t _ _ => ?_
    unfold dl
    by_cases e : t + w = j
    · rw [if_pos e, if_pos (by omega)]
    · rw [if_neg e, if_neg (by omega)]
  · rw [if_neg z, ← M_zero ws]
    refine M_congr h fun s t _ ht => ?_
    unfold dl
    rw [if_neg (by omega)]
theorem cnt_snoc {ws : List Int} (h : ∀ v ∈ ws, 0 ≤ v) {w : Int} (hw : 0 ≤ w) (j : Nat) : cnt (ws ++ [w]) j = cnt ws j + sh w (cnt ws) j := by
  unfold cnt
  rw [M_snoc, M_shift h hw]; rfl
theorem cnt_erase {ws : List Int} (h : ∀ v ∈ ws, 0 ≤ v) {w : Int} (hw : w ∈ ws) (j : Nat) : cnt ws j = cnt (ws.erase w) j + sh w (cnt (ws.erase w)) j := by
  unfold cnt
  rw [M_erase hw, M_shift (fun v hv => h v (List.mem_of_mem_erase hv)) (h w hw)]; rfl
def scD (ws : List Int) (q : Nat) : D := .ins "Scale" ["weights", "quota"] [.tup (ws.map .int), .int (q : Nat)]
theorem ne_wq : (Str.ofString "weights" = Str.ofString "quota") = False := eq_false (by decide +kernel)
@[simp] theorem sc_w {ws : List Int} {q : Nat} : fldD ["Scale"] "weights" (scD ws q) = some (.dat (.tup (ws.map .int))) := by
  simp [scD, lookD]
@[simp] theorem sc_q {ws : List Int} {q : Nat} : fldD ["Scale"] "quota" (scD ws q) = some (.dat (.int (q : Nat))) := by
  simp [scD, lookD, ne_wq]
theorem rep_zero {n : Nat} : (List.replicate n [D.int 0]).flatten = List.replicate n (D.int 0) := by
  induction n with
  | zero => rfl
  | succ n ih => rw [List.replicate_succ, List.flatten_cons, ih]; rfl
theorem row_first {q : Nat} (hq : 1 ≤ q) : [D.int 1] ++ List.replicate (((q : Int) - 1).toNat) (D.int 0) = row q (cnt []) := by
  refine row_ext (by simp; omega) fun j hj => ?_
  cases j with
  | zero => rfl
  | succ j =>
    have : cnt [] (j + 1) = 0 := by
      show (if (0 : Int) = ((j + 1 : Nat) : Int) then (1 : Int) else 0) = 0
      rw [if_neg (by omega)]
    rw [this, List.singleton_append, List.getElem?_cons_succ, List.getElem?_replicate, if_pos (by omega)]
theorem all_counts_ok {ws : List Int} {q : Nat} (h : ∀ v ∈ ws, 0 ≤ v) (hq : 1 ≤ q) (hq2 : q ≤ 10000) : m_all_counts [.own (scD ws q)] = .ok (.own (.lst (row q (cnt ws)))) [.own (scD ws q)] := by
  have hfor : ∃ V, forL [2] (nameT 2) (asgS 1 (fnS m_put_in (consS (getS 1) (consS (getS 2) nilS)))) (ws.map D.int) [.own (scD ws q), .own (.lst (row q (cnt []))), .un] = .ok .nx [.own (scD ws q), .own (.lst (row q (cnt ws))), V] := by
    have step : ∀ d ds ρ, (∃ done todo V, done ++ todo = ws ∧ (d :: ds) = todo.map D.int ∧ ρ = [.own (scD ws q), .own (.lst (row q (cnt done))), V]) →
        ∃ ρ1 ρ2, nameT 2 d (forget [2] ρ) = some ρ1 ∧ asgS 1 (fnS m_put_in (consS (getS 1) (consS (getS 2) nilS))) ρ1 = .ok .nx ρ2 ∧ ∃ done todo V, done ++ todo = ws ∧ ds = todo.map D.int ∧ ρ2 = [.own (scD ws q), .own (.lst (row q (cnt done))), V] := by
      rintro d ds ρ ⟨done, todo, V, h1, h2, rfl⟩
      cases todo with
      | nil => cases h2
      | cons w todo =>
        rw [List.map_cons] at h2
        cases h2
        have hw : 0 ≤ w := h w (by rw [← h1]; simp)
        have hd : ∀ v ∈ done, 0 ≤ v := fun v hv => h v (by rw [← h1]; simp [hv])
        refine ⟨_, [.own (scD ws q), .own (.lst (row q (cnt (done ++ [w])))), .dat (.int w)], rfl, ?_, done ++ [w], todo, _, by rw [← h1]; simp, rfl, rfl⟩
        have e := put_in_ok (q := q) (f := cnt done) (w := w) (.inl rfl) hq2 hw
        rw [row_congr fun j _ => cnt_snoc hd hw j]
        simp
        rw [e]
        simp
    obtain ⟨ρ', e, done, todo, V, h1, h2, h3⟩ := forL_ind (fun rest ρ => ∃ done todo V, done ++ todo = ws ∧ rest = todo.map D.int ∧ ρ = [.own (scD ws q), .own (.lst (row q (cnt done))), V]) step (ws.map D.int) [.own (scD ws q), .own (.lst (row q (cnt []))), .un] ⟨[], ws, .un, rfl, rfl, rfl⟩
    have : todo = [] := by cases todo with
      | nil => rfl
      | cons _ _ => cases h2
    subst this
    rw [List.append_nil] at h1
    subst h1
    exact ⟨.un, by rw [e, h3]; rfl⟩
  obtain ⟨V, hfor⟩ := hfor
  have l1 : ((q : Int) - 1).natAbs ≤ 1000000 := by omega
  have l3 : q ≤ 1000001 := by omega
  have l4 : 1 + (q - 1) ≤ 1000000 := by omega
  have l5 := row_first hq
  rw [List.singleton_append, show ((q : Int) - 1).toNat = q - 1 by omega] at l5
  simp [m_all_counts, b_all_counts, -s_fldD, l1, l3, l4, rep_zero, l5, hfor]
theorem weight_counts_ok {ws : List Int} {q : Nat} (h : ∀ v ∈ ws, 0 ≤ v) (hq : 1 ≤ q) (hq2 : q ≤ 10000) : m_weight_counts [.own (scD ws q)] = .ok (.dat (.tup (row q (cnt ws)))) [.own (scD ws q)] := by
  simp [m_weight_counts, b_weight_counts, all_counts_ok h hq hq2]
end k23
end DL
namespace DL
open PySem L2
namespace k23
theorem fit_pow {x : Int} {n : Nat} (h0 : 0 ≤ x) (h : x < 2 ^ n) (hn : n ≤ 400000) : Fit x := by
  refine ⟨?_⟩
  have h1 : (x.natAbs : Int) < ((2 ^ n : Nat) : Int) := by
    rw [Int.natAbs_of_nonneg h0]; simpa using h
  exact Nat.lt_of_lt_of_le (by exact_mod_cast h1) (Nat.pow_le_pow_right (by decide) hn)
theorem pw_f1 {i : Nat} (hi : i < 1000) : Fit (2 ^ i) := by
  refine fit_pow (n := i + 1) ?_ ?_ (by omega)
  · exact Int.pow_nonneg (by decide)
  · rw [Int.pow_succ]
    have : (0 : Int) < 2 ^ i := Int.pow_pos (by decide)
    omega
theorem pw_st {n i : Nat} (hi : i < 1000) {d : D}: asgS 2 (op2S mulD (getS 2) (getS 0)) [.dat (.int 2), .dat (.int (n : Nat)), .dat (.int (2 ^ i)), .dat d] = .ok .nx [.dat (.int 2), .dat (.int (n : Nat)), .dat (.int (2 ^ (i + 1))), .dat d] := by
  have f2 : Fit 2 := Fit.of (by decide) (by decide)
  simp [-s_mulI, mulF (pw_f1 hi) f2, Int.pow_succ]
theorem pw_key {n : Nat} (hn : n ≤ 1000) : forL [3] (nameT 3) (asgS 2 (op2S mulD (getS 2) (getS 0))) (rangeD 0 n) [.dat (.int 2), .dat (.int (n : Nat)), .dat (.int 1), .un] = .ok .nx [.dat (.int 2), .dat (.int (n : Nat)), .dat (.int (2 ^ n)), .un] := by
    have := forL_st (fg := [3]) (ft := nameT 3) (fb := asgS 2 (op2S mulD (getS 2) (getS 0))) (rangeD 0 n) (fun i => [.dat (.int 2), .dat (.int (n : Nat)), .dat (.int (2 ^ i)), .un]) [.dat (.int 2), .dat (.int (n : Nat)), .dat (.int 1), .un] rfl ?_
    · rw [rangeD_len] at this; exact this
    · intro i hi
      exact ⟨_, _, rfl, pw_st (by rw [rangeD_len] at hi; omega), rfl⟩
theorem power_ok {n : Nat} (hn : n ≤ 1000) : m_power [.dat (.int 2), .dat (.int (n : Nat))] = .ok (.dat (.int (2 ^ n))) [.dat (.int 2), .dat (.int (n : Nat))] := by
  have h1 : Rg (n : Int) := Rg.of (by omega) (by omega)
  have k := pw_key hn
  simp [m_power, b_power, rg1_ok h1, k]
theorem taken_out_0 {q : Nat} {g : Nat → Int} {X : SV} (hX : X = .own (.lst (row q fun j => g j + sh 0 g j)) ∨ X = .dat (.lst (row q fun j => g j + sh 0 g j))) (hq : q ≤ 10000) :
    m_taken_out [X, .dat (.int 0)] = .ok (.own (.lst (row q g))) [X, .dat (.int 0)] := by
  have hl : ∀ S : SV, lcR [4] (nameT 4) yesT (op2S fdivD (getS 4) (constS (.int 2))) (row q fun j => g j + sh 0 g j) [S, .dat (.int 0), .un, .un, .un] = .ok (.own (.lst (row q g))) [S, .dat (.int 0), .un, .un, .un] := fun S => by
    refine (lcR_all (y := fun j => D.int (g j)) rfl (by simp; omega) fun j hj => ⟨_, _, [S, .dat (.int 0), .un, .un, .dat (.int (g j + sh 0 g j))], rfl, rfl, ?_, rfl⟩).trans rfl
    have e : sh 0 g j = g j := by
      unfold sh
      rw [if_pos (by omega)]
      congr 1
    have e2 : (g j + g j) / 2 = g j := by omega
    have l2 : Nat.log2 2 < 9000 := by decide
    simp [e, e2, l2]
  rcases hX with rfl | rfl
  · simp [m_taken_out, b_taken_out, hl]
  · simp [m_taken_out, b_taken_out, hl]
theorem row_succ {q : Nat} {f : Nat → Int} : row (q + 1) f = row q f ++ [.int (f q)] := by
  unfold row
  rw [List.range_succ, List.map_append]; rfl
theorem taken_out_w {q : Nat} {g : Nat → Int} {w : Int} {X : SV} (hw : 0 < w) (hX : X = .own (.lst (row q fun j => g j + sh w g j)) ∨ X = .dat (.lst (row q fun j => g j + sh w g j))) (hq : q ≤ 10000) :
    m_taken_out [X, .dat (.int w)] = .ok (.own (.lst (row q g))) [.dat (.lst (row q fun j => g j + sh w g j)), .dat (.int w)] := by
  have hl : ∃ V, forL [3] (tupT 2 (consT (nameT 3) (consT (nameT 4) nilT))) (dropS (methS appendD 2 (consD (op2S subD (getS 4) (ifS (testS (op2S geD (getS 3) (getS 1))) (op2S ixA (getS 2) (op2S subD (getS 3) (getS 1))) (constS (.int 0)))) nilS)))
      (enumD 0 (row q fun j => g j + sh w g j)) [.dat (.lst (row q fun j => g j + sh w g j)), .dat (.int w), .own (.lst []), .un, .un] = .ok .nx [.dat (.lst (row q fun j => g j + sh w g j)), .dat (.int w), .own (.lst (row q g)), .un, V] := by
    have := forL_st (fg := [3]) (ft := tupT 2 (consT (nameT 3) (consT (nameT 4) nilT))) (fb := dropS (methS appendD 2 (consD (op2S subD (getS 4) (ifS (testS (op2S geD (getS 3) (getS 1))) (op2S ixA (getS 2) (op2S subD (getS 3) (getS 1))) (constS (.int 0)))) nilS)))
      (enumD 0 (row q fun j => g j + sh w g j)) (fun i => [.dat (.lst (row q fun j => g j + sh w g j)), .dat (.int w), .own (.lst (row i g)), .un, if i = 0 then .un else .dat (.int (g (i - 1) + sh w g (i - 1)))]) [.dat (.lst (row q fun j => g j + sh w g j)), .dat (.int w), .own (.lst []), .un, .un] rfl ?_
    · rw [enumD_len, row_len] at this; exact ⟨_, this⟩
    · intro i hi
      rw [enumD_len, row_len] at hi
      have e : (enumD 0 (row q fun j => g j + sh w g j))[i]'(by rw [enumD_len, row_len]; exact hi) = D.tup [.int (i : Nat), .int (g i + sh w g i)] := by simp [row_enum]
      rw [e]
      refine ⟨_, [.dat (.lst (row q fun j => g j + sh w g j)), .dat (.int w), .own (.lst (row (i + 1) g)), .dat (.int (i : Nat)), .dat (.int (g i + sh w g i))], rfl, ?_, rfl⟩
      have hl : i < 1000000 := by omega
      by_cases h : w ≤ (i : Int)
      · have h1 : atI (row i g) ((i : Int) - w) = some (.int (g ((i : Int) - w).toNat)) := row_at (by omega) (by omega)
        have h2 : sh w g i = g ((i : Int) - w).toNat := by unfold sh; rw [if_pos h]
        have h3 : g i + g ((i : Int) - w).toNat - g ((i : Int) - w).toNat = g i := by omega
        simp [h, h1, h2, h3, hl, row_succ]
      · have h2 : sh w g i = 0 := by unfold sh; rw [if_neg h]
        simp [h, h2, hl, row_succ]
  obtain ⟨V, hl⟩ := hl
  have h0 : ¬ w = 0 := by omega
  rcases hX with rfl | rfl
  · simp [m_taken_out, b_taken_out, h0, hl]
  · simp [m_taken_out, b_taken_out, h0, hl]
/-- the sum over the last w ones -/
def win (q : Nat) (w : Int) (g : Nat → Int) : Int := S q fun j => if (q : Int) - w ≤ (j : Int) then g j else 0
theorem row_cut {q : Nat} {g : Nat → Int} {k : Nat} (hk : k ≤ q) : cutD (row q g) (some (k : Int)) none = (List.range (q - k)).map fun i => D.int (g (k + i)) := by
  unfold cutD
  rw [row_len, HT.sIx_none, HT.sIx_nat, Nat.min_eq_left hk]
  refine List.ext_getElem? fun i => ?_
  rw [List.getElem?_take]
  by_cases h : i < q - k
  · rw [if_pos h, List.getElem?_drop, row_get, if_pos (by omega)]; simp [h]
  · rw [if_neg h, List.getElem?_eq_none (by simp; omega)]
theorem ints_map {α : Type} {l : List α} {f : α → Int} : intsD (l.map fun x => D.int (f x)) = some (l.map f) := by
  induction l with
  | nil => rfl
  | cons a l ih => simp only [List.map_cons, intsD, ih]; rfl
theorem swings_of_ok {q : Nat} {g : Nat → Int} {w : Int} (hw : 0 ≤ w) : m_swings_of [.dat (.lst (row q g)), .dat (.int w)] = .ok (.dat (.int (win q w g))) [.dat (.lst (row q g)), .dat (.int w)] := by
  by_cases h : 0 < w
  · obtain ⟨k, hk⟩ : ∃ k : Nat, (if w < (q : Int) then (q : Int) - w else 0) = (k : Int) := ⟨(if w < (q : Int) then (q : Int) - w else 0).toNat, by split <;> omega⟩
    have hkq : k ≤ q := by split at hk <;> omega
    have e : ((List.range (q - k)).map fun i => g (k + i)).sum = win q w g := by
      rw [S_sum (q - k) fun i => g (k + i), S_from q k g hkq]
      refine S_congr fun i _ => ?_
      by_cases z : k ≤ i
      · rw [if_pos z, if_pos (by split at hk <;> omega)]
      · rw [if_neg z, if_neg (by split at hk <;> omega)]
    simp [m_swings_of, b_swings_of, h, hk, row_cut hkq, ints_map, e]
  · have : w = 0 := by omega
    subst this
    have e : win q 0 g = 0 := by
      unfold win
      exact (S_congr (g := fun _ => 0) fun i hi => if_neg (by omega)).trans (S_zero q)
    simp [m_swings_of, b_swings_of, e]
end k23
end DL
namespace DL
open PySem L2
namespace k23
theorem taken_out_ok {q : Nat} {f g : Nat → Int} {w : Int} {X : SV} (hw : 0 ≤ w) (hf : ∀ j, f j = g j + sh w g j) (hX : X = .own (.lst (row q f)) ∨ X = .dat (.lst (row q f))) (hq : q ≤ 10000) :
    ∃ X', (X' = .own (.lst (row q f)) ∨ X' = .dat (.lst (row q f))) ∧ m_taken_out [X, .dat (.int w)] = .ok (.own (.lst (row q g))) [X', .dat (.int w)] := by
  have e : f = fun j => g j + sh w g j := funext hf
  subst e
  by_cases h : w = 0
  · subst h
    exact ⟨X, hX, taken_out_0 hX hq⟩
  · exact ⟨_, .inr rfl, taken_out_w (by omega) hX hq⟩
def swing (q : Nat) (ws : List Int) (w : Int) : Int := win q w (cnt (ws.erase w))
theorem scale_swings_ok {ws : List Int} {q : Nat} (h : ∀ v ∈ ws, 0 ≤ v) (hq : 1 ≤ q) (hq2 : q ≤ 10000) (hl : ws.length ≤ 1000) :
    m_scale_swings [.own (scD ws q)] = .ok (.dat (.tup (ws.map fun w => .int (swing q ws w)))) [.own (scD ws q)] := by
  obtain ⟨ρ', hI, hc⟩ := lcR_inv (vs := [2]) (ft := nameT 2) (tt := yesT) (fe := fnS m_swings_of (consS (fnS m_taken_out (consS (getS 1) (consS (getS 2) nilS))) (consS (getS 2) nilS))) (L := ws) (it := D.int) (y := fun w => D.int (swing q ws w))
    (ρ := [.own (scD ws q), .own (.lst (row q (cnt ws))), .un]) (fun ρ0 => ρ0 = [.own (scD ws q), .own (.lst (row q (cnt ws))), .un] ∨ ρ0 = [.own (scD ws q), .dat (.lst (row q (cnt ws))), .un]) rfl (by simp; omega) (.inl rfl) (fun w hm ρ0 hI => by
      have hw := h w hm
      have e2 := swings_of_ok (q := q) (g := cnt (ws.erase w)) hw
      rcases hI with rfl | rfl
      · obtain ⟨X', hX, e1⟩ := taken_out_ok (q := q) hw (fun j => cnt_erase h hm j) (.inl rfl) hq2
        refine ⟨_, _, [.own (scD ws q), backSV X', .dat (.int w)], rfl, rfl, ?_, ?_⟩
        · simp [e1, e2, swing]
        · rcases hX with rfl | rfl <;> simp
      · obtain ⟨X', hX, e1⟩ := taken_out_ok (q := q) hw (fun j => cnt_erase h hm j) (.inr rfl) hq2
        refine ⟨_, _, [.own (scD ws q), .dat (.lst (row q (cnt ws))), .dat (.int w)], rfl, rfl, ?_, .inr rfl⟩
        simp [e1, e2, swing])
  have e := all_counts_ok h hq hq2
  rcases hI with rfl | rfl
  · simp [m_scale_swings, b_scale_swings, e, hc, -s_fldD]
  · simp [m_scale_swings, b_scale_swings, e, hc, -s_fldD]
theorem scale_carrying_ok {ws : List Int} {q : Nat} (h : ∀ v ∈ ws, 0 ≤ v) (hq : 1 ≤ q) (hq2 : q ≤ 10000) (hl : ws.length ≤ 1000) :
    m_scale_carrying [.own (scD ws q)] = .ok (.dat (.int (2 ^ ws.length - S q (cnt ws)))) [.own (scD ws q)] := by
  have e := all_counts_ok h hq hq2
  have e2 := power_ok hl
  simp [m_scale_carrying, b_scale_carrying, e, e2, -s_fldD, row_ints, S_sum]
end k23
end DL
namespace DL
open PySem L2
namespace k23
theorem fact_lt : ∀ {n : Nat}, n ≤ 127 → fact n < 2 ^ (7 * n + 1)
  | 0, _ => by decide
  | n + 1, h => by
    have ih := fact_lt (n := n) (by omega)
    rw [fact, show 7 * (n + 1) + 1 = (7 * n + 1) + 7 by omega, Nat.pow_add]
    exact Nat.mul_lt_mul_of_lt_of_le ih (by omega) (by decide)
theorem fit_fact {n : Nat} (h : n ≤ 127) : Fit (fact n : Int) := by
  refine fit_pow (n := 7 * n + 1) (by omega) ?_ (by omega)
  exact_mod_cast fact_lt h
theorem tm_st {n i : Nat} (hi : i < 127) {m : Int} : asgS 1 (op2S mulD (getS 1) (getS 2)) [.dat (.int m), .dat (.int (fact i : Nat)), .dat (.int (1 + (i : Nat)))] = .ok .nx [.dat (.int m), .dat (.int (fact (i + 1) : Nat)), .dat (.int (1 + (i : Nat)))] := by
  have f2 : Fit (1 + (i : Nat) : Int) := Fit.of (by omega) (by omega)
  have e : ((fact i : Nat) : Int) * (1 + (i : Int)) = (fact (i + 1) : Nat) := by
    rw [fact, Int.natCast_mul, Int.natCast_add]; congr 1; omega
  simp [-s_mulI, mulF (fit_fact (n := i) (by omega)) f2, e]
theorem times_ok {n : Nat} (hn : n ≤ 127) : m_law_times [.dat (.int (n : Nat))] = .ok (.dat (.int (fact n : Nat))) [.dat (.int (n : Nat))] := by
  have key : forL [2] (nameT 2) (asgS 1 (op2S mulD (getS 1) (getS 2))) (rangeD 1 n) [.dat (.int (n : Nat)), .dat (.int 1), .un] = .ok .nx [.dat (.int (n : Nat)), .dat (.int (fact n : Nat)), .un] := by
    have := forL_st (fg := [2]) (ft := nameT 2) (fb := asgS 1 (op2S mulD (getS 1) (getS 2))) (rangeD 1 n) (fun i => [.dat (.int (n : Nat)), .dat (.int (fact i : Nat)), .un]) [.dat (.int (n : Nat)), .dat (.int 1), .un] rfl ?_
    · rw [rangeD_len] at this; exact this
    · intro i hi
      have e : (rangeD 1 n)[i] = D.int (1 + (i : Nat)) := by simp [rangeD_eq]
      rw [rangeD_len] at hi
      rw [e]
      exact ⟨_, _, rfl, tm_st (n := n) (by omega), rfl⟩
  have h1 : Rg ((n : Int) + 1) := Rg.of (by omega) (by omega)
  have h2 : Rg 1 := Rg.of (by decide) (by decide)
  have h3 : ((n : Int) + 1 - 1).toNat = n := by omega
  simp [m_law_times, b_law_times, rg2_ok h2 h1, h3, key]
/-- n over k, 0 outside -/
def ch (n : Nat) (k : Int) : Int := if 0 ≤ k ∧ k ≤ n then (bin n k.toNat : Int) else 0
theorem choose_ok {n : Nat} {k : Int} (hn : n ≤ 127) : m_law_choose [.dat (.int (n : Nat)), .dat (.int k)] = .ok (.dat (.int (ch n k))) [.dat (.int (n : Nat)), .dat (.int k)] := by
  by_cases h0 : 0 ≤ k
  · by_cases h1 : k ≤ n
    · obtain ⟨j, rfl⟩ : ∃ j : Nat, k = j := ⟨k.toNat, by omega⟩
      have hj : j ≤ n := by omega
      have e1 := times_ok hn
      have e2 := times_ok (n := j) (by omega)
      have e3 := times_ok (n := n - j) (by omega)
      have e4 : (n : Int) - (j : Int) = ((n - j : Nat) : Int) := by omega
      have f1 := fit_fact (n := j) (by omega)
      have f2 := fit_fact (n := n - j) (by omega)
      have pos : 0 < fact j * fact (n - j) := Nat.mul_pos (fact_pos _) (fact_pos _)
      have hlog : (fact j * fact (n - j)).log2 < 9000 := by
        rw [Nat.log2_lt (by omega)]
        refine Nat.lt_of_lt_of_le (Nat.mul_lt_mul_of_lt_of_lt (fact_lt (n := j) (by omega)) (fact_lt (n := n - j) (by omega))) ?_
        rw [← Nat.pow_add]
        exact Nat.pow_le_pow_right (by decide) (by omega)
      have e5 : ((fact n : Nat) : Int) / ((fact j : Nat) * (fact (n - j) : Nat) : Int) = ((bin n j : Nat) : Int) := by
        rw [← bin_eq hj, Int.natCast_ediv, Int.natCast_mul]
      have hna : (((fact j : Nat) : Int) * ((fact (n - j) : Nat) : Int)).natAbs = fact j * fact (n - j) := by rw [← Int.natCast_mul]; rfl
      have hp : (0 : Int) < ((fact j : Nat) : Int) * ((fact (n - j) : Nat) : Int) := by rw [← Int.natCast_mul]; exact_mod_cast pos
      have e6 : ch n j = (bin n j : Nat) := by unfold ch; rw [if_pos ⟨h0, h1⟩]; rfl
      have hfd : fdivD (.int (fact n : Nat)) (.int ((fact j : Nat) * (fact (n - j) : Nat) : Int)) = some (.dat (.int (bin n j : Nat))) := by
        rw [s_fdiv, if_pos ⟨hp, by rw [hna]; exact hlog⟩, e5]
      simp [-s_mulI, -s_fdiv, m_law_choose, b_law_choose, hj, e1, e2, e3, e4, mulF f1 f2, hfd, e6]
    · have e6 : ch n k = 0 := by unfold ch; rw [if_neg (fun h => h1 h.2)]
      simp [m_law_choose, b_law_choose, h0, h1, e6]
  · have e6 : ch n k = 0 := by unfold ch; rw [if_neg (fun h => h0 h.1)]
    simp [m_law_choose, b_law_choose, h0, e6]
/-! told, due -/
theorem is_int (k : Nat) (a : Int) : m_law_is (k + 1) [.dat (.int a), .dat (.int a)] = .ok (.dat (.bl true)) [.dat (.int a), .dat (.int a)] := by
  have i1 : isD (.int a) .non = some (.dat (.bl false)) := rfl
  have i2 : ∀ b, isD (.int a) (.bl b) = some (.dat (.bl false)) := fun b => by cases b <;> rfl
  simp [m_law_is, b_law_is, i1, i2]
theorem eq_nil : eqD (.lst []) (.lst []) = some (.dat (.bl true)) := by
  show (eqDat _ _).map xbl = _
  unfold eqDat toP toPs
  rfl
theorem is_tup (k : Nat) (ns : List Int) (hl : ns.length ≤ 10000) : m_law_is (k + 2) [.dat (.tup (ns.map .int)), .dat (.tup (ns.map .int))] = .ok (.dat (.bl true)) [.dat (.tup (ns.map .int)), .dat (.tup (ns.map .int))] := by
  have h1 : Rg (ns.length : Int) := Rg.of (by omega) (by omega)
  have n1 : neD (.int (ns.length : Nat)) (.int (ns.length : Nat)) = some (.dat (.bl false)) := by
    have := s_eqI (m := (ns.length : Nat)) (n := (ns.length : Nat))
    unfold eqD at this
    unfold neD
    cases z : eqDat (.int (ns.length : Nat)) (.int (ns.length : Nat)) with
    | none => rw [z] at this; cases this
    | some b => rw [z] at this; simp at this; subst this; rfl
  have key : lcR [2] (nameT 2) (notT (truS (fnS (m_law_is (k + 1)) (consS (op2S ixA (getS 0) (getS 2)) (consS (op2S ixA (getS 1) (getS 2)) nilS))))) (getS 2) (rangeD 0 ns.length) [.dat (.tup (ns.map .int)), .dat (.tup (ns.map .int)), .un]
      = .ok (.own (.lst [])) [.dat (.tup (ns.map .int)), .dat (.tup (ns.map .int)), .un] := by
    rw [rangeD_eq]
    refine (lcR_map (y := fun _ => none) rfl (by simp; omega) fun j hj => ⟨_, false, [SV.dat (.tup (ns.map .int)), SV.dat (.tup (ns.map .int)), SV.dat (.int (0 + (j : Nat)))], rfl, ?_, fun h => (by cases h), fun _ => ⟨rfl, rfl⟩⟩).trans ?_
    · have hj := List.mem_range.mp hj
      have e : atI (ns.map D.int) (j : Int) = some (.int ns[j]) := by
        unfold atI ixN
        rw [if_pos (by omega), if_pos (by rw [List.length_map]; omega)]
        simp [hj]
      simp [e, is_int]
    · simp
  rw [m_law_is]
  simp [b_law_is, n1, rg1_ok h1, key, eq_nil]
end k23
end DL
namespace DL
open PySem L2
namespace k23
/-! dicts of ints by ints -/
abbrev Ents := List (Int × Int)
def dctE (l : Ents) : D := .dct (l.map fun p => .inl p.1) (l.map fun p => .int p.2)
def getE (t : Int) : Ents → Option Int
  | [] => none
  | p :: r => if p.1 = t then some p.2 else getE t r
def addE (t c : Int) : Ents → Ents
  | [] => [(t, c)]
  | p :: r => if p.1 = t then (p.1, p.2 + c) :: r else p :: addE t c r
def sumE (g : Int → Int) (l : Ents) : Int := (l.map fun p => p.2 * g p.1).sum
def NdE (l : Ents) : Prop := (l.map Prod.fst).Nodup
theorem getE_d (t : Int) : ∀ l : Ents, dgetD (l.map fun p => (.inl p.1 : Key)) (l.map fun p => D.int p.2) (.inl t) = (getE t l).map D.int
  | [] => rfl
  | p :: r => by
    simp only [List.map_cons, dgetD, getE]
    by_cases h : p.1 = t
    · rw [if_pos (by rw [h]), if_pos h]; rfl
    · rw [if_neg (by simpa using h), if_neg h]; exact getE_d t r
theorem getE_none {t : Int} : ∀ {l : Ents}, t ∉ l.map Prod.fst → getE t l = none
  | [], _ => rfl
  | p :: r, h => by
    simp only [List.map_cons, List.mem_cons, not_or] at h
    rw [getE, if_neg (fun z => h.1 z.symm), getE_none h.2]
theorem getE_mem {t c : Int} : ∀ {l : Ents}, NdE l → (t, c) ∈ l → getE t l = some c
  | [], _, h => by cases h
  | p :: r, nd, h => by
    unfold NdE at nd
    rw [List.map_cons, List.nodup_cons] at nd
    rw [getE]
    rcases List.mem_cons.mp h with rfl | h
    · rw [if_pos rfl]
    · rw [if_neg, getE_mem nd.2 h]
      intro z
      exact nd.1 (by rw [z]; exact List.mem_map.mpr ⟨_, h, rfl⟩)
theorem addE_fst (t c : Int) : ∀ l : Ents, (t ∈ l.map Prod.fst ∧ (addE t c l).map Prod.fst = l.map Prod.fst) ∨ (t ∉ l.map Prod.fst ∧ (addE t c l).map Prod.fst = l.map Prod.fst ++ [t])
  | [] => .inr ⟨by simp, rfl⟩
  | p :: r => by
    rw [addE]
    by_cases h : p.1 = t
    · rw [if_pos h]; exact .inl ⟨by simp [h], rfl⟩
    · rw [if_neg h]
      rcases addE_fst t c r with ⟨h1, h2⟩ | ⟨h1, h2⟩
      · exact .inl ⟨by simp at h1 ⊢; exact .inr h1, by simp [h2]⟩
      · refine .inr ⟨?_, by simp [h2]⟩
        simp only [List.map_cons, List.mem_cons, not_or]
        exact ⟨fun z => h z.symm, h1⟩
theorem addE_nd {t c : Int} {l : Ents} (h : NdE l) : NdE (addE t c l) := by
  unfold NdE at h ⊢
  rcases addE_fst t c l with ⟨h1, h2⟩ | ⟨h1, h2⟩
  · rw [h2]; exact h
  · rw [h2, List.nodup_append]
    exact ⟨h, by simp, fun a ha b hb => by simp at hb; subst hb; intro z; subst z; exact h1 ha⟩
theorem addE_mem {t c x : Int} {l : Ents} (h : x ∈ (addE t c l).map Prod.fst) : x = t ∨ x ∈ l.map Prod.fst := by
  rcases addE_fst t c l with ⟨h1, h2⟩ | ⟨h1, h2⟩
  · rw [h2] at h; exact .inr h
  · rw [h2] at h
    rcases List.mem_append.mp h with h | h
    · exact .inr h
    · exact .inl (by simpa using h)
theorem sumE_add (g : Int → Int) (t c : Int) : ∀ l : Ents, sumE g (addE t c l) = sumE g l + c * g t
  | [] => by simp [addE, sumE]
  | p :: r => by
    have ih := sumE_add g t c r
    rw [addE]
    by_cases h : p.1 = t
    · rw [if_pos h]
      simp only [sumE, List.map_cons, List.sum_cons, h, Int.add_mul]; omega
    · rw [if_neg h]
      simp only [sumE, List.map_cons, List.sum_cons] at ih ⊢
      rw [ih]; omega
/-- the dict behind d[t] = d.get(t, 0) + c -/
theorem put_add (t c : Int) : ∀ {l : Ents}, NdE l → putKs (.inl t) (l.map fun p => .inl p.1) = (addE t c l).map (fun p => .inl p.1) ∧
    putDs (.inl t) (.int ((getE t l).getD 0 + c)) (l.map fun p => .inl p.1) (l.map fun p => D.int p.2) = (addE t c l).map fun p => D.int p.2 := by
  have hk : ∀ l : Ents, hasK (.inl t) (l.map fun p => (.inl p.1 : Key)) = true ↔ t ∈ l.map Prod.fst := fun l => by
    rw [hasK_mem]; simp
  have rep_no : ∀ (l : Ents) (d : D), t ∉ l.map Prod.fst → repD1 (.inl t) d (l.map fun p => (.inl p.1 : Key)) (l.map fun p => D.int p.2) = l.map fun p => D.int p.2 := by
    intro l d
    induction l with
    | nil => intro _; rfl
    | cons p r ih =>
      intro h
      simp only [List.map_cons, List.mem_cons, not_or] at h
      simp only [List.map_cons, repD1]
      rw [if_neg (by simpa using fun z : p.1 = t => h.1 z.symm), ih h.2]
  have rep : ∀ l : Ents, NdE l → t ∈ l.map Prod.fst → repD1 (.inl t) (.int ((getE t l).getD 0 + c)) (l.map fun p => (.inl p.1 : Key)) (l.map fun p => D.int p.2) = (addE t c l).map fun p => D.int p.2 := by
    intro l
    induction l with
    | nil => intro _ h; cases h
    | cons p r ih =>
      intro nd h
      unfold NdE at nd
      rw [List.map_cons, List.nodup_cons] at nd
      by_cases z : p.1 = t
      · simp only [List.map_cons, repD1, getE, addE, if_pos z]
        rw [if_pos (by rw [z]), rep_no r _ (by rw [← z]; exact nd.1)]; rfl
      · have h' : t ∈ r.map Prod.fst := by
          rcases List.mem_cons.mp h with h | h
          · exact absurd h.symm z
          · exact h
        simp only [List.map_cons, repD1, getE, addE, if_neg z]
        rw [if_neg (by simpa using z), ih nd.2 h']
  intro l nd
  unfold putKs putDs
  by_cases h : t ∈ l.map Prod.fst
  · rw [if_pos ((hk l).mpr h), if_pos ((hk l).mpr h)]
    refine ⟨?_, rep l nd h⟩
    rcases addE_fst t c l with ⟨_, h2⟩ | ⟨h1, _⟩
    · have : ∀ m : Ents, m.map (fun p => (.inl p.1 : Key)) = (m.map Prod.fst).map .inl := fun m => by simp
      rw [this, this, h2]
    · exact absurd h h1
  · rw [if_neg (fun z => h ((hk l).mp z)), if_neg (fun z => h ((hk l).mp z))]
    have ea : ∀ m : Ents, t ∉ m.map Prod.fst → addE t c m = m ++ [(t, c)] := by
      intro m
      induction m with
      | nil => intro _; rfl
      | cons p r ih =>
        intro h
        simp only [List.map_cons, List.mem_cons, not_or] at h
        rw [addE, if_neg (fun z => h.1 z.symm), ih h.2]; rfl
    rw [ea l h, getE_none h]
    simp
theorem nd_len : ∀ {B : Nat} {l : List Int}, l.Nodup → (∀ x ∈ l, 0 ≤ x ∧ x < B) → l.length ≤ B
  | 0, [], _, _ => Nat.le_refl _
  | 0, x :: l, _, h => by have := h x List.mem_cons_self; omega
  | B + 1, l, nd, h => by
    by_cases hb : (B : Int) ∈ l
    · have ih := nd_len (B := B) (l := l.erase B) (nd.erase _) fun x hx => by
        obtain ⟨h1, h2⟩ := (List.Nodup.mem_erase_iff nd).mp hx
        have := h x h2
        omega
      rw [List.length_erase_of_mem hb] at ih
      omega
    · have ih := nd_len (B := B) (l := l) nd fun x hx => by
        have h1 := h x hx
        have : x ≠ B := fun z => hb (z ▸ hx)
        omega
      omega
end k23
end DL
namespace DL
open PySem L2
namespace k23
@[simp] theorem s_dget2 {f g h : Env → R XV} {ρ : Env} : dget2S f g h ρ = (opnd f ρ).bind fun x ρ => if isDct (cont ρ x) = true then (opnd g ρ).bind fun y ρ => (valS h ρ).bind fun z ρ => getAt x y z ρ else .stuck := rfl
@[simp] theorem isDct_E {l : Ents} : isDct (some (dctE l)) = true := rfl
theorem get_E {t z : Int} {l : Ents} : (dgetD (l.map fun p => (.inl p.1 : Key)) (l.map fun p => D.int p.2) (.inl t)).getD (.int z) = .int ((getE t l).getD z) := by
  rw [getE_d]; cases getE t l <;> rfl
theorem ix_E {t v : Int} {l : Ents} (h : getE t l = some v) : ixA (dctE l) (.int t) = some (.dat (.int v)) := by
  rw [dctE, s_ixD, s_keyI]
  show ((dgetD _ _ _).map XV.dat) = _
  rw [getE_d, h]; rfl
section
variable {a0 a1 a2 a4 : SV} {L : Ents} {t z c : Int}
@[simp] theorem getAt_3 : getAt (.slot 3) (.dat (.int t)) (.int z) [a0, a1, a2, .own (dctE L), a4] = .ok (.dat (.int ((getE t L).getD z))) [a0, a1, a2, .own (dctE L), a4] := by
  show (R.ok (XV.dat ((dgetD _ _ _).getD _)) _) = _
  rw [get_E]
theorem setAt_3 (nd : NdE L) (hl : L.length < 1000000) : setAt 3 (.dat (.int t)) (.int ((getE t L).getD 0 + c)) [a0, a1, a2, .own (dctE L), a4] = .ok .nx [a0, a1, a2, .own (dctE (addE t c L)), a4] := by
  have e : setAt 3 (.dat (.int t)) (.int ((getE t L).getD 0 + c)) [a0, a1, a2, .own (dctE L), a4] = if (L.map fun p => (.inl p.1 : Key)).length < LIM then .ok .nx [a0, a1, a2, .own (.dct (putKs (.inl t) (L.map fun p => .inl p.1)) (putDs (.inl t) (.int ((getE t L).getD 0 + c)) (L.map fun p => .inl p.1) (L.map fun p => D.int p.2))), a4] else .stuck := rfl
  rw [e, if_pos (by rw [List.length_map]; exact hl)]
  obtain ⟨p1, p2⟩ := put_add t c nd
  rw [p1, p2]; rfl
end
def sumB : Env → R Out := (seqS (itemS 3 (op2S addD (dget2S (getS 3) (getS 4) (constS (.int 0))) (op2S ixA (getS 1) (getS 4))) (getS 4))
    (itemS 3 (op2S addD (dget2S (getS 3) (op2S addD (getS 4) (getS 2)) (constS (.int 0))) (op2S ixA (getS 1) (getS 4))) (op2S addD (getS 4) (getS 2))))
theorem sumB_ok {a0 : SV} {ents L : Ents} {t v w : Int} (hv : getE t ents = some v) (nd : NdE L) (hl : L.length < 100000) :
    sumB [a0, .brw (dctE ents), .dat (.int w), .own (dctE L), .dat (.int t)] = .ok .nx [a0, .brw (dctE ents), .dat (.int w), .own (dctE (addE (t + w) v (addE t v L))), .dat (.int t)] := by
  have h2 : (addE t v L).length < 1000000 := by
    have : (addE t v L).length ≤ L.length + 1 := by
      have e : ∀ m : Ents, m.length = (m.map Prod.fst).length := fun m => by simp
      rw [e, e L]
      rcases addE_fst t v L with ⟨_, h⟩ | ⟨_, h⟩ <;> rw [h] <;> simp
    omega
  have s1 := @setAt_3 a0 (.brw (dctE ents)) (.dat (.int w)) (.dat (.int t)) L t v nd (by omega)
  have s2 := @setAt_3 a0 (.brw (dctE ents)) (.dat (.int w)) (.dat (.int t)) (addE t v L) (t + w) v (addE_nd nd) h2
  unfold sumB
  rw [seq_nx (p := itemS 3 _ (getS 4)) (ρ' := [a0, .brw (dctE ents), .dat (.int w), .own (dctE (addE t v L)), .dat (.int t)]) (by simp [-s_setAt, ix_E hv, s1])]
  simp [-s_setAt, ix_E hv, s2]
/-- what counts holds behind the weights ws -/
structure CountsOf (ws : List Int) (l : Ents) : Prop where
  nd : NdE l
  lo : ∀ x ∈ l.map Prod.fst, 0 ≤ x ∧ x ≤ ws.sum
  sum : ∀ g : Int → Int, sumE g l = M ws (fun _ t => g t)
theorem M_sumE {ws : List Int} {l : Ents} (h : CountsOf ws l) (w : Int) (g : Int → Int) : M (ws ++ [w]) (fun _ t => g t) = sumE g l + sumE (fun t => g (t + w)) l := by
  rw [M_snoc, h.sum, h.sum]
theorem sum_nn : ∀ {ws : List Int}, (∀ v ∈ ws, 0 ≤ v) → 0 ≤ ws.sum
  | [], _ => by simp
  | w :: ws, h => by
    have := sum_nn (ws := ws) fun v hv => h v (List.mem_cons_of_mem _ hv)
    have := h w List.mem_cons_self
    simp; omega
/-- one weight more -/
theorem counts_step {a0 : SV} {ws : List Int} {ents : Ents} {w : Int} (h : CountsOf ws ents) (hw : 0 ≤ w) (hs : ws.sum + w < 90000) :
    ∃ L, CountsOf (ws ++ [w]) L ∧ forL [4] (nameT 4) sumB ((ents.map fun p => (.inl p.1 : Key)).map keyDat) [a0, .brw (dctE ents), .dat (.int w), .own (dctE []), .un] = .ok .nx [a0, .brw (dctE ents), .dat (.int w), .own (dctE L), .un] := by
  have step : ∀ d ds ρ, (∃ dn td L V, dn ++ td = ents ∧ (d :: ds) = (td.map fun p => D.int p.1) ∧ NdE L ∧ (∀ x ∈ L.map Prod.fst, 0 ≤ x ∧ x ≤ ws.sum + w) ∧ (∀ g, sumE g L = sumE g dn + sumE (fun t => g (t + w)) dn) ∧ ρ = [a0, .brw (dctE ents), .dat (.int w), .own (dctE L), V]) →
      ∃ ρ1 ρ2, nameT 4 d (forget [4] ρ) = some ρ1 ∧ sumB ρ1 = .ok .nx ρ2 ∧ ∃ dn td L V, dn ++ td = ents ∧ ds = (td.map fun p => D.int p.1) ∧ NdE L ∧ (∀ x ∈ L.map Prod.fst, 0 ≤ x ∧ x ≤ ws.sum + w) ∧ (∀ g, sumE g L = sumE g dn + sumE (fun t => g (t + w)) dn) ∧ ρ2 = [a0, .brw (dctE ents), .dat (.int w), .own (dctE L), V] := by
    rintro d ds ρ ⟨dn, td, L, V, h1, h2, nd, hb, hg, rfl⟩
    cases td with
    | nil => cases h2
    | cons p td =>
      rw [List.map_cons] at h2
      cases h2
      have hm : (p.1, p.2) ∈ ents := by rw [← h1]; simp
      have hv := getE_mem h.nd hm
      have hlo := h.lo p.1 (List.mem_map.mpr ⟨p, hm, rfl⟩)
      have hlen : L.length < 100000 := by
        have := nd_len (B := 90000) nd fun x hx => by have := hb x hx; omega
        rw [List.length_map] at this; omega
      refine ⟨_, _, rfl, sumB_ok hv nd hlen, dn ++ [p], td, _, _, by rw [← h1]; simp, rfl, addE_nd (addE_nd nd), fun x hx => ?_, fun g => ?_, rfl⟩
      · rcases addE_mem hx with rfl | hx
        · omega
        · rcases addE_mem hx with rfl | hx
          · omega
          · exact hb x hx
      · rw [sumE_add, sumE_add, hg]
        simp only [sumE, List.map_append, List.sum_append, List.map_cons, List.map_nil, List.sum_cons, List.sum_nil]
        omega
  have ek : (ents.map fun p => (.inl p.1 : Key)).map keyDat = ents.map fun p => D.int p.1 := by
    rw [List.map_map]; rfl
  rw [ek]
  obtain ⟨ρ', e, dn, td, L, V, h1, h2, nd, hb, hg, h3⟩ := forL_ind (fun rest ρ => ∃ dn td L V, dn ++ td = ents ∧ rest = (td.map fun p => D.int p.1) ∧ NdE L ∧ (∀ x ∈ L.map Prod.fst, 0 ≤ x ∧ x ≤ ws.sum + w) ∧ (∀ g, sumE g L = sumE g dn + sumE (fun t => g (t + w)) dn) ∧ ρ = [a0, .brw (dctE ents), .dat (.int w), .own (dctE L), V])
    step (ents.map fun p => D.int p.1) [a0, .brw (dctE ents), .dat (.int w), .own (dctE []), .un] ⟨[], ents, [], .un, rfl, rfl, List.nodup_nil, by simp, by simp [sumE], rfl⟩
  have : td = [] := by cases td with
    | nil => rfl
    | cons _ _ => cases h2
  subst this
  rw [List.append_nil] at h1
  subst h1
  refine ⟨L, ⟨nd, fun x hx => ?_, fun g => ?_⟩, by rw [e, h3]; rfl⟩
  · have := hb x hx; simp; omega
  · rw [hg, ← M_sumE h]
end k23
end DL
namespace DL
open PySem L2
namespace k23
def sumO : Env → R Out := seqS (asgS 3 newDS) (seqS (keysS 1 (forL [4] (nameT 4) sumB)) (moveS 1 3))
theorem sumO_ok {a0 : SV} {ws : List Int} {ents : Ents} {w : Int} (h : CountsOf ws ents) (hw : 0 ≤ w) (hs : ws.sum + w < 90000) :
    ∃ L, CountsOf (ws ++ [w]) L ∧ sumO [a0, .own (dctE ents), .dat (.int w), .un, .un] = .ok .nx [a0, .own (dctE L), .dat (.int w), .un, .un] := by
  obtain ⟨L, h1, h2⟩ := counts_step (a0 := a0) h hw hs
  refine ⟨L, h1, ?_⟩
  unfold sumO
  rw [seq_nx (p := asgS 3 newDS) (ρ' := [a0, .own (dctE ents), .dat (.int w), .own (dctE []), .un]) rfl]
  have e : keysS 1 (forL [4] (nameT 4) sumB) [a0, .own (dctE ents), .dat (.int w), .own (dctE []), .un] = .ok .nx [a0, .own (dctE ents), .dat (.int w), .own (dctE L), .un] := by
    show lockBack 1 (dctE ents) (forL [4] (nameT 4) sumB ((ents.map fun p => (.inl p.1 : Key)).map keyDat) [a0, .brw (dctE ents), .dat (.int w), .own (dctE []), .un]) = _
    rw [h2]; rfl
  rw [seq_nx e]; rfl
theorem sums_for {a0 : SV} {ws : List Int} (h : ∀ v ∈ ws, 0 ≤ v) (hs : ws.sum < 90000) : ∃ L, CountsOf ws L ∧ forL [2, 3, 4] (nameT 2) sumO (ws.map D.int) [a0, .own (dctE [(0, 1)]), .un, .un, .un] = .ok .nx [a0, .own (dctE L), .un, .un, .un] := by
  have step : ∀ d ds ρ, (∃ dn td L V, dn ++ td = ws ∧ (d :: ds) = td.map D.int ∧ CountsOf dn L ∧ ρ = [a0, .own (dctE L), V, .un, .un]) →
      ∃ ρ1 ρ2, nameT 2 d (forget [2, 3, 4] ρ) = some ρ1 ∧ sumO ρ1 = .ok .nx ρ2 ∧ ∃ dn td L V, dn ++ td = ws ∧ ds = td.map D.int ∧ CountsOf dn L ∧ ρ2 = [a0, .own (dctE L), V, .un, .un] := by
    rintro d ds ρ ⟨dn, td, L, V, h1, h2, hc, rfl⟩
    cases td with
    | nil => cases h2
    | cons w td =>
      rw [List.map_cons] at h2
      cases h2
      have hw : 0 ≤ w := h w (by rw [← h1]; simp)
      have hb : dn.sum + w < 90000 := by
        have : ws.sum = dn.sum + (w + td.sum) := by rw [← h1]; simp
        have := sum_nn (ws := td) fun v hv => h v (by rw [← h1]; simp [hv])
        omega
      obtain ⟨L', c1, c2⟩ := sumO_ok (a0 := a0) hc hw hb
      exact ⟨_, _, rfl, c2, dn ++ [w], td, L', _, by rw [← h1]; simp, rfl, c1, rfl⟩
  have c0 : CountsOf [] [(0, 1)] := ⟨by simp [NdE], by simp, fun g => by simp [sumE, M]⟩
  obtain ⟨ρ', e, dn, td, L, V, h1, h2, hc, h3⟩ := forL_ind (fun rest ρ => ∃ dn td L V, dn ++ td = ws ∧ rest = td.map D.int ∧ CountsOf dn L ∧ ρ = [a0, .own (dctE L), V, .un, .un]) step (ws.map D.int) [a0, .own (dctE [(0, 1)]), .un, .un, .un] ⟨[], ws, _, .un, rfl, rfl, c0, rfl⟩
  have : td = [] := by cases td with
    | nil => rfl
    | cons _ _ => cases h2
  subst this
  rw [List.append_nil] at h1
  subst h1
  exact ⟨L, hc, by rw [e, h3]; rfl⟩
theorem sums_ok {X : SV} {ws : List Int} (h : ∀ v ∈ ws, 0 ≤ v) (hs : ws.sum < 90000) (hX : X = .own (.lst (ws.map .int)) ∨ X = .dat (.lst (ws.map .int))) : ∃ L, CountsOf ws L ∧ m_law_sums [X] = .ok (.own (dctE L)) [X] := by
  have e0 : asgS 1 (dispS [.inl 0] (consP (constS (.int 1)) nilP)) [X, .un, .un, .un, .un] = .ok .nx [X, .own (dctE [(0, 1)]), .un, .un, .un] := rfl
  rcases hX with rfl | rfl
  · obtain ⟨L, h1, h2⟩ := sums_for (a0 := .brw (.lst (ws.map .int))) h hs
    refine ⟨L, h1, ?_⟩
    show endF 1 _ (seqS _ (seqS (overS 0 (forL [2, 3, 4] (nameT 2) sumO)) (retS (getS 1))) [.own (.lst (ws.map .int)), .un, .un, .un, .un]) = _
    rw [seq_nx e0]
    have e : overS 0 (forL [2, 3, 4] (nameT 2) sumO) [.own (.lst (ws.map .int)), .own (dctE [(0, 1)]), .un, .un, .un] = .ok .nx [.own (.lst (ws.map .int)), .own (dctE L), .un, .un, .un] := by
      show giveBack 0 _ (forL [2, 3, 4] (nameT 2) sumO (ws.map .int) [.brw (.lst (ws.map .int)), .own (dctE [(0, 1)]), .un, .un, .un]) = _
      rw [h2]; rfl
    rw [seq_nx e]; rfl
  · obtain ⟨L, h1, h2⟩ := sums_for (a0 := .dat (.lst (ws.map .int))) h hs
    refine ⟨L, h1, ?_⟩
    show endF 1 _ (seqS _ (seqS (overS 0 (forL [2, 3, 4] (nameT 2) sumO)) (retS (getS 1))) [.dat (.lst (ws.map .int)), .un, .un, .un, .un]) = _
    have e : overS 0 (forL [2, 3, 4] (nameT 2) sumO) [.dat (.lst (ws.map .int)), .own (dctE [(0, 1)]), .un, .un, .un] = .ok .nx [.dat (.lst (ws.map .int)), .own (dctE L), .un, .un, .un] := h2
    rw [seq_nx e0, seq_nx e]; rfl
end k23
end DL
namespace DL
open PySem L2
namespace k23
@[simp] theorem s_setFld {cs i nm f} {ρ : Env} : setFldS cs i nm f ρ = (valS f ρ).bind (setFldO cs i nm) := rfl
@[simp] theorem s_setFldO {cs i nm} {d : D} {ρ : Env} : setFldO cs i nm d ρ = (match ρ.at i with
  | .own (.ins c ns vs) => if cs.contains c = true ∧ ns.length < 1000 then .ok .nx (ρ.set i (.own (.ins c (putNs nm ns) (putVs nm d ns vs)))) else .stuck
  | _ => .stuck) := rfl
theorem bls_true {α : Type} (l : List α) : blsD (l.map fun _ => D.bl true) = some (l.map fun _ => true) := by
  induction l with
  | nil => rfl
  | cons a l ih => simp only [List.map_cons, blsD, ih]; rfl
theorem all_true {α : Type} (l : List α) : allL [.lst (l.map fun _ => D.bl true)] = some (.dat (.bl true)) := by
  show ((blsD _).map fun bs => xbl (bs.all id)) = _
  rw [bls_true]
  simp
theorem nums {ws : List Int} (h : ∀ v ∈ ws, 0 ≤ v) (hl : ws.length ≤ 60) (A S Q : SV) : lcR [3] (nameT 3) yesT (fnS m_is_number (consS (getS 3) nilS)) (ws.map D.int) [S, A, Q, .un] = .ok (.own (.lst (ws.map fun _ => D.bl true))) [S, A, Q, .un] := by
  refine (lcR_all (y := fun _ => D.bl true) rfl (by simp; omega) fun w hw => ⟨_, _, [S, A, Q, .dat (.int w)], rfl, rfl, ?_, rfl⟩).trans rfl
  simp [m_is_number_int w (h w hw)]
theorem scale_init_ok {ws : List Int} {q : Nat} {A : SV} (h : ∀ v ∈ ws, 0 ≤ v) (h1 : 1 ≤ ws.length) (hl : ws.length ≤ 60) (hq : 1 ≤ q) (hA : A = .own (.lst (ws.map .int)) ∨ A = .dat (.tup (ws.map .int))) :
    m_Scale_init [.own (.ins "Scale" [] []), A, .dat (.int (q : Nat))] = .ok (.dat .non) [.own (scD ws q), A, .dat (.int (q : Nat))] := by
  have e1 : (1 : Int) ≤ ws.length := by omega
  have e2 : (ws.length : Int) ≤ 60 := by omega
  have e4 : ¬ (q : Int) < 1 := by omega
  rcases hA with rfl | rfl
  · have k := nums h hl (.brw (.lst (ws.map .int))) (.own (.ins "Scale" [] [])) (.dat (.int (q : Nat)))
    simp [m_Scale_init, b_Scale_init, e1, e2, k, all_true, m_is_whole_int, e4, putNs, putVs, ne_wq, scD]
  · have k := nums h hl (.dat (.tup (ws.map .int))) (.own (.ins "Scale" [] [])) (.dat (.int (q : Nat)))
    simp [m_Scale_init, b_Scale_init, e1, e2, k, all_true, m_is_whole_int, e4, putNs, putVs, ne_wq, scD]
@[simp] theorem s_makeS {c : String} {g : FnM} {fs : Env → R (List XV)} {ρ : Env} : makeS c g fs ρ = (fs ρ).bind fun xs ρ => makeF c g xs ρ := rfl
@[simp] theorem s_makeF {c : String} {g : FnM} {xs : List XV} {ρ : Env} : makeF c g xs ρ = (match callF g (.slot ρ.length :: xs) (ρ ++ [.own (.ins c [] [])]) with
  | .ok (.dat .non) ρ1 => match ρ1.at ρ.length with
    | .own d => .ok (.own d) (ρ1.take ρ.length)
    | _ => .stuck
  | .exc c ns vs ρ1 => .exc c ns vs (ρ1.take ρ.length)
  | _ => .stuck) := rfl
end k23
end DL
namespace DL
open PySem L2
namespace k23
def rowsF (q n : Nat) (F : Nat → Nat → Int) : List D := (List.range n).map fun s => D.lst (row q (F s))
@[simp] theorem rowsF_len {q n : Nat} {F} : (rowsF q n F).length = n := by simp [rowsF]
theorem rowsF_at {q n : Nat} {F : Nat → Nat → Int} {i : Int} (h : 0 ≤ i) (h' : i < n) : atI (rowsF q n F) i = some (.lst (row q (F i.toNat))) := by
  unfold atI ixN
  rw [if_pos h, if_pos (by rw [rowsF_len]; exact h')]
  have : i.toNat < n := by omega
  simp [rowsF, this]
theorem rowsF_succ {q n : Nat} {F : Nat → Nat → Int} : rowsF q (n + 1) F = rowsF q n F ++ [.lst (row q (F n))] := by
  unfold rowsF
  rw [List.range_succ, List.map_append]; rfl
theorem row_zip {q : Nat} {f g : Nat → Int} : zipD (row q f) (row q g) = (List.range q).map fun j => D.tup [.int (f j), .int (g j)] := by
  rw [zipD_eq]
  unfold row
  rw [List.zip_map', List.map_map]; rfl
theorem row_shift {q m : Nat} {w : Int} {f : Nat → Int} (hw : 0 ≤ w) (hm : m = min w.toNat q) : List.replicate m (D.int 0) ++ (row q f).take (q - m) = row q (sh w f) := by
  refine row_ext (by simp; omega) fun j hj => ?_
  unfold sh
  by_cases h : j < m
  · rw [List.getElem?_append_left (by simpa using h), List.getElem?_replicate, if_pos h, if_neg (by omega)]
  · rw [List.getElem?_append_right (by simp; omega), List.length_replicate, List.getElem?_take, if_pos (by omega), row_get, if_pos (by omega), if_pos (by omega)]
    congr 3; omega
theorem cut_take {l : List D} {k : Nat} (h : k ≤ l.length) : cutD l none (some (k : Int)) = l.take k := by
  unfold cutD
  rw [HT.sIx_none, HT.sIx_nat, Nat.min_eq_left h]; simp
def shE : Env → R XV := op2S addD (op2S mulD (lstS (consD (constS (.int 0)) nilS)) (callS min2 (consS (getS 1) (consS (callS lenD (consS (getS 4) nilS)) nilS)))) (sliceS (getS 4) noP (someP (callS max2 (consS (constS (.int 0)) (consS (op2S subD (callS lenD (consS (getS 4) nilS)) (getS 1)) nilS)))))
theorem shE_ok {a0 a2 a3 : SV} {r : Env} {q : Nat} {w : Int} {f : Nat → Int} (hw : 0 ≤ w) (hq : q ≤ 10000) :
    shE (a0 :: .dat (.int w) :: a2 :: a3 :: .dat (.lst (row q f)) :: r) = .ok (.own (.lst (row q (sh w f)))) (a0 :: .dat (.int w) :: a2 :: a3 :: .dat (.lst (row q f)) :: r) := by
  obtain ⟨m, hm⟩ : ∃ m : Nat, m = min w.toNat q := ⟨_, rfl⟩
  have hmq : m ≤ q := by omega
  have e1 : (if (q : Int) < w then (q : Int) else w) = (m : Int) := by split <;> omega
  have e2 : (if w < (q : Int) then (q : Int) - w else 0) = ((q - m : Nat) : Int) := by split <;> omega
  have e3 : (row q f).length = q := row_len
  have e4 := row_shift (f := f) hw hm
  have e5 : cutD (row q f) none (some ((q - m : Nat) : Int)) = (row q f).take (q - m) := cut_take (by rw [row_len]; omega)
  have l1 : m ≤ 1000000 := by omega
  have l2 : m + (q - m) ≤ 1000000 := by omega
  have l3 : m + min (q - m) q ≤ 1000000 := by omega
  unfold shE
  simp [e1, e2, e5, rep_zero, l1, l2, l3, e4]
end k23
end DL
namespace DL
open PySem L2
namespace k23
def putF (n : Nat) (w : Int) (F : Nat → Nat → Int) (s j : Nat) : Int := match s with
  | 0 => F 0 j
  | s + 1 => (if s + 1 < n then F (s + 1) j else 0) + sh w (F s) j
def putB : Env → R Out := seqS (asgS 4 (op2S ixA (getS 0) (op2S subD (getS 3) (constS (.int 1)))))
    (seqS (asgS 5 shE)
    (seqS (asgS 6 (ifS (testS (op2S ltD (getS 3) (callS lenD (consS (getS 0) nilS)))) (op2S ixA (getS 0) (getS 3)) (op2S mulD (lstS (consD (constS (.int 0)) nilS)) (callS lenD (consS (getS 4) nilS)))))
    (dropS (methS appendD 2 (consD (lcS [7, 8] (rangeI zipL (consD (getS 6) (consD (getS 5) nilS))) (tupT 2 (consT (nameT 7) (consT (nameT 8) nilT))) yesT (op2S addD (getS 7) (getS 8))) nilS)))))
theorem rep_row {q : Nat} : List.replicate q (D.int 0) = row q (fun _ => 0) := by
  unfold row
  rw [List.map_const', List.length_range]
theorem zip_lc {a : Env} {q : Nat} {f g : Nat → Int} (h7 : a.length = 7) (hq : q ≤ 10000) : lcR [7, 8] (tupT 2 (consT (nameT 7) (consT (nameT 8) nilT))) yesT (op2S addD (getS 7) (getS 8)) (zipD (row q f) (row q g)) (a ++ [.un, .un])
    = .ok (.own (.lst (row q fun j => f j + g j))) (a ++ [.un, .un]) := by
  match a, h7 with
  | [a0, a1, a2, a3, a4, a5, a6], _ =>
    rw [row_zip]
    refine (lcR_all (y := fun j => D.int (f j + g j)) rfl (by simp; omega) fun j hj => ⟨_, _, [a0, a1, a2, a3, a4, a5, a6, .dat (.int (f j)), .dat (.int (g j))], rfl, rfl, ?_, rfl⟩).trans rfl
    simp
theorem putB_ok {X : SV} {q n s : Nat} {w : Int} {F : Nat → Nat → Int} {L : List D} (hX : X = .own (.lst (rowsF q n F)) ∨ X = .dat (.lst (rowsF q n F))) (hw : 0 ≤ w) (hq : q ≤ 10000) (hs : s < n) (hn : n ≤ 1000) (hL : L.length ≤ 1000) :
    ∃ ρ, putB [X, .dat (.int w), .own (.lst L), .dat (.int (1 + (s : Nat))), .un, .un, .un, .un, .un] = .ok .nx ρ ∧ forget [3, 4, 5, 6, 7, 8] ρ = [X, .dat (.int w), .own (.lst (L ++ [.lst (row q (putF n w F (s + 1)))])), .un, .un, .un, .un, .un, .un] := by
  have c1 : cont [X, .dat (.int w), .own (.lst L), .dat (.int (1 + (s : Nat))), .un, .un, .un, .un, .un] (match X with | .dat d => XV.dat d | _ => .slot 0) = some (.lst (rowsF q n F)) := by rcases hX with rfl | rfl <;> rfl
  have r1 : atI (rowsF q n F) (1 + (s : Int) - 1) = some (.lst (row q (F s))) := by rw [rowsF_at (by omega) (by omega)]; congr 4; omega
  have s1 : asgS 4 (op2S ixA (getS 0) (op2S subD (getS 3) (constS (.int 1)))) [X, .dat (.int w), .own (.lst L), .dat (.int (1 + (s : Nat))), .un, .un, .un, .un, .un] = .ok .nx [X, .dat (.int w), .own (.lst L), .dat (.int (1 + (s : Nat))), .dat (.lst (row q (F s))), .un, .un, .un, .un] := by
    rcases hX with rfl | rfl <;> simp [r1, -Int.add_sub_cancel]
  have s2 : asgS 5 shE [X, .dat (.int w), .own (.lst L), .dat (.int (1 + (s : Nat))), .dat (.lst (row q (F s))), .un, .un, .un, .un] = .ok .nx [X, .dat (.int w), .own (.lst L), .dat (.int (1 + (s : Nat))), .dat (.lst (row q (F s))), .own (.lst (row q (sh w (F s)))), .un, .un, .un] := by
    rw [s_asg, shE_ok hw hq]; rfl
  have s3 : ∃ Y, (Y = .own (.lst (row q fun j => if s + 1 < n then F (s + 1) j else 0)) ∨ Y = .dat (.lst (row q fun j => if s + 1 < n then F (s + 1) j else 0))) ∧ asgS 6 (ifS (testS (op2S ltD (getS 3) (callS lenD (consS (getS 0) nilS)))) (op2S ixA (getS 0) (getS 3)) (op2S mulD (lstS (consD (constS (.int 0)) nilS)) (callS lenD (consS (getS 4) nilS))))
      [X, .dat (.int w), .own (.lst L), .dat (.int (1 + (s : Nat))), .dat (.lst (row q (F s))), .own (.lst (row q (sh w (F s)))), .un, .un, .un] = .ok .nx [X, .dat (.int w), .own (.lst L), .dat (.int (1 + (s : Nat))), .dat (.lst (row q (F s))), .own (.lst (row q (sh w (F s)))), Y, .un, .un] := by
    by_cases h : s + 1 < n
    · refine ⟨_, .inr rfl, ?_⟩
      have h' : (1 : Int) + s < n := by omega
      have r2 : atI (rowsF q n F) (1 + (s : Int)) = some (.lst (row q (F (s + 1)))) := by rw [rowsF_at (by omega) (by omega)]; congr 4; omega
      rcases hX with rfl | rfl <;> simp [h', r2, h]
    · refine ⟨_, .inl rfl, ?_⟩
      have h' : ¬ (1 : Int) + s < n := by omega
      have l1 : q ≤ 1000000 := by omega
      rcases hX with rfl | rfl <;> simp [h', rep_zero, l1, rep_row, h]
  obtain ⟨Y, hY, s3⟩ := s3
  have hl : L.length < 1000000 := by omega
  have fin : ∃ ρ, dropS (methS appendD 2 (consD (lcS [7, 8] (rangeI zipL (consD (getS 6) (consD (getS 5) nilS))) (tupT 2 (consT (nameT 7) (consT (nameT 8) nilT))) yesT (op2S addD (getS 7) (getS 8))) nilS))
      [X, .dat (.int w), .own (.lst L), .dat (.int (1 + (s : Nat))), .dat (.lst (row q (F s))), .own (.lst (row q (sh w (F s)))), Y, .un, .un] = .ok .nx ρ ∧ forget [3, 4, 5, 6, 7, 8] ρ = [X, .dat (.int w), .own (.lst (L ++ [.lst (row q (putF n w F (s + 1)))])), .un, .un, .un, .un, .un, .un] := by
    have k := zip_lc (a := [X, .dat (.int w), .own (.lst L), .dat (.int (1 + (s : Nat))), .dat (.lst (row q (F s))), .dat (.lst (row q (sh w (F s)))), .dat (.lst (row q fun j => if s + 1 < n then F (s + 1) j else 0))]) (f := fun j => if s + 1 < n then F (s + 1) j else 0) (g := sh w (F s)) rfl hq
    simp only [List.cons_append, List.nil_append] at k
    refine ⟨[X, .dat (.int w), .own (.lst (L ++ [.lst (row q (putF n w F (s + 1)))])), .dat (.int (1 + (s : Nat))), .dat (.lst (row q (F s))), .dat (.lst (row q (sh w (F s)))), .dat (.lst (row q fun j => if s + 1 < n then F (s + 1) j else 0)), .un, .un], ?_, rfl⟩
    rcases hY with rfl | rfl <;> (simp [k, hl]; rfl)
  obtain ⟨ρ, f1, f2⟩ := fin
  refine ⟨ρ, ?_, f2⟩
  unfold putB
  rw [seq_nx s1, seq_nx s2, seq_nx s3, f1]
end k23
end DL
namespace DL
open PySem L2
namespace k23
theorem put_by_size_ok {q n : Nat} {w : Int} {F : Nat → Nat → Int} (hw : 0 ≤ w) (hq : q ≤ 10000) (h1 : 1 ≤ n) (hn : n ≤ 900) :
    m_put_by_size [.own (.lst (rowsF q n F)), .dat (.int w)] = .ok (.own (.lst (rowsF q (n + 1) (putF n w F)))) [.own (.lst (rowsF q n F)), .dat (.int w)] := by
  have r0 : atI (rowsF q n F) 0 = some (.lst (row q (F 0))) := rowsF_at (by decide) (by omega)
  have s0 : asgS 2 (lstS (consD (op2S ixA (getS 0) (constS (.int 0))) nilS)) [.own (.lst (rowsF q n F)), .dat (.int w), .un, .un, .un, .un, .un, .un, .un] = .ok .nx [.own (.lst (rowsF q n F)), .dat (.int w), .own (.lst (rowsF q 1 (putF n w F))), .un, .un, .un, .un, .un, .un] := by
    have e : rowsF q 1 (putF n w F) = [.lst (row q (F 0))] := rfl
    simp [r0, e]
  have key : forL [3, 4, 5, 6, 7, 8] (nameT 3) putB (rangeD 1 n) [.own (.lst (rowsF q n F)), .dat (.int w), .own (.lst (rowsF q 1 (putF n w F))), .un, .un, .un, .un, .un, .un] = .ok .nx [.own (.lst (rowsF q n F)), .dat (.int w), .own (.lst (rowsF q (n + 1) (putF n w F))), .un, .un, .un, .un, .un, .un] := by
    have := forL_st (fg := [3, 4, 5, 6, 7, 8]) (ft := nameT 3) (fb := putB) (rangeD 1 n) (fun i => [.own (.lst (rowsF q n F)), .dat (.int w), .own (.lst (rowsF q (i + 1) (putF n w F))), .un, .un, .un, .un, .un, .un]) [.own (.lst (rowsF q n F)), .dat (.int w), .own (.lst (rowsF q 1 (putF n w F))), .un, .un, .un, .un, .un, .un] rfl ?_
    · rw [rangeD_len] at this; exact this
    · intro i hi
      have e : (rangeD 1 n)[i] = D.int (1 + (i : Nat)) := by simp [rangeD_eq]
      rw [rangeD_len] at hi
      rw [e]
      obtain ⟨ρ, b1, b2⟩ := putB_ok (X := .own (.lst (rowsF q n F))) (L := rowsF q (i + 1) (putF n w F)) (.inl rfl) hw hq hi (by omega) (by simp; omega)
      exact ⟨_, ρ, rfl, b1, by rw [b2, rowsF_succ (n := i + 1)]⟩
  have g1 : Rg ((n : Int) + 1) := Rg.of (by omega) (by omega)
  have g2 : Rg 1 := Rg.of (by decide) (by decide)
  have e3 : ((n : Int) + 1 - 1).toNat = n := by omega
  have s1 : forS [3, 4, 5, 6, 7, 8] (rangeI rg2 (consS (constS (.int 1)) (consS (op2S addD (callS lenD (consS (getS 0) nilS)) (constS (.int 1))) nilS))) (nameT 3) putB [.own (.lst (rowsF q n F)), .dat (.int w), .own (.lst (rowsF q 1 (putF n w F))), .un, .un, .un, .un, .un, .un] = .ok .nx [.own (.lst (rowsF q n F)), .dat (.int w), .own (.lst (rowsF q (n + 1) (putF n w F))), .un, .un, .un, .un, .un, .un] := by
    simp [rg2_ok g2 g1, e3, key]
  show endF 2 _ (seqS _ (seqS (forS [3, 4, 5, 6, 7, 8] (rangeI rg2 (consS (constS (.int 1)) (consS (op2S addD (callS lenD (consS (getS 0) nilS)) (constS (.int 1))) nilS))) (nameT 3) putB) (retS (getS 2))) [.own (.lst (rowsF q n F)), .dat (.int w), .un, .un, .un, .un, .un, .un, .un]) = _
  rw [seq_nx s0, seq_nx s1]; rfl
def outB : Env → R Out := seqS (asgS 4 (op2S ixA (getS 2) (op2S subD (getS 3) (constS (.int 1)))))
    (seqS (asgS 5 shE)
    (dropS (methS appendD 2 (consD (lcS [6, 7] (rangeI zipL (consD (op2S ixA (getS 0) (getS 3)) (consD (getS 5) nilS))) (tupT 2 (consT (nameT 6) (consT (nameT 7) nilT))) yesT (op2S subD (getS 6) (getS 7))) nilS))))
theorem zip_lc2 {a : Env} {q : Nat} {f g : Nat → Int} (h7 : a.length = 6) (hq : q ≤ 10000) : lcR [6, 7] (tupT 2 (consT (nameT 6) (consT (nameT 7) nilT))) yesT (op2S subD (getS 6) (getS 7)) (zipD (row q f) (row q g)) (a ++ [.un, .un])
    = .ok (.own (.lst (row q fun j => f j - g j))) (a ++ [.un, .un]) := by
  match a, h7 with
  | [a0, a1, a2, a3, a4, a5], _ =>
    rw [row_zip]
    refine (lcR_all (y := fun j => D.int (f j - g j)) rfl (by simp; omega) fun j hj => ⟨_, _, [a0, a1, a2, a3, a4, a5, .dat (.int (f j)), .dat (.int (g j))], rfl, rfl, ?_, rfl⟩).trans rfl
    simp
theorem outB_ok {q n s : Nat} {w : Int} {F G : Nat → Nat → Int} (hF : ∀ s j, F (s + 1) j = G (s + 1) j + sh w (G s) j) (hw : 0 ≤ w) (hq : q ≤ 10000) (hs : s + 1 < n) (hn : n ≤ 900) :
    ∃ ρ, outB [.own (.lst (rowsF q n F)), .dat (.int w), .own (.lst (rowsF q (s + 1) G)), .dat (.int (1 + (s : Nat))), .un, .un, .un, .un] = .ok .nx ρ ∧ forget [3, 4, 5, 6, 7] ρ = [.own (.lst (rowsF q n F)), .dat (.int w), .own (.lst (rowsF q (s + 1 + 1) G)), .un, .un, .un, .un, .un] := by
  have r1 : atI (rowsF q (s + 1) G) (1 + (s : Int) - 1) = some (.lst (row q (G s))) := by rw [rowsF_at (by omega) (by omega)]; congr 4; omega
  have r2 : atI (rowsF q n F) (1 + (s : Int)) = some (.lst (row q (F (s + 1)))) := by rw [rowsF_at (by omega) (by omega)]; congr 4; omega
  have s1 : asgS 4 (op2S ixA (getS 2) (op2S subD (getS 3) (constS (.int 1)))) [.own (.lst (rowsF q n F)), .dat (.int w), .own (.lst (rowsF q (s + 1) G)), .dat (.int (1 + (s : Nat))), .un, .un, .un, .un] = .ok .nx [.own (.lst (rowsF q n F)), .dat (.int w), .own (.lst (rowsF q (s + 1) G)), .dat (.int (1 + (s : Nat))), .dat (.lst (row q (G s))), .un, .un, .un] := by
    simp [r1]
  have s2 : asgS 5 shE [.own (.lst (rowsF q n F)), .dat (.int w), .own (.lst (rowsF q (s + 1) G)), .dat (.int (1 + (s : Nat))), .dat (.lst (row q (G s))), .un, .un, .un] = .ok .nx [.own (.lst (rowsF q n F)), .dat (.int w), .own (.lst (rowsF q (s + 1) G)), .dat (.int (1 + (s : Nat))), .dat (.lst (row q (G s))), .own (.lst (row q (sh w (G s)))), .un, .un] := by
    rw [s_asg, shE_ok hw hq]; rfl
  have k := zip_lc2 (a := [.own (.lst (rowsF q n F)), .dat (.int w), .own (.lst (rowsF q (s + 1) G)), .dat (.int (1 + (s : Nat))), .dat (.lst (row q (G s))), .dat (.lst (row q (sh w (G s))))]) (f := F (s + 1)) (g := sh w (G s)) rfl hq
  simp only [List.cons_append, List.nil_append] at k
  have e : (row q fun j => F (s + 1) j - sh w (G s) j) = row q (G (s + 1)) := row_congr fun j _ => by rw [hF]; omega
  rw [e] at k
  refine ⟨[.own (.lst (rowsF q n F)), .dat (.int w), .own (.lst (rowsF q (s + 1 + 1) G)), .dat (.int (1 + (s : Nat))), .dat (.lst (row q (G s))), .dat (.lst (row q (sh w (G s)))), .un, .un], ?_, rfl⟩
  have hl : s + 1 < 1000000 := by omega
  unfold outB
  rw [seq_nx s1, seq_nx s2, rowsF_succ (n := s + 1)]
  simp [k, hl, r2]
theorem out_by_size_ok {q n : Nat} {w : Int} {F G : Nat → Nat → Int} (hF0 : ∀ j, F 0 j = G 0 j) (hF : ∀ s j, F (s + 1) j = G (s + 1) j + sh w (G s) j) (hw : 0 ≤ w) (hq : q ≤ 10000) (h1 : 2 ≤ n) (hn : n ≤ 900) :
    m_out_by_size [.own (.lst (rowsF q n F)), .dat (.int w)] = .ok (.own (.lst (rowsF q (n - 1) G))) [.own (.lst (rowsF q n F)), .dat (.int w)] := by
  have r0 : atI (rowsF q n F) 0 = some (.lst (row q (F 0))) := rowsF_at (by decide) (by omega)
  have s0 : asgS 2 (lstS (consD (op2S ixA (getS 0) (constS (.int 0))) nilS)) [.own (.lst (rowsF q n F)), .dat (.int w), .un, .un, .un, .un, .un, .un] = .ok .nx [.own (.lst (rowsF q n F)), .dat (.int w), .own (.lst (rowsF q 1 G)), .un, .un, .un, .un, .un] := by
    have e : rowsF q 1 G = [.lst (row q (F 0))] := by
      show [D.lst (row q (G 0))] = _
      rw [row_congr fun j _ => hF0 j]
    simp [r0, e]
  have key : forL [3, 4, 5, 6, 7] (nameT 3) outB (rangeD 1 (n - 2)) [.own (.lst (rowsF q n F)), .dat (.int w), .own (.lst (rowsF q 1 G)), .un, .un, .un, .un, .un] = .ok .nx [.own (.lst (rowsF q n F)), .dat (.int w), .own (.lst (rowsF q (n - 2 + 1) G)), .un, .un, .un, .un, .un] := by
    have := forL_st (fg := [3, 4, 5, 6, 7]) (ft := nameT 3) (fb := outB) (rangeD 1 (n - 2)) (fun i => [.own (.lst (rowsF q n F)), .dat (.int w), .own (.lst (rowsF q (i + 1) G)), .un, .un, .un, .un, .un]) [.own (.lst (rowsF q n F)), .dat (.int w), .own (.lst (rowsF q 1 G)), .un, .un, .un, .un, .un] rfl ?_
    · rw [rangeD_len] at this; exact this
    · intro i hi
      have e : (rangeD 1 (n - 2))[i] = D.int (1 + (i : Nat)) := by simp [rangeD_eq]
      rw [rangeD_len] at hi
      rw [e]
      obtain ⟨ρ, b1, b2⟩ := outB_ok (q := q) (n := n) (s := i) hF hw hq (by omega) hn
      exact ⟨_, ρ, rfl, b1, b2⟩
  have g1 : Rg ((n : Int) - 1) := Rg.of (by omega) (by omega)
  have g2 : Rg 1 := Rg.of (by decide) (by decide)
  have e3 : ((n : Int) - 1 - 1).toNat = n - 2 := by omega
  have s1 : forS [3, 4, 5, 6, 7] (rangeI rg2 (consS (constS (.int 1)) (consS (op2S subD (callS lenD (consS (getS 0) nilS)) (constS (.int 1))) nilS))) (nameT 3) outB [.own (.lst (rowsF q n F)), .dat (.int w), .own (.lst (rowsF q 1 G)), .un, .un, .un, .un, .un] = .ok .nx [.own (.lst (rowsF q n F)), .dat (.int w), .own (.lst (rowsF q (n - 1) G)), .un, .un, .un, .un, .un] := by
    rw [show n - 2 + 1 = n - 1 by omega] at key
    simp only [s_forS, s_rangeI, s_consS, s_const, s_opnd, s_bind, s_op2, s_call, s_getS, s_at0, s_nilS, s_appN, s_conts0, s_contsC, s_contS, s_contD, s_lenL, rowsF_len, s_app2, s_sub, rg2_ok g2 g1, e3, key]
  show endF 2 _ (seqS _ (seqS (forS [3, 4, 5, 6, 7] (rangeI rg2 (consS (constS (.int 1)) (consS (op2S subD (callS lenD (consS (getS 0) nilS)) (constS (.int 1))) nilS))) (nameT 3) outB) (retS (getS 2))) [.own (.lst (rowsF q n F)), .dat (.int w), .un, .un, .un, .un, .un, .un]) = _
  rw [seq_nx s0, seq_nx s1]; rfl
end k23
end DL
namespace DL
open PySem L2
namespace k23
def d2 (s : Nat) (j : Int) : Nat → Int → Int := fun s' t => if s' = s ∧ t = j then 1 else 0
def c2 (vs : List Int) (s j : Nat) : Int := M vs (d2 s j)
theorem c2_shift {vs : List Int} (h : ∀ v ∈ vs, 0 ≤ v) {w : Int} (hw : 0 ≤ w) (s j : Nat) : M vs (fun s' t => d2 (s + 1) j (s' + 1) (t + w)) = sh w (c2 vs s) j := by
  unfold sh
  by_cases z : w ≤ (j : Int)
  · rw [if_pos z]
    refine M_congr h fun s' t _ _ => ?_
    unfold d2
    by_cases e : s' + 1 = s + 1 ∧ t + w = j
    · rw [if_pos e, if_pos (by omega)]
    · rw [if_neg e, if_neg (by omega)]
  · rw [if_neg z, ← M_zero vs]
    refine M_congr h fun s' t _ ht => ?_
    unfold d2
    rw [if_neg (by omega)]
theorem c2_shift0 {vs : List Int} {w : Int} (j : Nat) : M vs (fun s' t => d2 0 j (s' + 1) (t + w)) = 0 := by
  have : (fun (s' : Nat) (t : Int) => d2 0 j (s' + 1) (t + w)) = fun _ _ => 0 := by
    funext s' t
    unfold d2
    rw [if_neg (by omega)]
  rw [this, M_zero]
theorem c2_out {vs : List Int} (h : ∀ v ∈ vs, 0 ≤ v) {s j : Nat} (hs : vs.length < s) : c2 vs s j = 0 := by
  unfold c2
  rw [← M_zero vs]
  refine M_congr h fun s' t hs' _ => ?_
  unfold d2
  rw [if_neg (by omega)]
theorem put_c2 {vs : List Int} (h : ∀ v ∈ vs, 0 ≤ v) {w : Int} (hw : 0 ≤ w) (s j : Nat) : putF (vs.length + 1) w (c2 vs) s j = c2 (vs ++ [w]) s j := by
  have e : c2 (vs ++ [w]) s j = M vs (d2 s j) + M vs (fun s' t => d2 s j (s' + 1) (t + w)) := M_snoc vs w _
  rw [e]
  cases s with
  | zero => rw [c2_shift0]; show c2 vs 0 j = c2 vs 0 j + 0; omega
  | succ s =>
    rw [c2_shift h hw]
    show (if s + 1 < vs.length + 1 then c2 vs (s + 1) j else 0) + _ = c2 vs (s + 1) j + _
    by_cases z : s + 1 < vs.length + 1
    · rw [if_pos z]
    · rw [if_neg z, c2_out h (by omega)]
theorem out_c2 {ws : List Int} (h : ∀ v ∈ ws, 0 ≤ v) {w : Int} (hw : w ∈ ws) : (∀ j, c2 ws 0 j = c2 (ws.erase w) 0 j) ∧ ∀ s j, c2 ws (s + 1) j = c2 (ws.erase w) (s + 1) j + sh w (c2 (ws.erase w) s) j := by
  have he : ∀ v ∈ ws.erase w, 0 ≤ v := fun v hv => h v (List.mem_of_mem_erase hv)
  refine ⟨fun j => ?_, fun s j => ?_⟩
  · show M ws _ = _
    rw [M_erase hw, c2_shift0]; show c2 _ 0 j + 0 = _; omega
  · show M ws _ = _
    rw [M_erase hw, c2_shift he (h w hw)]; rfl
theorem rowsF_congr {q n : Nat} {F G : Nat → Nat → Int} (h : ∀ s j, F s j = G s j) : rowsF q n F = rowsF q n G := by
  have : F = G := funext fun s => funext fun j => h s j
  rw [this]
/-- 1 if the sum t is one of the last w below q -/
def wnd (q : Nat) (w t : Int) : Int := if (q : Int) - w ≤ t ∧ 0 ≤ t ∧ t < q then 1 else 0
theorem wnd_S (q : Nat) (w t : Int) (c : Int) : S q (fun j => if (q : Int) - w ≤ (j : Int) then (if t = (j : Int) then c else 0) else 0) = c * wnd q w t := by
  have e : (fun j : Nat => if (q : Int) - w ≤ (j : Int) then (if t = (j : Int) then c else 0) else 0) = fun j : Nat => if t = (j : Int) then (if (q : Int) - w ≤ t then c else 0) else 0 := by
    funext j
    by_cases h : t = (j : Int)
    · rw [if_pos h, if_pos h, h]
    · rw [if_neg h, if_neg h]; split <;> rfl
  rw [e, S_one]
  unfold wnd
  by_cases h1 : 0 ≤ t ∧ t < (q : Int)
  · rw [if_pos h1]
    by_cases h2 : (q : Int) - w ≤ t
    · rw [if_pos h2, if_pos ⟨h2, h1.1, h1.2⟩]; omega
    · rw [if_neg h2, if_neg (fun z => h2 z.1)]; omega
  · rw [if_neg h1, if_neg (fun z => h1 z.2)]; omega
theorem win_cnt (q : Nat) (w : Int) (vs : List Int) : win q w (cnt vs) = M vs (fun _ t => wnd q w t) := by
  have e : (fun j : Nat => if (q : Int) - w ≤ (j : Int) then cnt vs j else 0) = fun j : Nat => M vs (fun s t => if (q : Int) - w ≤ (j : Int) then dl j s t else 0) := by
    funext j
    by_cases h : (q : Int) - w ≤ (j : Int)
    · simp only [if_pos h]; rfl
    · simp only [if_neg h]; exact (M_zero vs).symm
  unfold win
  rw [e, ← M_S]
  congr 1
  funext s t
  have := wnd_S q w t 1
  rw [Int.one_mul] at this
  exact this
theorem win_c2 (q : Nat) (w : Int) (vs : List Int) (s : Nat) : win q w (c2 vs s) = M vs (fun s' t => if s' = s then wnd q w t else 0) := by
  have e : (fun j : Nat => if (q : Int) - w ≤ (j : Int) then c2 vs s j else 0) = fun j : Nat => M vs (fun s' t => if (q : Int) - w ≤ (j : Int) then d2 s j s' t else 0) := by
    funext j
    by_cases h : (q : Int) - w ≤ (j : Int)
    · simp only [if_pos h]; rfl
    · simp only [if_neg h]; exact (M_zero vs).symm
  unfold win
  rw [e, ← M_S]
  congr 1
  funext s' t
  by_cases h : s' = s
  · have := wnd_S q w t 1
    rw [Int.one_mul] at this
    rw [if_pos h, ← this]
    congr 1
    funext j
    split
    · unfold d2
      by_cases z : t = (j : Int)
      · rw [if_pos ⟨h, z⟩, if_pos z]
      · rw [if_neg (fun y => z y.2), if_neg z]
    · rfl
  · rw [if_neg h]
    refine (S_congr (g := fun _ => 0) fun j _ => ?_).trans (S_zero q)
    split
    · exact if_neg fun y => h y.1
    · rfl
/-- the orders in which one of weight w is the pivot -/
def tot (ws : List Int) (q : Nat) (w : Int) : Int := S ws.length fun s => win q w (c2 (ws.erase w) s) * (fact s : Int) * (fact (ws.length - s - 1) : Int)
theorem tot_M {ws : List Int} (h : ∀ v ∈ ws, 0 ≤ v) {q : Nat} {w : Int} (hw : w ∈ ws) : tot ws q w = M (ws.erase w) (fun s t => wnd q w t * ((fact s : Int) * (fact (ws.length - 1 - s) : Int))) := by
  have hl : (ws.erase w).length = ws.length - 1 := List.length_erase_of_mem hw
  have hp : 0 < ws.length := List.length_pos_of_mem hw
  unfold tot
  have e : (fun s : Nat => win q w (c2 (ws.erase w) s) * (fact s : Int) * (fact (ws.length - s - 1) : Int)) = fun s : Nat => M (ws.erase w) (fun s' t => ((fact s : Int) * (fact (ws.length - s - 1) : Int)) * (if s' = s then wnd q w t else 0)) := by
    funext s
    rw [M_mul, win_c2, Int.mul_assoc, Int.mul_comm]
  rw [e, ← M_S]
  refine M_congr (fun v hv => h v (List.mem_of_mem_erase hv)) fun s' t hs' _ => ?_
  have e2 : (fun i : Nat => ((fact i : Int) * (fact (ws.length - i - 1) : Int)) * (if s' = i then wnd q w t else 0)) = fun i : Nat => if (s' : Int) = (i : Int) then wnd q w t * ((fact s' : Int) * (fact (ws.length - 1 - s') : Int)) else 0 := by
    funext i
    by_cases z : s' = i
    · subst z
      rw [if_pos rfl, if_pos rfl, show ws.length - s' - 1 = ws.length - 1 - s' by omega, Int.mul_comm]
    · rw [if_neg z, if_neg (by omega), Int.mul_zero]
  show S ws.length _ = _
  rw [e2, S_one, if_pos (by omega)]
theorem win_bound {q : Nat} {w : Int} {vs : List Int} {s : Nat} : 0 ≤ win q w (c2 vs s) ∧ win q w (c2 vs s) ≤ 2 ^ vs.length := by
  rw [win_c2]
  have := M_bound (ws := vs) (B := 1) (g := fun s' t => if s' = s then wnd q w t else 0) fun s' t => by
    unfold wnd
    split
    · split <;> omega
    · omega
  rw [Int.one_mul] at this
  exact this
end k23
end DL
namespace DL
open PySem L2
namespace k23
theorem facN (n : Nat) : Builtin.Math.factorialNat n = fact n := by
  induction n with
  | zero => rfl
  | succ n ih =>
    unfold Builtin.Math.factorialNat at ih ⊢
    rw [List.range_succ, List.foldl_append, ih]; rfl
theorem fac_ok {n : Nat} (h : n ≤ 1000) : facL [.int (n : Nat)] = some (.dat (.int (fact n : Nat))) := by
  show (if 0 ≤ ((n : Nat) : Int) ∧ ((n : Nat) : Int).natAbs ≤ 20000 then some (xint ((Builtin.Math.factorialNat ((n : Nat) : Int).toNat : Nat) : Int)) else none) = _
  rw [if_pos ⟨by omega, by omega⟩, Int.toNat_natCast, facN]; rfl
theorem rowsF_enum {q n : Nat} {F : Nat → Nat → Int} : enumD 0 (rowsF q n F) = (List.range n).map fun s => D.tup [.int (s : Nat), .lst (row q (F s))] := by
  rw [enumD_eq, rowsF_len]
  refine List.map_congr_left fun j hj => ?_
  have := List.mem_range.mp hj
  simp [rowsF, this]
/-! one weight's pivots -/
def pivI : Env → R Out := asgS 5 (op2S addD (getS 5) (op2S mulD (op2S mulD (fnS m_swings_of (consS (getS 7) (consS (getS 3) nilS))) (callS facL (consS (getS 6) nilS))) (callS facL (consS (op2S subD (op2S subD (getS 1) (getS 6)) (constS (.int 1))) nilS))))
theorem pivI_ok {a0 a2 a4 : SV} {q n i : Nat} {w T : Int} {f : Nat → Int} (hw : 0 ≤ w) (hi : i < n) (hn : n ≤ 60) (hb : 0 ≤ win q w f ∧ win q w f ≤ 2 ^ n) :
    pivI [a0, .dat (.int (n : Nat)), a2, .dat (.int w), a4, .dat (.int T), .dat (.int (i : Nat)), .dat (.lst (row q f))] = .ok .nx [a0, .dat (.int (n : Nat)), a2, .dat (.int w), a4, .dat (.int (T + win q w f * (fact i : Int) * (fact (n - i - 1) : Int))), .dat (.int (i : Nat)), .dat (.lst (row q f))] := by
  have e1 := swings_of_ok (q := q) (g := f) hw
  have e2 := fac_ok (n := i) (by omega)
  have e3 := fac_ok (n := n - i - 1) (by omega)
  have e4 : (n : Int) - (i : Int) - 1 = ((n - i - 1 : Nat) : Int) := by omega
  have p2 : (0 : Int) < 2 ^ n := Int.pow_pos (by decide)
  have f1 : Fit (win q w f) := fit_pow (n := n + 1) hb.1 (by rw [Int.pow_succ]; omega) (by omega)
  have f2 := fit_fact (n := i) (by omega)
  have f3 := fit_fact (n := n - i - 1) (by omega)
  have f4 : Fit (win q w f * (fact i : Int)) := by
    refine fit_pow (n := (n + 1) + (7 * i + 1)) (Int.mul_nonneg hb.1 (by omega)) ?_ (by omega)
    rw [Int.pow_add]
    have h1 : (fact i : Int) < 2 ^ (7 * i + 1) := by exact_mod_cast fact_lt (n := i) (by omega)
    have h2 : win q w f < 2 ^ (n + 1) := by rw [Int.pow_succ]; omega
    have h3 : win q w f * (fact i : Int) ≤ win q w f * 2 ^ (7 * i + 1) := Int.mul_le_mul_of_nonneg_left (Int.le_of_lt h1) hb.1
    have h4 : win q w f * 2 ^ (7 * i + 1) < 2 ^ (n + 1) * 2 ^ (7 * i + 1) := Int.mul_lt_mul_of_pos_right h2 (Int.pow_pos (by decide))
    omega
  unfold pivI
  simp [-s_mulI, e1, e2, e4, e3, mulF f1 f2, mulF f4 f3]
def pivF : Env → R Out := forS [6, 7] (rangeI enumL (consD (fnS m_out_by_size (consS (getS 2) (consS (getS 3) nilS))) nilS)) (tupT 2 (consT (nameT 6) (consT (nameT 7) nilT))) pivI
theorem pivF_ok {a0 a4 : SV} {ws : List Int} {q : Nat} {w : Int} (h : ∀ v ∈ ws, 0 ≤ v) (hw : w ∈ ws) (hq : q ≤ 10000) (hn : ws.length ≤ 60) :
    pivF [a0, .dat (.int (ws.length : Nat)), .own (.lst (rowsF q (ws.length + 1) (c2 ws))), .dat (.int w), a4, .dat (.int 0), .un, .un] = .ok .nx [a0, .dat (.int (ws.length : Nat)), .own (.lst (rowsF q (ws.length + 1) (c2 ws))), .dat (.int w), a4, .dat (.int (tot ws q w)), .un, .un] := by
  have hp : 0 < ws.length := List.length_pos_of_mem hw
  have e1 := out_by_size_ok (q := q) (n := ws.length + 1) (out_c2 h hw).1 (out_c2 h hw).2 (h w hw) hq (by omega) (by omega)
  rw [Nat.add_sub_cancel] at e1
  have key : forL [6, 7] (tupT 2 (consT (nameT 6) (consT (nameT 7) nilT))) pivI (enumD 0 (rowsF q ws.length (c2 (ws.erase w)))) [a0, .dat (.int (ws.length : Nat)), .own (.lst (rowsF q (ws.length + 1) (c2 ws))), .dat (.int w), a4, .dat (.int 0), .un, .un]
      = .ok .nx [a0, .dat (.int (ws.length : Nat)), .own (.lst (rowsF q (ws.length + 1) (c2 ws))), .dat (.int w), a4, .dat (.int (tot ws q w)), .un, .un] := by
    have := forL_st (fg := [6, 7]) (ft := tupT 2 (consT (nameT 6) (consT (nameT 7) nilT))) (fb := pivI) (enumD 0 (rowsF q ws.length (c2 (ws.erase w))))
      (fun i => [a0, .dat (.int (ws.length : Nat)), .own (.lst (rowsF q (ws.length + 1) (c2 ws))), .dat (.int w), a4, .dat (.int (S i fun s => win q w (c2 (ws.erase w) s) * (fact s : Int) * (fact (ws.length - s - 1) : Int))), .un, .un])
      [a0, .dat (.int (ws.length : Nat)), .own (.lst (rowsF q (ws.length + 1) (c2 ws))), .dat (.int w), a4, .dat (.int 0), .un, .un] rfl ?_
    · rw [enumD_len, rowsF_len] at this; exact this
    · intro i hi
      rw [enumD_len, rowsF_len] at hi
      have e : (enumD 0 (rowsF q ws.length (c2 (ws.erase w))))[i]'(by rw [enumD_len, rowsF_len]; exact hi) = D.tup [.int (i : Nat), .lst (row q (c2 (ws.erase w) i))] := by simp [rowsF_enum]
      rw [e]
      have b := win_bound (q := q) (w := w) (vs := ws.erase w) (s := i)
      have hl : (ws.erase w).length = ws.length - 1 := List.length_erase_of_mem hw
      have b2 : (2 : Int) ^ (ws.erase w).length ≤ 2 ^ ws.length := by
        rw [hl]
        have : ws.length = (ws.length - 1) + 1 := by omega
        rw [this, Nat.add_sub_cancel, Int.pow_succ]
        have : (0 : Int) < 2 ^ (ws.length - 1) := Int.pow_pos (by decide)
        omega
      exact ⟨_, _, rfl, pivI_ok (h w hw) hi hn ⟨b.1, by omega⟩, rfl⟩
  unfold pivF
  simp [e1, key]
end k23
end DL
namespace DL
open PySem L2
namespace k23
theorem hasK_E {t : Int} {l : Ents} : hasK (.inl t) (l.map fun p => (.inl p.1 : Key)) = decide (t ∈ l.map Prod.fst) := by
  by_cases h : t ∈ l.map Prod.fst
  · rw [decide_eq_true h, hasK_mem]; simpa using h
  · rw [decide_eq_false h]
    refine Bool.eq_false_iff.mpr fun z => h ?_
    have := hasK_mem.mp z
    simpa using this
theorem new_E {t c : Int} {l : Ents} (h : t ∉ l.map Prod.fst) : putKs (.inl t) (l.map fun p => .inl p.1) = (l ++ [(t, c)]).map (fun p => .inl p.1) ∧ putDs (.inl t) (.int c) (l.map fun p => .inl p.1) (l.map fun p => D.int p.2) = (l ++ [(t, c)]).map fun p => D.int p.2 := by
  unfold putKs putDs
  rw [hasK_E, decide_eq_false h]
  simp
def pivB : Env → R Out := iteS (testS (dinS true (getS 3) (getS 4))) (seqS (asgS 5 (constS (.int 0))) (seqS pivF (itemS 4 (getS 5) (getS 3)))) nextS
theorem pivB_ok {a0 V5 : SV} {ws : List Int} {q : Nat} {w : Int} {K : Ents} (h : ∀ v ∈ ws, 0 ≤ v) (hw : w ∈ ws) (hq : q ≤ 10000) (hn : ws.length ≤ 60) (hK : K.length ≤ 100) :
    ∃ V, pivB [a0, .dat (.int (ws.length : Nat)), .own (.lst (rowsF q (ws.length + 1) (c2 ws))), .dat (.int w), .own (dctE K), V5, .un, .un]
      = .ok .nx [a0, .dat (.int (ws.length : Nat)), .own (.lst (rowsF q (ws.length + 1) (c2 ws))), .dat (.int w), .own (dctE (if w ∈ K.map Prod.fst then K else K ++ [(w, tot ws q w)])), V, .un, .un] := by
  have t0 : testS (dinS true (getS 3) (getS 4)) [a0, .dat (.int (ws.length : Nat)), .own (.lst (rowsF q (ws.length + 1) (c2 ws))), .dat (.int w), .own (dctE K), V5, .un, .un]
      = .ok (!decide (w ∈ K.map Prod.fst)) [a0, .dat (.int (ws.length : Nat)), .own (.lst (rowsF q (ws.length + 1) (c2 ws))), .dat (.int w), .own (dctE K), V5, .un, .un] := by
    show testS (fun ρ => R.ok (.dat (.bl (xor true (hasK (.inl w) (K.map fun p => (.inl p.1 : Key)))))) ρ) _ = _
    rw [hasK_E]
    simp
  by_cases z : w ∈ K.map Prod.fst
  · rw [decide_eq_true z] at t0
    refine ⟨V5, ?_⟩
    unfold pivB
    rw [ite_F t0, if_pos z]; rfl
  · rw [decide_eq_false z] at t0
    refine ⟨.dat (.int (tot ws q w)), ?_⟩
    unfold pivB
    rw [ite_T t0, if_neg z, seq_nx (p := asgS 5 (constS (.int 0))) (ρ' := [a0, .dat (.int (ws.length : Nat)), .own (.lst (rowsF q (ws.length + 1) (c2 ws))), .dat (.int w), .own (dctE K), .dat (.int 0), .un, .un]) rfl, seq_nx (pivF_ok h hw hq hn)]
    have e : itemS 4 (getS 5) (getS 3) [a0, .dat (.int (ws.length : Nat)), .own (.lst (rowsF q (ws.length + 1) (c2 ws))), .dat (.int w), .own (dctE K), .dat (.int (tot ws q w)), .un, .un]
        = if (K.map fun p => (.inl p.1 : Key)).length < LIM then .ok .nx [a0, .dat (.int (ws.length : Nat)), .own (.lst (rowsF q (ws.length + 1) (c2 ws))), .dat (.int w), .own (.dct (putKs (.inl w) (K.map fun p => .inl p.1)) (putDs (.inl w) (.int (tot ws q w)) (K.map fun p => .inl p.1) (K.map fun p => D.int p.2))), .dat (.int (tot ws q w)), .un, .un] else .stuck := rfl
    rw [e, if_pos (by rw [List.length_map]; show _ < 1000000; omega)]
    obtain ⟨p1, p2⟩ := new_E (c := tot ws q w) z
    rw [p1, p2]; rfl
theorem piv_for {a0 V3 V5 : SV} {ws : List Int} {q : Nat} (h : ∀ v ∈ ws, 0 ≤ v) (hq : q ≤ 10000) (hn : ws.length ≤ 60) (h3 : V3 = .un ∨ ∃ d, V3 = .dat d) :
    ∃ K V3' V5', NdE K ∧ (∀ p ∈ K, p.2 = tot ws q p.1) ∧ (∀ w ∈ ws, w ∈ K.map Prod.fst) ∧ (V3' = .un ∨ ∃ d, V3' = .dat d) ∧ forL [] (nameT 3) pivB (ws.map D.int) [a0, .dat (.int (ws.length : Nat)), .own (.lst (rowsF q (ws.length + 1) (c2 ws))), V3, .own (dctE []), V5, .un, .un]
      = .ok .nx [a0, .dat (.int (ws.length : Nat)), .own (.lst (rowsF q (ws.length + 1) (c2 ws))), V3', .own (dctE K), V5', .un, .un] := by
  have step : ∀ d ds ρ, (∃ dn td K V3 V5, dn ++ td = ws ∧ (d :: ds) = td.map D.int ∧ NdE K ∧ K.length ≤ dn.length ∧ (∀ p ∈ K, p.2 = tot ws q p.1) ∧ (∀ w ∈ dn, w ∈ K.map Prod.fst) ∧ (V3 = .un ∨ ∃ d, V3 = .dat d) ∧ ρ = [a0, .dat (.int (ws.length : Nat)), .own (.lst (rowsF q (ws.length + 1) (c2 ws))), V3, .own (dctE K), V5, .un, .un]) →
      ∃ ρ1 ρ2, nameT 3 d (forget [] ρ) = some ρ1 ∧ pivB ρ1 = .ok .nx ρ2 ∧ ∃ dn td K V3 V5, dn ++ td = ws ∧ ds = td.map D.int ∧ NdE K ∧ K.length ≤ dn.length ∧ (∀ p ∈ K, p.2 = tot ws q p.1) ∧ (∀ w ∈ dn, w ∈ K.map Prod.fst) ∧ (V3 = .un ∨ ∃ d, V3 = .dat d) ∧ ρ2 = [a0, .dat (.int (ws.length : Nat)), .own (.lst (rowsF q (ws.length + 1) (c2 ws))), V3, .own (dctE K), V5, .un, .un] := by
    rintro d ds ρ ⟨dn, td, K, V3, V5, h1, h2, nd, hl, hv, hi, _, rfl⟩
    cases td with
    | nil => cases h2
    | cons w td =>
      rw [List.map_cons] at h2
      cases h2
      have hw : w ∈ ws := by rw [← h1]; simp
      have hdl : dn.length ≤ 60 := by rw [← h1] at hn; simp at hn; omega
      obtain ⟨V, e⟩ := pivB_ok (a0 := a0) (V5 := V5) (K := K) h hw hq hn (by omega)
      by_cases z : w ∈ K.map Prod.fst
      · rw [if_pos z] at e
        refine ⟨_, _, rfl, e, dn ++ [w], td, K, _, V, by rw [← h1]; simp, rfl, nd, by simp; omega, hv, fun x hx => ?_, .inr ⟨_, rfl⟩, rfl⟩
        rcases List.mem_append.mp hx with hx | hx
        · exact hi x hx
        · rw [List.mem_singleton.mp hx]; exact z
      · rw [if_neg z] at e
        refine ⟨_, _, rfl, e, dn ++ [w], td, K ++ [(w, tot ws q w)], _, V, by rw [← h1]; simp, rfl, ?_, by simp; omega, fun p hp => ?_, fun x hx => ?_, .inr ⟨_, rfl⟩, rfl⟩
        · unfold NdE at nd ⊢
          rw [List.map_append, List.nodup_append]
          exact ⟨nd, by simp, fun a ha b hb => by simp at hb; subst hb; intro y; subst y; exact z ha⟩
        · rcases List.mem_append.mp hp with hp | hp
          · exact hv p hp
          · rw [List.mem_singleton.mp hp]
        · rw [List.map_append]
          rcases List.mem_append.mp hx with hx | hx
          · exact List.mem_append.mpr (.inl (hi x hx))
          · rw [List.mem_singleton.mp hx]; exact List.mem_append.mpr (.inr (by simp))
  obtain ⟨ρ', e, dn, td, K, V3', V5', h1, h2, nd, hl, hv, hi, h5, h4⟩ := forL_ind (fun rest ρ => ∃ dn td K V3 V5, dn ++ td = ws ∧ rest = td.map D.int ∧ NdE K ∧ K.length ≤ dn.length ∧ (∀ p ∈ K, p.2 = tot ws q p.1) ∧ (∀ w ∈ dn, w ∈ K.map Prod.fst) ∧ (V3 = .un ∨ ∃ d, V3 = .dat d) ∧ ρ = [a0, .dat (.int (ws.length : Nat)), .own (.lst (rowsF q (ws.length + 1) (c2 ws))), V3, .own (dctE K), V5, .un, .un])
    step (ws.map D.int) [a0, .dat (.int (ws.length : Nat)), .own (.lst (rowsF q (ws.length + 1) (c2 ws))), V3, .own (dctE []), V5, .un, .un] ⟨[], ws, [], V3, V5, rfl, rfl, List.nodup_nil, Nat.le_refl _, by simp, by simp, h3, rfl⟩
  have : td = [] := by cases td with
    | nil => rfl
    | cons _ _ => cases h2
  subst this
  rw [List.append_nil] at h1
  subst h1
  exact ⟨K, V3', V5', nd, hv, hi, h5, by rw [e, h4]; rfl⟩

theorem rows_for {a0 : SV} {ws : List Int} {q n : Nat} (h : ∀ v ∈ ws, 0 ≤ v) (hq : q ≤ 10000) (hn : ws.length ≤ 60) :
    ∃ V3, (V3 = .un ∨ ∃ d, V3 = .dat d) ∧ forL [] (nameT 3) (asgS 2 (fnS m_put_by_size (consS (getS 2) (consS (getS 3) nilS)))) (ws.map D.int) [a0, .dat (.int (n : Nat)), .own (.lst (rowsF q 1 (c2 []))), .un, .un, .un, .un, .un]
      = .ok .nx [a0, .dat (.int (n : Nat)), .own (.lst (rowsF q (ws.length + 1) (c2 ws))), V3, .un, .un, .un, .un] := by
  have step : ∀ d ds ρ, (∃ dn td V3, dn ++ td = ws ∧ (d :: ds) = td.map D.int ∧ (V3 = .un ∨ ∃ d, V3 = .dat d) ∧ ρ = [a0, .dat (.int (n : Nat)), .own (.lst (rowsF q (dn.length + 1) (c2 dn))), V3, .un, .un, .un, .un]) →
      ∃ ρ1 ρ2, nameT 3 d (forget [] ρ) = some ρ1 ∧ asgS 2 (fnS m_put_by_size (consS (getS 2) (consS (getS 3) nilS))) ρ1 = .ok .nx ρ2 ∧ ∃ dn td V3, dn ++ td = ws ∧ ds = td.map D.int ∧ (V3 = .un ∨ ∃ d, V3 = .dat d) ∧ ρ2 = [a0, .dat (.int (n : Nat)), .own (.lst (rowsF q (dn.length + 1) (c2 dn))), V3, .un, .un, .un, .un] := by
    rintro d ds ρ ⟨dn, td, V3, h1, h2, _, rfl⟩
    cases td with
    | nil => cases h2
    | cons w td =>
      rw [List.map_cons] at h2
      cases h2
      have hw : 0 ≤ w := h w (by rw [← h1]; simp)
      have hd : ∀ v ∈ dn, 0 ≤ v := fun v hv => h v (by rw [← h1]; simp [hv])
      have hdl : dn.length ≤ 60 := by rw [← h1] at hn; simp at hn; omega
      have e := put_by_size_ok (q := q) (n := dn.length + 1) (F := c2 dn) hw hq (by omega) (by omega)
      rw [rowsF_congr fun s j => put_c2 hd hw s j] at e
      refine ⟨_, [a0, .dat (.int (n : Nat)), .own (.lst (rowsF q ((dn ++ [w]).length + 1) (c2 (dn ++ [w])))), .dat (.int w), .un, .un, .un, .un], rfl, ?_, dn ++ [w], td, _, by rw [← h1]; simp, rfl, .inr ⟨_, rfl⟩, rfl⟩
      have el : (dn ++ [w]).length + 1 = dn.length + 1 + 1 := by simp
      rw [el]
      simp [e]
  obtain ⟨ρ', e, dn, td, V3, h1, h2, h3, h4⟩ := forL_ind (fun rest ρ => ∃ dn td V3, dn ++ td = ws ∧ rest = td.map D.int ∧ (V3 = .un ∨ ∃ d, V3 = .dat d) ∧ ρ = [a0, .dat (.int (n : Nat)), .own (.lst (rowsF q (dn.length + 1) (c2 dn))), V3, .un, .un, .un, .un])
    step (ws.map D.int) [a0, .dat (.int (n : Nat)), .own (.lst (rowsF q 1 (c2 []))), .un, .un, .un, .un, .un] ⟨[], ws, .un, rfl, rfl, .inl rfl, rfl⟩
  have : td = [] := by cases td with
    | nil => rfl
    | cons _ _ => cases h2
  subst this
  rw [List.append_nil] at h1
  subst h1
  exact ⟨V3, h3, by rw [e, h4]; rfl⟩
theorem scale_pivots_ok {ws : List Int} {q : Nat} (h : ∀ v ∈ ws, 0 ≤ v) (hq1 : 1 ≤ q) (hq : q ≤ 10000) (hn : ws.length ≤ 60) :
    m_scale_pivots [.own (scD ws q)] = .ok (.dat (.tup (ws.map fun w => .int (tot ws q w)))) [.own (scD ws q)] := by
  obtain ⟨V3, v3, e1⟩ := rows_for (a0 := .own (scD ws q)) (n := ws.length) h hq hn
  obtain ⟨K, V3', V5', nd, hv, hi, v3', e2⟩ := piv_for (a0 := .own (scD ws q)) (V3 := V3) (V5 := .un) h hq hn v3
  have s0 : par2S 1 2 (callS lenD (consS (fldS ["Scale"] "weights" (getS 0)) nilS)) (lstS (consD (op2S addD (lstS (consD (constS (.int 1)) nilS)) (op2S mulD (lstS (consD (constS (.int 0)) nilS)) (op2S subD (fldS ["Scale"] "quota" (getS 0)) (constS (.int 1))))) nilS))
      [.own (scD ws q), .un, .un, .un, .un, .un, .un, .un] = .ok .nx [.own (scD ws q), .dat (.int (ws.length : Nat)), .own (.lst (rowsF q 1 (c2 []))), .un, .un, .un, .un, .un] := by
    have l1 : ((q : Int) - 1).natAbs ≤ 1000000 := by omega
    have l3 : q ≤ 1000001 := by omega
    have l4 : 1 + (q - 1) ≤ 1000000 := by omega
    have l5 := row_first hq1
    rw [List.singleton_append, show ((q : Int) - 1).toNat = q - 1 by omega] at l5
    have l6 : rowsF q 1 (c2 []) = [.lst (row q (cnt []))] := by
      show [D.lst (row q (c2 [] 0))] = _
      rw [row_congr fun j _ => show c2 [] 0 j = cnt [] j from by show (if (0 : Nat) = 0 ∧ (0 : Int) = (j : Int) then (1 : Int) else 0) = if (0 : Int) = (j : Int) then 1 else 0; simp]
    simp [-s_fldD, l1, l3, l4, rep_zero, l5, l6]
  have w1 : ∀ {r : Env}, inV_ (fldS ["Scale"] "weights" (getS 0)) itV (.own (scD ws q) :: r) = .ok (ws.map .int) (.own (scD ws q) :: r) := fun {r} => by simp [-s_fldD]
  have s1 : forS [] (inV_ (fldS ["Scale"] "weights" (getS 0)) itV) (nameT 3) (asgS 2 (fnS m_put_by_size (consS (getS 2) (consS (getS 3) nilS)))) [.own (scD ws q), .dat (.int (ws.length : Nat)), .own (.lst (rowsF q 1 (c2 []))), .un, .un, .un, .un, .un]
      = .ok .nx [.own (scD ws q), .dat (.int (ws.length : Nat)), .own (.lst (rowsF q (ws.length + 1) (c2 ws))), V3, .un, .un, .un, .un] := by rw [s_forS, w1]; exact e1
  have s2 : asgS 4 newDS [.own (scD ws q), .dat (.int (ws.length : Nat)), .own (.lst (rowsF q (ws.length + 1) (c2 ws))), V3, .un, .un, .un, .un] = .ok .nx [.own (scD ws q), .dat (.int (ws.length : Nat)), .own (.lst (rowsF q (ws.length + 1) (c2 ws))), V3, .own (dctE []), .un, .un, .un] := rfl
  have s3 : forS [] (inV_ (fldS ["Scale"] "weights" (getS 0)) itV) (nameT 3) pivB [.own (scD ws q), .dat (.int (ws.length : Nat)), .own (.lst (rowsF q (ws.length + 1) (c2 ws))), V3, .own (dctE []), .un, .un, .un]
      = .ok .nx [.own (scD ws q), .dat (.int (ws.length : Nat)), .own (.lst (rowsF q (ws.length + 1) (c2 ws))), V3', .own (dctE K), V5', .un, .un] := by rw [s_forS, w1]; exact e2
  have s4 : lcR [3] (nameT 3) yesT (op2S ixA (getS 4) (getS 3)) (ws.map .int) [.own (scD ws q), .dat (.int (ws.length : Nat)), .own (.lst (rowsF q (ws.length + 1) (c2 ws))), V3', .own (dctE K), V5', .un, .un]
      = .ok (.own (.lst (ws.map fun w => .int (tot ws q w)))) [.own (scD ws q), .dat (.int (ws.length : Nat)), .own (.lst (rowsF q (ws.length + 1) (c2 ws))), V3', .own (dctE K), V5', .un, .un] := by
    refine (lcR_all (y := fun w => D.int (tot ws q w)) (by rcases v3' with rfl | ⟨d, rfl⟩ <;> rfl) (by simp; omega) fun w hw => ⟨_, _, [.own (scD ws q), .dat (.int (ws.length : Nat)), .own (.lst (rowsF q (ws.length + 1) (c2 ws))), .dat (.int w), .own (dctE K), V5', .un, .un], rfl, rfl, ?_, rfl⟩).trans rfl
    obtain ⟨p, hp, e⟩ := List.mem_map.mp (hi w hw)
    have : (p.1, p.2) ∈ K := hp
    have g := getE_mem nd this
    rw [e, hv p hp, e] at g
    simp [ix_E g]
  show endF 1 _ (seqS _ (seqS _ (seqS _ (seqS (forS [] (inV_ (fldS ["Scale"] "weights" (getS 0)) itV) (nameT 3) pivB) (retS (callS tupL (consS (lcS [3] (inV_ (fldS ["Scale"] "weights" (getS 0)) itV) (nameT 3) yesT (op2S ixA (getS 4) (getS 3))) nilS)))))) [.own (scD ws q), .un, .un, .un, .un, .un, .un, .un]) = _
  rw [seq_nx s0, seq_nx s1, seq_nx s2, seq_nx s3]
  rw [s_ret, s_call, s_consS, s_opnd, s_lcS, w1, s_bind, s4]
  rfl
end k23
end DL
namespace DL
open PySem L2
namespace k23
theorem S_pick {n j0 : Nat} {f : Nat → Int} (h : j0 < n) (hz : ∀ j, j < n → j ≠ j0 → f j = 0) : S n f = f j0 := by
  have e : S n f = S n (fun i => if (j0 : Int) = (i : Int) then f j0 else 0) := S_congr fun i hi => by
    by_cases z : i = j0
    · subst z; rw [if_pos rfl]
    · rw [if_neg (by omega), hz i hi z]
  rw [e, S_one, if_pos (by omega)]
theorem S_none {n : Nat} {f : Nat → Int} (hz : ∀ j, j < n → f j = 0) : S n f = 0 := (S_congr hz).trans (S_zero n)
theorem cnt_S {ws : List Int} (q : Nat) : S q (cnt ws) = M ws (fun _ t => if 0 ≤ t ∧ t < (q : Int) then 1 else 0) := by
  have e : cnt ws = fun j : Nat => M ws (dl j) := rfl
  rw [e, ← M_S]
  congr 1
  funext s t
  exact S_one q t 1
theorem carry_M {ws : List Int} (h : ∀ v ∈ ws, 0 ≤ v) (q : Nat) : 2 ^ ws.length - S q (cnt ws) = M ws (fun _ t => if (q : Int) ≤ t then 1 else 0) := by
  have e := M_const ws 1
  rw [Int.one_mul] at e
  rw [cnt_S, ← e, ← M_sub]
  refine M_congr h fun s t _ ht => ?_
  by_cases z : (q : Int) ≤ t
  · rw [if_pos z, if_neg (by omega)]; rfl
  · rw [if_neg z, if_pos (by omega)]; rfl
theorem erase_rep {n : Nat} {w : Int} : (List.replicate (n + 1) w).erase w = List.replicate n w := by
  rw [List.replicate_succ, List.erase_cons_head]
theorem nn_rep {n : Nat} {w : Int} (h : 0 ≤ w) : ∀ v ∈ List.replicate n w, 0 ≤ v := fun v hv => by rw [List.eq_of_mem_replicate hv]; exact h
theorem ch_nat {n k : Nat} : ch n (k : Int) = bin n k := by
  unfold ch
  by_cases h : k ≤ n
  · rw [if_pos (by omega), Int.toNat_natCast]
  · rw [if_neg (by omega), bin_out (by omega)]; rfl
/-! ### equal ones -/
section
variable {m k q : Nat} {w r : Int} (hk : k ≤ m) (hw : 0 < w) (hr : 0 ≤ r) (hrw : r < w) (hq : (q : Int) = w * ((k : Int) + 1) - r)
include hw hr hrw hq
theorem eq_mul (j : Nat) : (q : Int) ≤ (j : Int) * w ↔ k + 1 ≤ j := by
  constructor
  · intro h
    by_cases z : k + 1 ≤ j
    · exact z
    · have h1 : (j : Int) * w ≤ (k : Int) * w := Int.mul_le_mul_of_nonneg_right (by omega) (by omega)
      have h2 : w * ((k : Int) + 1) = (k : Int) * w + w := by rw [Int.mul_add, Int.mul_one, Int.mul_comm]
      omega
  · intro h
    have h1 : ((k : Int) + 1) * w ≤ (j : Int) * w := Int.mul_le_mul_of_nonneg_right (by omega) (by omega)
    have h2 : w * ((k : Int) + 1) = ((k : Int) + 1) * w := Int.mul_comm _ _
    omega
theorem eq_wnd (j : Nat) : wnd q w ((j : Int) * w) = if j = k then 1 else 0 := by
  unfold wnd
  have h1 := eq_mul hw hr hrw hq j
  have h2 := eq_mul hw hr hrw hq (j + 1)
  have h3 : ((j + 1 : Nat) : Int) * w = (j : Int) * w + w := by rw [Int.natCast_add, Int.add_mul]; omega
  rw [h3] at h2
  have h4 : 0 ≤ (j : Int) * w := Int.mul_nonneg (by omega) (by omega)
  by_cases z : j = k
  · rw [if_pos z, if_pos]
    refine ⟨?_, h4, ?_⟩
    · have := h2.mpr (by omega); omega
    · by_cases y : (q : Int) ≤ (j : Int) * w
      · have := h1.mp y; omega
      · omega
  · rw [if_neg z, if_neg]
    rintro ⟨a, _, b⟩
    have : k + 1 ≤ j + 1 := h2.mp (by omega)
    have : ¬ k + 1 ≤ j := fun y => by have := h1.mpr y; omega
    omega
theorem eq_carry : 2 ^ (m + 1) - S q (cnt (List.replicate (m + 1) w)) = S (m + 1 - k) fun i => ch (m + 1) ((k : Int) + 1 + (i : Int)) := by
  have e := carry_M (nn_rep (n := m + 1) (Int.le_of_lt hw)) q
  rw [List.length_replicate] at e
  rw [e, M_same]
  have e2 : S (m + 1 + 1) (fun j => (bin (m + 1) j : Int) * (if (q : Int) ≤ (j : Int) * w then 1 else 0)) = S (m + 1 + 1) (fun j => if k + 1 ≤ j then (bin (m + 1) j : Int) else 0) := S_congr fun j _ => by
    by_cases z : k + 1 ≤ j
    · rw [if_pos ((eq_mul hw hr hrw hq j).mpr z), if_pos z, Int.mul_one]
    · rw [if_neg (fun y => z ((eq_mul hw hr hrw hq j).mp y)), if_neg z, Int.mul_zero]
  rw [e2]
  by_cases hkm : k + 1 ≤ m + 1 + 1
  · rw [← S_from (m + 1 + 1) (k + 1) _ hkm, show m + 1 + 1 - (k + 1) = m + 1 - k by omega]
    refine S_congr fun i _ => ?_
    rw [show (k : Int) + 1 + (i : Int) = ((k + 1 + i : Nat) : Int) by omega, ch_nat]
  · rw [show m + 1 - k = 0 by omega]
    exact S_none fun j hj => if_neg (by omega)
include hk
theorem eq_swing : swing q (List.replicate (m + 1) w) w = ch m k := by
  unfold swing
  rw [erase_rep, win_cnt, M_same, S_pick (j0 := k) (by omega), eq_wnd hw hr hrw hq, if_pos rfl, ch_nat, Int.mul_one]
  intro j _ hj
  rw [eq_wnd hw hr hrw hq, if_neg hj, Int.mul_zero]
theorem eq_tot : tot (List.replicate (m + 1) w) q w = (fact m : Int) := by
  rw [tot_M (nn_rep (Int.le_of_lt hw)) (by simp), erase_rep, M_same, S_pick (j0 := k) (by omega), eq_wnd hw hr hrw hq, if_pos rfl, Int.one_mul, List.length_replicate, Nat.add_sub_cancel]
  · rw [← Int.natCast_mul, ← Int.natCast_mul, bin_fact hk]
  · intro j _ hj
    rw [eq_wnd hw hr hrw hq, if_neg hj, Int.zero_mul, Int.mul_zero]
end
/-! ### one heavy one -/
section
variable {l h r q : Nat} (hr : r ≤ l) (hh : 1 ≤ h) (hq : q = h + r)
/-- heavy, light .. (l + 1 of them) -/
def hws (l h : Nat) : List Int := (h : Int) :: List.replicate (l + 1) 1
theorem hws_nn : ∀ v ∈ hws l h, 0 ≤ v := fun v hv => by
  rcases List.mem_cons.mp hv with rfl | hv
  · omega
  · rw [List.eq_of_mem_replicate hv]; decide
theorem hws_heavy : (hws l h).erase (h : Int) = List.replicate (l + 1) 1 := by unfold hws; rw [List.erase_cons_head]
theorem hws_light : ((hws l h).erase 1).Perm ((h : Int) :: List.replicate l 1) := by
  have m : (1 : Int) ∈ hws l h := by unfold hws; simp
  have p1 : (hws l h).Perm (1 :: (hws l h).erase 1) := List.perm_cons_erase m
  have p2 : (hws l h).Perm (1 :: (h : Int) :: List.replicate l 1) := by
    unfold hws
    rw [List.replicate_succ]
    exact List.Perm.swap _ _ _
  exact List.Perm.cons_inv (p1.symm.trans p2)
theorem M_ones (n : Nat) (g : Nat → Int → Int) : M (List.replicate n 1) g = S (n + 1) fun j => (bin n j : Int) * g j j := by
  rw [M_same]
  exact S_congr fun j _ => by rw [Int.mul_one]
theorem one_wnd (t : Int) (hq1 : 1 ≤ q) : wnd q 1 t = if t = (q : Int) - 1 then 1 else 0 := by
  unfold wnd
  by_cases z : t = (q : Int) - 1
  · rw [if_pos z, if_pos (by omega)]
  · rw [if_neg z, if_neg (by omega)]
/-- a sum in which one place counts -/
theorem S_at (n : Nat) (t : Int) (f : Nat → Int) : S n (fun j => f j * (if (j : Int) = t then 1 else 0)) = if 0 ≤ t ∧ t < (n : Int) then f t.toNat else 0 := by
  by_cases z : 0 ≤ t ∧ t < (n : Int)
  · rw [if_pos z, S_pick (j0 := t.toNat) (by omega), if_pos (by omega), Int.mul_one]
    intro j _ hj
    rw [if_neg (by omega), Int.mul_zero]
  · rw [if_neg z]
    exact S_none fun j hj => by rw [if_neg (by omega), Int.mul_zero]
theorem hv_swing_light (hq1 : 1 ≤ q) : swing q (hws l h) 1 = ch l ((q : Int) - 1) + ch l ((q : Int) - (h : Int) - 1) := by
  unfold swing
  rw [win_cnt, M_perm hws_light, M, M_ones, M_ones]
  have e1 : S (l + 1) (fun j => (bin l j : Int) * wnd q 1 (j : Int)) = ch l ((q : Int) - 1) := by
    rw [S_congr fun j _ => by rw [one_wnd _ hq1], S_at]
    unfold ch
    by_cases z : 0 ≤ (q : Int) - 1 ∧ (q : Int) - 1 ≤ (l : Int)
    · rw [if_pos z, if_pos (by omega)]
    · rw [if_neg z, if_neg (by omega)]
  have e2 : S (l + 1) (fun j => (bin l j : Int) * wnd q 1 ((j : Int) + (h : Int))) = ch l ((q : Int) - (h : Int) - 1) := by
    have : S (l + 1) (fun j => (bin l j : Int) * wnd q 1 ((j : Int) + (h : Int))) = S (l + 1) (fun j => (bin l j : Int) * (if (j : Int) = (q : Int) - (h : Int) - 1 then 1 else 0)) := S_congr fun j _ => by
      rw [one_wnd _ hq1]
      by_cases z : (j : Int) = (q : Int) - (h : Int) - 1
      · rw [if_pos z, if_pos (by omega)]
      · rw [if_neg z, if_neg (by omega)]
    rw [this, S_at]
    unfold ch
    by_cases z : 0 ≤ (q : Int) - (h : Int) - 1 ∧ (q : Int) - (h : Int) - 1 ≤ (l : Int)
    · rw [if_pos z, if_pos (by omega)]
    · rw [if_neg z, if_neg (by omega)]
  rw [e1, e2]
theorem hv_swing_heavy : swing q (hws l h) (h : Int) = S (l + 1 + 1) fun j => (bin (l + 1) j : Int) * wnd q h j := by
  unfold swing
  rw [win_cnt, hws_heavy, M_ones]
theorem hv_tot_heavy : tot (hws l h) q (h : Int) = (fact (l + 1) : Int) * S (l + 1 + 1) fun j => wnd q h j := by
  rw [tot_M hws_nn (by unfold hws; simp), hws_heavy, M_ones, ← S_mul]
  refine S_congr fun j hj => ?_
  have hl : (hws l h).length - 1 = l + 1 := by unfold hws; simp
  rw [hl]
  have := bin_fact (n := l + 1) (k := j) (by omega)
  rw [← this, Int.natCast_mul, Int.natCast_mul]
  simp only [Int.mul_assoc, Int.mul_comm, Int.mul_left_comm]
end
end k23
end DL
namespace DL
open PySem L2
namespace k23
theorem S_count {r q : Nat} (hrq : r ≤ q) : ∀ n : Nat, S n (fun j => if r ≤ j ∧ j < q then 1 else 0) = ((min n q - r : Nat) : Int)
  | 0 => by simp [S]
  | n + 1 => by
    rw [S, S_count hrq n]
    by_cases z : r ≤ n ∧ n < q
    · rw [if_pos z]; omega
    · rw [if_neg z]; omega
theorem S_ext {N n : Nat} {f : Nat → Int} (h : N ≤ n) (hz : ∀ j, N ≤ j → j < n → f j = 0) : S n f = S N f := by
  induction n with
  | zero => have : N = 0 := by omega
            subst this; rfl
  | succ n ih =>
    by_cases z : N ≤ n
    · rw [S, ih z fun j h1 h2 => hz j h1 (by omega), hz n z (by omega)]; omega
    · have : N = n + 1 := by omega
      subst this; rfl
section
variable {l h r q : Nat} (hr : r ≤ l) (hh : 1 ≤ h) (hq : q = h + r)
include hq hh
theorem wnd_heavy (j : Nat) : wnd q h (j : Int) = if r ≤ j ∧ j < q then 1 else 0 := by
  unfold wnd
  by_cases z : r ≤ j ∧ j < q
  · rw [if_pos z, if_pos (by omega)]
  · rw [if_neg z, if_neg (by omega)]
theorem hv_places : S (l + 1 + 1) (fun j => wnd q h (j : Int)) = ((min (l + 2) q - r : Nat) : Int) := by
  rw [S_congr fun j _ => wnd_heavy hh hq j, S_count (by omega)]
include hr
theorem hv_some : swing q (hws l h) (h : Int) = S (min (q - 1) (l + 1) + 1 - r) fun i => ch (l + 1) ((r : Int) + (i : Int)) := by
  rw [hv_swing_heavy]
  have e1 : S (min (q - 1) (l + 1) + 1 - r) (fun i => ch (l + 1) ((r : Int) + (i : Int))) = S (min (q - 1) (l + 1) + 1 - r) (fun i => (bin (l + 1) (r + i) : Int)) := S_congr fun i _ => by
    rw [show (r : Int) + (i : Int) = ((r + i : Nat) : Int) by omega, ch_nat]
  rw [e1, S_from _ r (fun j => (bin (l + 1) j : Int)) (by omega)]
  rw [S_ext (N := min (q - 1) (l + 1) + 1) (by omega) fun j h1 h2 => by rw [wnd_heavy hh hq, if_neg (by omega), Int.mul_zero]]
  refine S_congr fun j hj => ?_
  rw [wnd_heavy hh hq]
  by_cases z : r ≤ j
  · rw [if_pos z, if_pos (by omega), Int.mul_one]
  · rw [if_neg z, if_neg (by omega), Int.mul_zero]
theorem hv_tot_light : tot (hws l h) q 1 = (fact l : Int) * ((l : Int) + 2 - ((min (l + 2) q - r : Nat) : Int)) := by
  have hl : (hws l h).length - 1 = l + 1 := by unfold hws; simp
  rw [tot_M hws_nn (by unfold hws; simp), hl, M_perm hws_light, M, M_ones, M_ones]
  have a1 : S (l + 1) (fun j => (bin l j : Int) * (wnd q 1 (j : Int) * ((fact j : Int) * (fact (l + 1 - j) : Int)))) = if (q : Int) - 1 ≤ l then (fact l : Int) * ((l : Int) + 2 - q) else 0 := by
    have : S (l + 1) (fun j => (bin l j : Int) * (wnd q 1 (j : Int) * ((fact j : Int) * (fact (l + 1 - j) : Int)))) = S (l + 1) (fun j => ((fact l : Int) * ((l : Int) + 1 - (j : Int))) * (if (j : Int) = (q : Int) - 1 then 1 else 0)) := S_congr fun j hj => by
      rw [one_wnd _ (by omega)]
      by_cases z : (j : Int) = (q : Int) - 1
      · rw [if_pos z, Int.one_mul, Int.mul_one, show l + 1 - j = (l - j) + 1 by omega, fact, ← bin_fact (n := l) (k := j) (by omega)]
        rw [show (l : Int) + 1 - (j : Int) = ((l - j + 1 : Nat) : Int) by omega]
        simp only [Int.natCast_mul, Int.mul_assoc, Int.mul_comm, Int.mul_left_comm]
      · rw [if_neg z, Int.zero_mul, Int.mul_zero, Int.mul_zero]
    rw [this, S_at]
    by_cases z : (q : Int) - 1 ≤ l
    · rw [if_pos z, if_pos (by omega)]; congr 1; omega
    · rw [if_neg z, if_neg (by omega)]
  have a2 : S (l + 1) (fun j => (bin l j : Int) * (wnd q 1 ((j : Int) + (h : Int)) * ((fact (j + 1) : Int) * (fact (l + 1 - (j + 1)) : Int)))) = (fact l : Int) * (r : Int) := by
    have : S (l + 1) (fun j => (bin l j : Int) * (wnd q 1 ((j : Int) + (h : Int)) * ((fact (j + 1) : Int) * (fact (l + 1 - (j + 1)) : Int)))) = S (l + 1) (fun j => ((fact l : Int) * ((j : Int) + 1)) * (if (j : Int) = (r : Int) - 1 then 1 else 0)) := S_congr fun j hj => by
      rw [one_wnd _ (by omega)]
      by_cases z : (j : Int) = (r : Int) - 1
      · rw [if_pos z, if_pos (by omega), Int.one_mul, Int.mul_one, show l + 1 - (j + 1) = l - j by omega, fact, ← bin_fact (n := l) (k := j) (by omega)]
        rw [show (j : Int) + 1 = ((j + 1 : Nat) : Int) by omega]
        simp only [Int.natCast_mul, Int.mul_assoc, Int.mul_comm, Int.mul_left_comm]
      · rw [if_neg z, if_neg (by omega), Int.zero_mul, Int.mul_zero, Int.mul_zero]
    rw [this, S_at]
    by_cases z : 0 ≤ (r : Int) - 1
    · rw [if_pos (by omega)]; congr 1; omega
    · rw [if_neg (by omega)]
      have : r = 0 := by omega
      subst this; simp
  rw [a1, a2]
  by_cases z : (q : Int) - 1 ≤ l
  · rw [if_pos z, ← Int.mul_add]; congr 1; omega
  · rw [if_neg z, Int.zero_add]; congr 1; omega
end
theorem hv_rest (l : Nat) (p : Int) : ((fact (l + 2) : Int) - (fact (l + 1) : Int) * p) / ((l : Int) + 1) = (fact l : Int) * ((l : Int) + 2 - p) := by
  have e : (fact (l + 2) : Int) - (fact (l + 1) : Int) * p = ((fact l : Int) * ((l : Int) + 2 - p)) * ((l : Int) + 1) := by
    have e1 : (fact (l + 2) : Int) = (fact (l + 1) : Int) * ((l : Int) + 2) := by
      rw [show l + 2 = (l + 1) + 1 by omega, fact, Int.natCast_mul]; congr 1
    have e2 : (fact (l + 1) : Int) = (fact l : Int) * ((l : Int) + 1) := by rw [fact, Int.natCast_mul]; congr 1
    rw [e1, ← Int.mul_sub, e2]
    simp only [Int.mul_assoc, Int.mul_comm, Int.mul_left_comm]
  rw [e]
  exact Int.mul_ediv_cancel _ (by omega)
end k23
end DL
namespace DL
open PySem L2
namespace k23
theorem rep_flat {n : Nat} {x : D} : (List.replicate n [x]).flatten = List.replicate n x := by
  induction n with
  | zero => rfl
  | succ n ih => rw [List.replicate_succ, List.flatten_cons, ih]; rfl
theorem rep_map {n : Nat} {w : Int} : List.replicate n (D.int w) = (List.replicate n w).map D.int := by rw [List.map_replicate]
def chE : Env → R XV := fnS m_law_choose (consS (getS 1) (consS (getS 5) nilS))
theorem ch_lc {a0 a2 a3 a4 : SV} {n c : Nat} {lo : Int} (hn : n ≤ 127) (hc : c ≤ 1000) : lcR [5] (nameT 5) yesT chE (rangeD lo c) [a0, .dat (.int (n : Nat)), a2, a3, a4, .un]
    = .ok (.own (.lst ((List.range c).map fun i => .int (ch n (lo + (i : Nat)))))) [a0, .dat (.int (n : Nat)), a2, a3, a4, .un] := by
  rw [rangeD_eq]
  refine (lcR_all (y := fun i => D.int (ch n (lo + (i : Nat)))) rfl (by simp; omega) fun i _ => ⟨_, _, [a0, .dat (.int (n : Nat)), a2, a3, a4, .dat (.int (lo + (i : Nat)))], rfl, rfl, ?_, rfl⟩).trans rfl
  unfold chE
  simp [choose_ok hn]
theorem ch_sum {c n : Nat} {lo : Int} : sumL [.lst ((List.range c).map fun i => .int (ch n (lo + (i : Nat))))] = some (.dat (.int (S c fun i => ch n (lo + (i : Nat))))) := by
  rw [s_sum, ints_map, ← S_sum]; rfl
theorem is_same {k : Nat} {l m : List D} (ns : List Int) (hl : ns.length ≤ 10000) (h1 : l = ns.map .int) (h2 : m = ns.map .int) : m_law_is (k + 2) [.dat (.tup l), .dat (.tup m)] = .ok (.dat (.bl true)) [.dat (.tup l), .dat (.tup m)] := by
  subst h1; subst h2; exact is_tup k ns hl
theorem guard_ok {A : Env → R Bool} {q : Env → R Out} {ρ ρ' : Env} (h : A ρ = .ok true ρ') : iteS (notT A) q nextS ρ = .ok .nx ρ' := by
  rw [s_ite, s_notT, h]; rfl
theorem equal_ok {K : Int} {d : D} (hp : IsPen K d) (hK : K ≤ 1000) : ∃ d', m_law_equal_right [.own d] = .ok (.dat (.bl true)) [.own d'] ∧ IsPen (K + 4) d' := by
  obtain ⟨a, d1, e1, a0, a1, p1⟩ := draw_ok (m := 59) hp (by omega) (by decide) (by decide)
  obtain ⟨b, d2, e2, b0, b1, p2⟩ := draw_ok (m := 30) p1 (by omega) (by decide) (by decide)
  obtain ⟨m, hm⟩ : ∃ m : Nat, 2 + a = ((m + 1 : Nat) : Int) := ⟨(1 + a).toNat, by omega⟩
  obtain ⟨c, d3, e3, c0, c1, p3⟩ := draw_ok (m := ((m + 1 : Nat) : Int)) p2 (by omega) (by omega) (by omega)
  obtain ⟨k, rfl⟩ : ∃ k : Nat, c = k := ⟨c.toNat, by omega⟩
  obtain ⟨w, hw⟩ : ∃ w : Int, w = 1 + b := ⟨_, rfl⟩
  obtain ⟨r, d4, e4, r0, r1, p4⟩ := draw_ok (m := w) p3 (by omega) (by omega) (by omega)
  have hwk : w * ((k : Int) + 1) = w * k + w := by rw [Int.mul_add, Int.mul_one]
  have hwk0 : 0 ≤ w * (k : Int) := Int.mul_nonneg (by omega) (by omega)
  have hwk1 : w * (k : Int) ≤ 30 * k := Int.mul_le_mul_of_nonneg_right (by omega) (by omega)
  obtain ⟨q, hq⟩ : ∃ q : Nat, (q : Int) = w * ((k : Int) + 1) - r := ⟨(w * ((k : Int) + 1) - r).toNat, by omega⟩
  have hkm : k ≤ m := by omega
  refine ⟨d4, ?_, by have : K + 1 + 1 + 1 + 1 = K + 4 := by omega
                     rw [← this]; exact p4⟩
  have s1 : asgT (tupS (consD (op2S addD (constS (.int 2)) (fnS m_law_draw (consS (getS 0) (consS (constS (.int 59)) nilS)))) (consD (op2S addD (constS (.int 1)) (fnS m_law_draw (consS (getS 0) (consS (constS (.int 30)) nilS)))) nilS))) (tupT 2 (consT (nameT 1) (consT (nameT 2) nilT))) [.own d, .un, .un, .un, .un, .un]
      = .ok .nx [.own d2, .dat (.int ((m + 1 : Nat) : Int)), .dat (.int w), .un, .un, .un] := by
    simp [e1, e2, hm, hw]
  have s2 : asgS 3 (op2S addD (constS (.int 1)) (fnS m_law_draw (consS (getS 0) (consS (getS 1) nilS)))) [.own d2, .dat (.int ((m + 1 : Nat) : Int)), .dat (.int w), .un, .un, .un]
      = .ok .nx [.own d3, .dat (.int ((m + 1 : Nat) : Int)), .dat (.int w), .dat (.int ((k : Int) + 1)), .un, .un] := by
    have : (1 : Int) + k = (k : Int) + 1 := by omega
    simp only [s_asg, s_op2, s_opnd, s_const, s_bind, s_fn, s_consS, s_getS, s_at0, s_atS, s_nilS, s_callF, s_argsS, s_argsD, s_args0, Option.map, s_slotsS, s_slotsD, s_slots0, s_twC, s_tw0]
    simp [-Int.natCast_add, e3, this]
  have hws : (List.replicate (m + 1) (D.int w)) = (List.replicate (m + 1) w).map .int := rep_map
  have sc := scale_init_ok (ws := List.replicate (m + 1) w) (q := q) (A := .dat (.tup ((List.replicate (m + 1) w).map .int))) (nn_rep (by omega)) (by simp) (by simp; omega) (by omega) (.inr rfl)
  have fw : Fit w := Fit.of (by omega) (by omega)
  have fk : Fit ((k : Int) + 1) := Fit.of (by omega) (by omega)
  have l1 : 2 ≤ ((m + 1 : Nat) : Int) := by omega
  have l2 : (((m + 1 : Nat) : Int)).natAbs ≤ 1000 := by omega
  have mt : mulD (.tup [.int w]) (.int ((m + 1 : Nat) : Int)) = some (.dat (.tup ((List.replicate (m + 1) w).map .int))) := by
    rw [s_mulT, if_pos ⟨l1, l2, by simp, rfl⟩, Int.toNat_natCast, rep_flat, hws]
  have s3 : asgS 4 (makeS "Scale" m_Scale_init (consS (op2S mulD (tupS (consD (getS 2) nilS)) (getS 1)) (consS (op2S subD (op2S mulD (getS 2) (getS 3)) (fnS m_law_draw (consS (getS 0) (consS (getS 2) nilS)))) nilS))) [.own d3, .dat (.int ((m + 1 : Nat) : Int)), .dat (.int w), .dat (.int ((k : Int) + 1)), .un, .un]
      = .ok .nx [.own d4, .dat (.int ((m + 1 : Nat) : Int)), .dat (.int w), .dat (.int ((k : Int) + 1)), .own (scD (List.replicate (m + 1) w) q), .un] := by
    simp [-s_mulI, -s_mulT, -Int.natCast_add, -List.map_replicate, mt, mulF fw fk, e4, ← hq, sc]
  have e5 := scale_carrying_ok (ws := List.replicate (m + 1) w) (q := q) (nn_rep (by omega)) (by omega) (by omega) (by simp; omega)
  rw [List.length_replicate, eq_carry (by omega) r0 r1 hq] at e5
  have e6 := scale_swings_ok (ws := List.replicate (m + 1) w) (q := q) (nn_rep (by omega)) (by omega) (by omega) (by simp; omega)
  rw [List.map_replicate, eq_swing hkm (by omega) r0 r1 hq] at e6
  have e7 := scale_pivots_ok (ws := List.replicate (m + 1) w) (q := q) (nn_rep (by omega)) (by omega) (by omega) (by simp; omega)
  rw [List.map_replicate, eq_tot hkm (by omega) r0 r1 hq] at e7
  have g1 : Rg ((k : Int) + 1) := Rg.of (by omega) (by omega)
  have g2 : Rg (((m + 1 : Nat) : Int) + 1) := Rg.of (by omega) (by omega)
  have c1 : (((m + 1 : Nat) : Int) + 1 - ((k : Int) + 1)).toNat = m + 1 - k := by omega
  have lc := ch_lc (a0 := .own d4) (a2 := .dat (.int w)) (a3 := .dat (.int ((k : Int) + 1))) (a4 := .own (scD (List.replicate (m + 1) w) q)) (n := m + 1) (c := m + 1 - k) (lo := (k : Int) + 1) (by omega) (by omega)
  have i1 := is_int 3 (S (m + 1 - k) fun i => ch (m + 1) ((k : Int) + 1 + (i : Int)))
  have s4 : truS (fnS (m_law_is 4) (consS (fnS m_scale_carrying (consS (getS 4) nilS)) (consS (callS sumL (consS (lcS [5] (rangeI rg2 (consS (getS 3) (consS (op2S addD (getS 1) (constS (.int 1))) nilS))) (nameT 5) yesT chE) nilS)) nilS))) [.own d4, .dat (.int ((m + 1 : Nat) : Int)), .dat (.int w), .dat (.int ((k : Int) + 1)), .own (scD (List.replicate (m + 1) w) q), .un]
      = .ok true [.own d4, .dat (.int ((m + 1 : Nat) : Int)), .dat (.int w), .dat (.int ((k : Int) + 1)), .own (scD (List.replicate (m + 1) w) q), .un] := by
    simp [-s_sum, -Int.natCast_add, e5, rg2_ok g1 g2, c1, lc, ch_sum, i1]
  have cm := choose_ok (n := m) (k := (k : Int)) (by omega)
  have tm := times_ok (n := m) (by omega)
  have mt2 : ∀ x : Int, mulD (.tup [.int x]) (.int ((m + 1 : Nat) : Int)) = some (.dat (.tup (List.replicate (m + 1) (D.int x)))) := fun x => by
    rw [s_mulT, if_pos ⟨l1, l2, by simp, rfl⟩, Int.toNat_natCast, rep_flat]
  have i2 : ∀ x : Int, m_law_is 4 [.dat (.tup (List.replicate (m + 1) (D.int x))), .dat (.tup (List.replicate (m + 1) (D.int x)))] = .ok (.dat (.bl true)) [.dat (.tup (List.replicate (m + 1) (D.int x))), .dat (.tup (List.replicate (m + 1) (D.int x)))] := fun x => is_same (k := 2) (List.replicate (m + 1) x) (by simp; omega) rep_map rep_map
  have n1 : ((m + 1 : Nat) : Int) - 1 = (m : Int) := by omega
  have n2 : (k : Int) + 1 - 1 = (k : Int) := by omega
  have s5 : truS (fnS (m_law_is 4) (consS (fnS m_scale_swings (consS (getS 4) nilS)) (consS (op2S mulD (tupS (consD (fnS m_law_choose (consS (op2S subD (getS 1) (constS (.int 1))) (consS (op2S subD (getS 3) (constS (.int 1))) nilS))) nilS)) (getS 1)) nilS))) [.own d4, .dat (.int ((m + 1 : Nat) : Int)), .dat (.int w), .dat (.int ((k : Int) + 1)), .own (scD (List.replicate (m + 1) w) q), .un]
      = .ok true [.own d4, .dat (.int ((m + 1 : Nat) : Int)), .dat (.int w), .dat (.int ((k : Int) + 1)), .own (scD (List.replicate (m + 1) w) q), .un] := by
    simp [-s_mulT, -Int.natCast_add, -Int.add_sub_cancel, e6, n1, n2, cm, mt2, i2]
  have s6 : fnS (m_law_is 4) (consS (fnS m_scale_pivots (consS (getS 4) nilS)) (consS (op2S mulD (tupS (consD (fnS m_law_times (consS (op2S subD (getS 1) (constS (.int 1))) nilS)) nilS)) (getS 1)) nilS)) [.own d4, .dat (.int ((m + 1 : Nat) : Int)), .dat (.int w), .dat (.int ((k : Int) + 1)), .own (scD (List.replicate (m + 1) w) q), .un]
      = .ok (.dat (.bl true)) [.own d4, .dat (.int ((m + 1 : Nat) : Int)), .dat (.int w), .dat (.int ((k : Int) + 1)), .own (scD (List.replicate (m + 1) w) q), .un] := by
    simp [-s_mulT, -Int.natCast_add, -Int.add_sub_cancel, e7, n1, tm, mt2, i2]
  show endF 1 _ (seqS _ (seqS _ (seqS _ (seqS (iteS (notT (truS (fnS (m_law_is 4) (consS (fnS m_scale_carrying (consS (getS 4) nilS)) (consS (callS sumL (consS (lcS [5] (rangeI rg2 (consS (getS 3) (consS (op2S addD (getS 1) (constS (.int 1))) nilS))) (nameT 5) yesT chE) nilS)) nilS))))) (retS (constS (.bl false))) nextS) (seqS _ (retS _))))) [.own d, .un, .un, .un, .un, .un]) = _
  rw [seq_nx s1, seq_nx s2, seq_nx s3, seq_nx (guard_ok s4), seq_nx (guard_ok s5)]
  rw [s_ret, s6]; rfl
end k23
end DL
namespace DL
open PySem L2
namespace k23
theorem len_S (n : Nat) (p : Nat → Prop) [DecidablePred p] (f : Nat → D) : (((List.range n).filterMap fun j => if p j then some (f j) else none).length : Int) = S n fun j => if p j then 1 else 0 := by
  induction n with
  | zero => rfl
  | succ n ih =>
    rw [List.range_succ, List.filterMap_append, List.length_append, S, ← ih]
    by_cases h : p n <;> simp [h]
def chF : Env → R XV := fnS m_law_choose (consS (getS 1) (consS (getS 11) nilS))
theorem heavy_ok {K : Int} {d : D} (hp : IsPen K d) (hK : K ≤ 1000) : ∃ d', m_law_heavy_right [.own d] = .ok (.dat (.bl true)) [.own d'] ∧ IsPen (K + 3) d' := by
  obtain ⟨a, d1, e1, a0, a1, p1⟩ := draw_ok (m := 50) hp (by omega) (by decide) (by decide)
  obtain ⟨b, d2, e2, b0, b1, p2⟩ := draw_ok (m := 20) p1 (by omega) (by decide) (by decide)
  obtain ⟨l, hl⟩ : ∃ l : Nat, 2 + a = ((l + 1 : Nat) : Int) := ⟨(1 + a).toNat, by omega⟩
  obtain ⟨h, hh⟩ : ∃ h : Nat, 1 + b = (h : Int) := ⟨(1 + b).toNat, by omega⟩
  obtain ⟨c, d3, e3, c0, c1, p3⟩ := draw_ok (m := ((l + 1 : Nat) : Int)) p2 (by omega) (by omega) (by omega)
  obtain ⟨r, rfl⟩ : ∃ r : Nat, c = r := ⟨c.toNat, by omega⟩
  obtain ⟨q, hq⟩ : ∃ q : Nat, q = h + r := ⟨_, rfl⟩
  have hr : r ≤ l := by omega
  have h1 : 1 ≤ h := by omega
  have hqc : (h : Int) + (r : Int) = (q : Int) := by omega
  refine ⟨d3, ?_, by have : K + 1 + 1 + 1 = K + 3 := by omega
                     rw [← this]; exact p3⟩
  obtain ⟨V, hV⟩ : ∃ V : List Int, V = hws l h := ⟨_, rfl⟩
  have hVn : V.length = l + 2 := by rw [hV]; unfold hws; simp
  have nn : ∀ v ∈ V, 0 ≤ v := by rw [hV]; exact hws_nn
  have s1 : asgT (tupS (consD (op2S addD (constS (.int 2)) (fnS m_law_draw (consS (getS 0) (consS (constS (.int 50)) nilS)))) (consD (op2S addD (constS (.int 1)) (fnS m_law_draw (consS (getS 0) (consS (constS (.int 20)) nilS)))) nilS))) (tupT 2 (consT (nameT 1) (consT (nameT 2) nilT))) [.own d, .un, .un, .un, .un, .un, .un, .un, .un, .un, .un, .un, .un]
      = .ok .nx [.own d2, .dat (.int ((l + 1 : Nat) : Int)), .dat (.int (h : Nat)), .un, .un, .un, .un, .un, .un, .un, .un, .un, .un] := by
    simp [-Int.natCast_add, e1, e2, hl, hh]
  have s2 : asgS 3 (op2S addD (getS 2) (fnS m_law_draw (consS (getS 0) (consS (getS 1) nilS)))) [.own d2, .dat (.int ((l + 1 : Nat) : Int)), .dat (.int (h : Nat)), .un, .un, .un, .un, .un, .un, .un, .un, .un, .un]
      = .ok .nx [.own d3, .dat (.int ((l + 1 : Nat) : Int)), .dat (.int (h : Nat)), .dat (.int (q : Nat)), .un, .un, .un, .un, .un, .un, .un, .un, .un] := by
    simp [-Int.natCast_add, e3, hqc]
  have l1 : 2 ≤ ((l + 1 : Nat) : Int) := by omega
  have l2 : (((l + 1 : Nat) : Int)).natAbs ≤ 1000 := by omega
  have mt : ∀ x : Int, mulD (.tup [.int x]) (.int ((l + 1 : Nat) : Int)) = some (.dat (.tup (List.replicate (l + 1) (D.int x)))) := fun x => by
    rw [s_mulT, if_pos ⟨l1, l2, by simp, rfl⟩, Int.toNat_natCast, rep_flat]
  have at' : ∀ x y : Int, addD (.tup [.int x]) (.tup (List.replicate (l + 1) (D.int y))) = some (.dat (.tup (D.int x :: List.replicate (l + 1) (D.int y)))) := fun x y => by
    rw [s_addT, if_pos (by simp; omega)]; rfl
  have hVm : D.int (h : Nat) :: List.replicate (l + 1) (D.int 1) = V.map .int := by rw [hV]; unfold hws; simp
  have sc := scale_init_ok (ws := V) (q := q) (A := .dat (.tup (V.map .int))) nn (by omega) (by omega) (by omega) (.inr rfl)
  have s3 : asgS 4 (makeS "Scale" m_Scale_init (consS (op2S addD (tupS (consD (getS 2) nilS)) (op2S mulD (tupS (consD (constS (.int 1)) nilS)) (getS 1))) (consS (getS 3) nilS))) [.own d3, .dat (.int ((l + 1 : Nat) : Int)), .dat (.int (h : Nat)), .dat (.int (q : Nat)), .un, .un, .un, .un, .un, .un, .un, .un, .un]
      = .ok .nx [.own d3, .dat (.int ((l + 1 : Nat) : Int)), .dat (.int (h : Nat)), .dat (.int (q : Nat)), .own (scD V q), .un, .un, .un, .un, .un, .un, .un, .un] := by
    simp [-s_mulT, -s_addT, -Int.natCast_add, mt, at', hVm, sc]
  -- some
  obtain ⟨N, hN⟩ : ∃ N : Nat, N = min (q - 1) (l + 1) + 1 - r := ⟨_, rfl⟩
  have lc : lcR [11] (nameT 11) yesT chF (rangeD (r : Int) N) [.own d3, .dat (.int ((l + 1 : Nat) : Int)), .dat (.int (h : Nat)), .dat (.int (q : Nat)), .own (scD V q), .un, .un, .un, .un, .un, .un, .un, .un]
      = .ok (.own (.lst ((List.range N).map fun i => .int (ch (l + 1) ((r : Int) + (i : Nat)))))) [.own d3, .dat (.int ((l + 1 : Nat) : Int)), .dat (.int (h : Nat)), .dat (.int (q : Nat)), .own (scD V q), .un, .un, .un, .un, .un, .un, .un, .un] := by
    rw [rangeD_eq]
    refine (lcR_all (y := fun i => D.int (ch (l + 1) ((r : Int) + (i : Nat)))) rfl (by simp; omega) fun i _ => ⟨_, _, [.own d3, .dat (.int ((l + 1 : Nat) : Int)), .dat (.int (h : Nat)), .dat (.int (q : Nat)), .own (scD V q), .un, .un, .un, .un, .un, .un, .dat (.int ((r : Int) + (i : Nat))), .un], rfl, rfl, ?_, rfl⟩).trans rfl
    unfold chF
    simp [-Int.natCast_add, choose_ok (n := l + 1) (k := (r : Int) + (i : Nat)) (by omega)]
  have x1 : (q : Int) - (h : Int) = (r : Int) := by omega
  have x2 : (if 0 < (r : Int) then (r : Int) else 0) = (r : Int) := by split <;> omega
  have x3 : ((if ((l + 1 : Nat) : Int) < (q : Int) - 1 then ((l + 1 : Nat) : Int) else (q : Int) - 1) + 1 - (r : Int)).toNat = N := by split <;> omega
  have g1 : Rg (r : Int) := Rg.of (by omega) (by omega)
  have g2 : Rg ((if ((l + 1 : Nat) : Int) < (q : Int) - 1 then ((l + 1 : Nat) : Int) else (q : Int) - 1) + 1) := Rg.of (by split <;> omega) (by split <;> omega)
  have sl : rangeI rg2 (consS (callS max2 (consS (constS (.int 0)) (consS (op2S subD (getS 3) (getS 2)) nilS))) (consS (op2S addD (callS min2 (consS (op2S subD (getS 3) (constS (.int 1))) (consS (getS 1) nilS))) (constS (.int 1))) nilS)) [.own d3, .dat (.int ((l + 1 : Nat) : Int)), .dat (.int (h : Nat)), .dat (.int (q : Nat)), .own (scD V q), .un, .un, .un, .un, .un, .un, .un, .un]
      = .ok (rangeD (r : Int) N) [.own d3, .dat (.int ((l + 1 : Nat) : Int)), .dat (.int (h : Nat)), .dat (.int (q : Nat)), .own (scD V q), .un, .un, .un, .un, .un, .un, .un, .un] := by
    simp only [s_rangeI, s_consS, s_opnd, s_call, s_const, s_bind, s_op2, s_getS, s_at0, s_atS, s_app2, s_contD, s_sub, s_nilS, s_appN, s_conts0, s_contsC, s_max2, s_min2, s_addI, x1, gt_iff_lt, x2]
    rw [rg2_ok g1 g2, x3]
  obtain ⟨SM, hSM⟩ : ∃ SM : List D, SM = (List.range N).map fun i => .int (ch (l + 1) ((r : Int) + (i : Nat))) := ⟨_, rfl⟩
  have s4 : asgS 5 (lcS [11] (rangeI rg2 (consS (callS max2 (consS (constS (.int 0)) (consS (op2S subD (getS 3) (getS 2)) nilS))) (consS (op2S addD (callS min2 (consS (op2S subD (getS 3) (constS (.int 1))) (consS (getS 1) nilS))) (constS (.int 1))) nilS))) (nameT 11) yesT chF) [.own d3, .dat (.int ((l + 1 : Nat) : Int)), .dat (.int (h : Nat)), .dat (.int (q : Nat)), .own (scD V q), .un, .un, .un, .un, .un, .un, .un, .un]
      = .ok .nx [.own d3, .dat (.int ((l + 1 : Nat) : Int)), .dat (.int (h : Nat)), .dat (.int (q : Nat)), .own (scD V q), .own (.lst SM), .un, .un, .un, .un, .un, .un, .un] := by
    rw [s_asg, s_lcS, sl, s_bind, lc, ← hSM]; rfl
  have e5 := scale_swings_ok (ws := V) (q := q) nn (by omega) (by omega) (by omega)
  have e7 := scale_pivots_ok (ws := V) (q := q) nn (by omega) (by omega) (by omega)
  have mapV : ∀ f : Int → Int, (V.map fun w => D.int (f w)) = D.int (f h) :: List.replicate (l + 1) (D.int (f 1)) := fun f => by rw [hV]; unfold hws; simp
  rw [mapV] at e5 e7
  obtain ⟨sm, hsm⟩ : ∃ sm : Int, sm = swing q V (h : Int) := ⟨_, rfl⟩
  obtain ⟨on, hon⟩ : ∃ on : Int, on = swing q V 1 := ⟨_, rfl⟩
  rw [← hsm, ← hon] at e5
  have sumSM : sumL [.lst SM] = some (.dat (.int sm)) := by
    rw [hSM, ch_sum, hsm, hV, hv_some hr h1 hq, hN]
  have s5 : asgS 6 (fnS m_scale_swings (consS (getS 4) nilS)) [.own d3, .dat (.int ((l + 1 : Nat) : Int)), .dat (.int (h : Nat)), .dat (.int (q : Nat)), .own (scD V q), .own (.lst SM), .un, .un, .un, .un, .un, .un, .un]
      = .ok .nx [.own d3, .dat (.int ((l + 1 : Nat) : Int)), .dat (.int (h : Nat)), .dat (.int (q : Nat)), .own (scD V q), .own (.lst SM), .dat (.tup (D.int sm :: List.replicate (l + 1) (D.int on))), .un, .un, .un, .un, .un, .un] := by
    simp [-Int.natCast_add, e5]
  have n1 : ((l + 1 : Nat) : Int) - 1 = (l : Int) := by omega
  have ho : ch l ((q : Int) - 1) + ch l ((r : Int) - 1) = on := by rw [hon, hV, hv_swing_light (by omega), x1]
  have s6 : asgS 7 (op2S addD (fnS m_law_choose (consS (op2S subD (getS 1) (constS (.int 1))) (consS (op2S subD (getS 3) (constS (.int 1))) nilS))) (fnS m_law_choose (consS (op2S subD (getS 1) (constS (.int 1))) (consS (op2S subD (op2S subD (getS 3) (getS 2)) (constS (.int 1))) nilS))))
      [.own d3, .dat (.int ((l + 1 : Nat) : Int)), .dat (.int (h : Nat)), .dat (.int (q : Nat)), .own (scD V q), .own (.lst SM), .dat (.tup (D.int sm :: List.replicate (l + 1) (D.int on))), .un, .un, .un, .un, .un, .un]
      = .ok .nx [.own d3, .dat (.int ((l + 1 : Nat) : Int)), .dat (.int (h : Nat)), .dat (.int (q : Nat)), .own (scD V q), .own (.lst SM), .dat (.tup (D.int sm :: List.replicate (l + 1) (D.int on))), .dat (.int on), .un, .un, .un, .un, .un] := by
    simp [-Int.natCast_add, -Int.add_sub_cancel, n1, x1, choose_ok (n := l) (by omega), ho]
  have i2 : ∀ x y : Int, m_law_is 4 [.dat (.tup (D.int x :: List.replicate (l + 1) (D.int y))), .dat (.tup (D.int x :: List.replicate (l + 1) (D.int y)))] = .ok (.dat (.bl true)) [.dat (.tup (D.int x :: List.replicate (l + 1) (D.int y))), .dat (.tup (D.int x :: List.replicate (l + 1) (D.int y)))] := fun x y =>
    is_same (k := 2) (x :: List.replicate (l + 1) y) (by simp; omega) (by simp) (by simp)
  have s7 : truS (fnS (m_law_is 4) (consS (getS 6) (consS (op2S addD (tupS (consD (callS sumL (consS (getS 5) nilS)) nilS)) (op2S mulD (tupS (consD (getS 7) nilS)) (getS 1))) nilS)))
      [.own d3, .dat (.int ((l + 1 : Nat) : Int)), .dat (.int (h : Nat)), .dat (.int (q : Nat)), .own (scD V q), .own (.lst SM), .dat (.tup (D.int sm :: List.replicate (l + 1) (D.int on))), .dat (.int on), .un, .un, .un, .un, .un]
      = .ok true [.own d3, .dat (.int ((l + 1 : Nat) : Int)), .dat (.int (h : Nat)), .dat (.int (q : Nat)), .own (scD V q), .own (.lst SM), .dat (.tup (D.int sm :: List.replicate (l + 1) (D.int on))), .dat (.int on), .un, .un, .un, .un, .un] := by
    simp [-s_mulT, -s_addT, -s_sum, -Int.natCast_add, sumSM, mt, at', i2]
  -- places
  obtain ⟨P, hP⟩ : ∃ P : Int, P = ((min (l + 2) q - r : Nat) : Int) := ⟨_, rfl⟩
  obtain ⟨T, hT⟩ : ∃ T : List SV, T = [.own d3, .dat (.int ((l + 1 : Nat) : Int)), .dat (.int (h : Nat)), .dat (.int (q : Nat)), .own (scD V q), .own (.lst SM), .dat (.tup (D.int sm :: List.replicate (l + 1) (D.int on))), .dat (.int on)] := ⟨_, rfl⟩
  have pc : ∃ PL : List D, (PL.length : Int) = P ∧ lcR [12] (nameT 12) (testS (chainS leD ltD (op2S subD (getS 3) (getS 2)) (getS 12) (getS 3))) (getS 12) (rangeD 0 (l + 2)) [.own d3, .dat (.int ((l + 1 : Nat) : Int)), .dat (.int (h : Nat)), .dat (.int (q : Nat)), .own (scD V q), .own (.lst SM), .dat (.tup (D.int sm :: List.replicate (l + 1) (D.int on))), .dat (.int on), .un, .un, .un, .un, .un]
      = .ok (.own (.lst PL)) [.own d3, .dat (.int ((l + 1 : Nat) : Int)), .dat (.int (h : Nat)), .dat (.int (q : Nat)), .own (scD V q), .own (.lst SM), .dat (.tup (D.int sm :: List.replicate (l + 1) (D.int on))), .dat (.int on), .un, .un, .un, .un, .un] := by
    refine ⟨(List.range (l + 2)).filterMap fun j => if r ≤ j ∧ j < q then some (D.int (0 + (j : Nat))) else none, ?_, ?_⟩
    · rw [len_S (l + 2) (fun j => r ≤ j ∧ j < q) (fun j => D.int (0 + (j : Nat))), hP, S_count (by omega)]
    · rw [rangeD_eq]
      refine (lcR_map (y := fun j => if r ≤ j ∧ j < q then some (D.int (0 + (j : Nat))) else none) rfl (by simp; omega) fun j hj => ⟨_, decide (r ≤ j ∧ j < q), [.own d3, .dat (.int ((l + 1 : Nat) : Int)), .dat (.int (h : Nat)), .dat (.int (q : Nat)), .own (scD V q), .own (.lst SM), .dat (.tup (D.int sm :: List.replicate (l + 1) (D.int on))), .dat (.int on), .un, .un, .un, .un, .dat (.int (0 + (j : Nat)))], rfl, ?_, fun hb => ?_, fun hb => ?_⟩).trans rfl
      · by_cases z : r ≤ j
        · by_cases z2 : j < q <;> simp [-Int.natCast_add, x1, z, z2]
        · simp [-Int.natCast_add, x1, z]
      · exact ⟨_, [.own d3, .dat (.int ((l + 1 : Nat) : Int)), .dat (.int (h : Nat)), .dat (.int (q : Nat)), .own (scD V q), .own (.lst SM), .dat (.tup (D.int sm :: List.replicate (l + 1) (D.int on))), .dat (.int on), .un, .un, .un, .un, .dat (.int (0 + (j : Nat)))], rfl, if_pos (of_decide_eq_true hb), rfl⟩
      · exact ⟨if_neg (of_decide_eq_false hb), rfl⟩
  obtain ⟨PL, pl1, pl2⟩ := pc
  have g3 : Rg (((l + 1 : Nat) : Int) + 1) := Rg.of (by omega) (by omega)
  have x4 : (((l + 1 : Nat) : Int) + 1).toNat = l + 2 := by omega
  have s8 : asgS 8 (callS lenD (consS (lcS [12] (rangeI rg1 (consS (op2S addD (getS 1) (constS (.int 1))) nilS)) (nameT 12) (testS (chainS leD ltD (op2S subD (getS 3) (getS 2)) (getS 12) (getS 3))) (getS 12)) nilS))
      [.own d3, .dat (.int ((l + 1 : Nat) : Int)), .dat (.int (h : Nat)), .dat (.int (q : Nat)), .own (scD V q), .own (.lst SM), .dat (.tup (D.int sm :: List.replicate (l + 1) (D.int on))), .dat (.int on), .un, .un, .un, .un, .un]
      = .ok .nx [.own d3, .dat (.int ((l + 1 : Nat) : Int)), .dat (.int (h : Nat)), .dat (.int (q : Nat)), .own (scD V q), .own (.lst SM), .dat (.tup (D.int sm :: List.replicate (l + 1) (D.int on))), .dat (.int on), .dat (.int P), .un, .un, .un, .un] := by
    simp only [s_asg, s_call, s_consS, s_opnd, s_lcS, s_rangeI, s_op2, s_getS, s_at0, s_atS, s_const, s_bind, s_app2, s_contD, s_addI, s_nilS, rg1_ok g3, x4, pl2, s_appN, s_conts0, s_contsC, s_lenL, pl1, s_store, s_takeD, s_svD]
    rfl
  have P0 : 0 ≤ P := by rw [hP]; omega
  have P1 : P ≤ 100 := by rw [hP]; omega
  have fP : Fit P := Fit.of (by omega) (by omega)
  have fL := fit_fact (n := l + 1) (by omega)
  have t1 := times_ok (n := l + 1) (by omega)
  have t2 := times_ok (n := l + 2) (by omega)
  obtain ⟨ch', hch⟩ : ∃ c : Int, c = (fact (l + 1) : Int) * P := ⟨_, rfl⟩
  have s9 : asgS 9 (op2S mulD (fnS m_law_times (consS (getS 1) nilS)) (getS 8))
      [.own d3, .dat (.int ((l + 1 : Nat) : Int)), .dat (.int (h : Nat)), .dat (.int (q : Nat)), .own (scD V q), .own (.lst SM), .dat (.tup (D.int sm :: List.replicate (l + 1) (D.int on))), .dat (.int on), .dat (.int P), .un, .un, .un, .un]
      = .ok .nx [.own d3, .dat (.int ((l + 1 : Nat) : Int)), .dat (.int (h : Nat)), .dat (.int (q : Nat)), .own (scD V q), .own (.lst SM), .dat (.tup (D.int sm :: List.replicate (l + 1) (D.int on))), .dat (.int on), .dat (.int P), .dat (.int ch'), .un, .un, .un] := by
    simp [-s_mulI, -Int.natCast_add, t1, mulF fL fP, ← hch]
  have x5 : ((l + 1 : Nat) : Int) + 1 = ((l + 2 : Nat) : Int) := by omega
  have s10 : asgS 10 (op2S subD (fnS m_law_times (consS (op2S addD (getS 1) (constS (.int 1))) nilS)) (getS 9))
      [.own d3, .dat (.int ((l + 1 : Nat) : Int)), .dat (.int (h : Nat)), .dat (.int (q : Nat)), .own (scD V q), .own (.lst SM), .dat (.tup (D.int sm :: List.replicate (l + 1) (D.int on))), .dat (.int on), .dat (.int P), .dat (.int ch'), .un, .un, .un]
      = .ok .nx [.own d3, .dat (.int ((l + 1 : Nat) : Int)), .dat (.int (h : Nat)), .dat (.int (q : Nat)), .own (scD V q), .own (.lst SM), .dat (.tup (D.int sm :: List.replicate (l + 1) (D.int on))), .dat (.int on), .dat (.int P), .dat (.int ch'), .dat (.int ((fact (l + 2) : Int) - ch')), .un, .un] := by
    simp only [s_asg, s_op2, s_opnd, s_fn, s_consS, s_getS, s_at0, s_atS, s_const, s_bind, s_app2, s_contD, s_addI, x5, s_nilS]
    simp [-Int.natCast_add, t2]
  have hx : ((l + 1 : Nat) : Int) = (l : Int) + 1 := by omega
  have hlog : ((l + 1 : Nat) : Int).natAbs.log2 < 9000 := by
    rcases log2_lt (x := ((l + 1 : Nat) : Int)) (k := 9000) (Nat.lt_of_lt_of_le (by omega : ((l + 1 : Nat) : Int).natAbs < 2 ^ 20) (Nat.pow_le_pow_right (by decide) (by decide))) with y | y
    · exact y
    · omega
  have fd : fdivD (.int ((fact (l + 2) : Int) - ch')) (.int ((l + 1 : Nat) : Int)) = some (.dat (.int (tot V q 1))) := by
    rw [s_fdiv, if_pos ⟨by omega, hlog⟩, hch, hx, hv_rest, hV, hv_tot_light hr h1 hq, hP]
  have et : tot V q (h : Int) = ch' := by rw [hV, hv_tot_heavy, hv_places h1 hq, hch, hP]
  rw [et] at e7
  have s11 : fnS (m_law_is 4) (consS (fnS m_scale_pivots (consS (getS 4) nilS)) (consS (op2S addD (tupS (consD (getS 9) nilS)) (op2S mulD (tupS (consD (op2S fdivD (getS 10) (getS 1)) nilS)) (getS 1))) nilS))
      [.own d3, .dat (.int ((l + 1 : Nat) : Int)), .dat (.int (h : Nat)), .dat (.int (q : Nat)), .own (scD V q), .own (.lst SM), .dat (.tup (D.int sm :: List.replicate (l + 1) (D.int on))), .dat (.int on), .dat (.int P), .dat (.int ch'), .dat (.int ((fact (l + 2) : Int) - ch')), .un, .un]
      = .ok (.dat (.bl true)) [.own d3, .dat (.int ((l + 1 : Nat) : Int)), .dat (.int (h : Nat)), .dat (.int (q : Nat)), .own (scD V q), .own (.lst SM), .dat (.tup (D.int sm :: List.replicate (l + 1) (D.int on))), .dat (.int on), .dat (.int P), .dat (.int ch'), .dat (.int ((fact (l + 2) : Int) - ch')), .un, .un] := by
    simp [-s_mulT, -s_addT, -s_fdiv, -Int.natCast_add, e7, fd, mt, at', i2]
  show endF 1 _ (seqS _ (seqS _ (seqS _ (seqS (asgS 5 (lcS [11] _ (nameT 11) yesT chF)) (seqS _ (seqS _ (seqS _ (seqS _ (seqS _ (seqS _ (retS _)))))))))) [.own d, .un, .un, .un, .un, .un, .un, .un, .un, .un, .un, .un, .un]) = _
  rw [seq_nx s1, seq_nx s2, seq_nx s3, seq_nx s4, seq_nx s5, seq_nx s6, seq_nx (guard_ok s7), seq_nx s8, seq_nx s9, seq_nx s10]
  rw [s_ret, s11]; rfl
end k23
end DL
namespace DL
open PySem L2
namespace k23
theorem pen_ok (ns : List Int) : ∃ d, m_law_pen [.dat (.rol (ns.map .int))] = .ok (.own d) [.dat (.rol (ns.map .int))] ∧ IsPen 0 d := by
  have step : ∀ d ds ρ, (∃ (td : List Int) (f : Int) (V : SV), (d :: ds) = td.map D.int ∧ 0 ≤ f ∧ f < 2147483648 ∧ ρ = [.dat (.rol (ns.map .int)), .dat (.int f), V]) →
      ∃ ρ1 ρ2, nameT 2 d (forget [2] ρ) = some ρ1 ∧ asgS 1 (op2S modD (callS intL (consS (op2S addD (op2S mulD (getS 1) (constS (.int 47))) (getS 2)) nilS)) (constS (.int 1000000007))) ρ1 = .ok .nx ρ2 ∧ ∃ (td : List Int) (f : Int) (V : SV), ds = td.map D.int ∧ 0 ≤ f ∧ f < 2147483648 ∧ ρ2 = [.dat (.rol (ns.map .int)), .dat (.int f), V] := by
    rintro d ds ρ ⟨td, f, V, h1, f0, f1, rfl⟩
    cases td with
    | nil => cases h1
    | cons c td =>
      rw [List.map_cons] at h1
      cases h1
      have F1 : Fit f := Fit.of (by omega) (by omega)
      have L1 : Fit 47 := Fit.of (by decide) (by decide)
      refine ⟨_, [.dat (.rol (ns.map .int)), .dat (.int ((f * 47 + c) % 1000000007)), .dat (.int c)], rfl, ?_, td, (f * 47 + c) % 1000000007, _, rfl, Int.emod_nonneg _ (by decide), ?_, rfl⟩
      · simp [-s_mulI, mulF F1 L1]
      · have := Int.emod_lt_of_pos (f * 47 + c) (by decide : (0 : Int) < 1000000007)
        omega
  obtain ⟨ρ', e, td, f, V, h1, f0, f1, h3⟩ := forL_ind (fun rest ρ => ∃ (td : List Int) (f : Int) (V : SV), rest = td.map D.int ∧ 0 ≤ f ∧ f < 2147483648 ∧ ρ = [.dat (.rol (ns.map .int)), .dat (.int f), V]) step (ns.map .int) [.dat (.rol (ns.map .int)), .dat (.int 0), .un] ⟨ns, 0, .un, rfl, by decide, by decide, rfl⟩
  rw [h3] at e
  refine ⟨penD (ns.map .int) 0 0 0 f, ?_, ns, 0, 0, 0, f, rfl, by decide, by decide, by decide, by decide, f0, f1⟩
  simp [m_law_pen, b_law_pen, e, penD, penKs]
theorem sum_le {ws : List Int} (h : ∀ v ∈ ws, 0 ≤ v ∧ v < 60) : ws.sum ≤ 60 * ws.length := by
  induction ws with
  | nil => simp
  | cons w ws ih =>
    have h1 := ih fun v hv => h v (List.mem_cons_of_mem _ hv)
    have h2 := h w List.mem_cons_self
    simp; omega
/-- the weights that are drawn -/
theorem draws_ok {a0 : SV} {R8 : List SV} (hR : R8 = [.un, .un, .un, .un, .un]) {K : Int} {d : D} {n : Nat} (hp : IsPen K d) (hK : K ≤ 1000) (hn : n ≤ 100) :
    ∃ (d' : D) (ws : List Int), IsPen (K + n) d' ∧ ws.length = n ∧ (∀ v ∈ ws, 0 ≤ v ∧ v < 60) ∧ lcR [7] (nameT 7) yesT (fnS m_law_draw (consS (getS 1) (consS (constS (.int 60)) nilS))) (rangeD 0 n) [a0, .own d, .un, .un, .un, .un, .un, .un, .un, .un, .un]
      = .ok (.own (.lst (ws.map .int))) [a0, .own d', .un, .un, .un, .un, .un, .un, .un, .un, .un] := by
  have step : ∀ e es acc ρ, (∃ (d : D) (ws : List Int), IsPen (K + ws.length) d ∧ acc = ws.map D.int ∧ (∀ v ∈ ws, 0 ≤ v ∧ v < 60) ∧ (e :: es).length + ws.length = n ∧ ρ = [a0, .own d, .un, .un, .un, .un, .un, .un, .un, .un, .un]) →
      ∃ ρ1 b ρ2, nameT 7 e ρ = some ρ1 ∧ yesT ρ1 = .ok b ρ2 ∧ (b = true → ∃ y ρ3, valS (fnS m_law_draw (consS (getS 1) (consS (constS (.int 60)) nilS))) ρ2 = .ok y ρ3 ∧ acc.length < LIM ∧ ∃ (d : D) (ws : List Int), IsPen (K + ws.length) d ∧ acc ++ [y] = ws.map D.int ∧ (∀ v ∈ ws, 0 ≤ v ∧ v < 60) ∧ es.length + ws.length = n ∧ forget [7] ρ3 = [a0, .own d, .un, .un, .un, .un, .un, .un, .un, .un, .un]) ∧ (b = false → ∃ (d : D) (ws : List Int), IsPen (K + ws.length) d ∧ acc = ws.map D.int ∧ (∀ v ∈ ws, 0 ≤ v ∧ v < 60) ∧ es.length + ws.length = n ∧ forget [7] ρ2 = [a0, .own d, .un, .un, .un, .un, .un, .un, .un, .un, .un]) := by
    rintro e es acc ρ ⟨d, ws, hp, rfl, hw, hl, rfl⟩
    simp at hl
    obtain ⟨v, d', e1, v0, v1, p1⟩ := draw_ok (m := 60) hp (by omega) (by decide) (by decide)
    refine ⟨[a0, .own d, .un, .un, .un, .un, .un, .dat e, .un, .un, .un], true, _, rfl, rfl, fun _ => ⟨.int v, [a0, .own d', .un, .un, .un, .un, .un, .dat e, .un, .un, .un], ?_, by rw [List.length_map]; show _ < 1000000; omega, d', ws ++ [v], ?_, by simp, fun x hx => ?_, by simp; omega, rfl⟩, fun h => by cases h⟩
    · simp [e1]
    · have : K + (ws ++ [v]).length = K + ws.length + 1 := by simp; omega
      rw [this]; exact p1
    · rcases List.mem_append.mp hx with hx | hx
      · exact hw x hx
      · rw [List.mem_singleton.mp hx]; exact ⟨v0, v1⟩
  obtain ⟨out, ρ', e1, d', ws, p, rfl, hw, hl, rfl⟩ := lcL_ind (vs := [7]) (ft := nameT 7) (tt := yesT) (fe := fnS m_law_draw (consS (getS 1) (consS (constS (.int 60)) nilS)))
    (fun rest acc ρ => ∃ (d : D) (ws : List Int), IsPen (K + ws.length) d ∧ acc = ws.map D.int ∧ (∀ v ∈ ws, 0 ≤ v ∧ v < 60) ∧ rest.length + ws.length = n ∧ ρ = [a0, .own d, .un, .un, .un, .un, .un, .un, .un, .un, .un]) step (rangeD 0 n) [] [a0, .own d, .un, .un, .un, .un, .un, .un, .un, .un, .un] ⟨d, [], by simpa using hp, rfl, by simp, by simp [rangeD_len], rfl⟩
  simp at hl
  refine ⟨d', ws, by rw [← hl]; exact p, hl, hw, ?_⟩
  have hc : clear [7] [a0, .own d, .un, .un, .un, .un, .un, .un, .un, .un, .un] = true := rfl
  have hf : forget [7] [a0, .own d, .un, .un, .un, .un, .un, .un, .un, .un, .un] = [a0, .own d, .un, .un, .un, .un, .un, .un, .un, .un, .un] := rfl
  unfold lcR
  rw [if_pos hc, hf, e1]; rfl
theorem sum_filter (p : Int → Prop) [DecidablePred p] (l : Ents) : sumL [.lst (l.filterMap fun x => if p x.1 then some (D.int x.2) else none)] = some (.dat (.int (sumE (fun t => if p t then 1 else 0) l))) := by
    have e : ∀ l : Ents, l.filterMap (fun x => if p x.1 then some (D.int x.2) else none) = (l.filterMap fun x => if p x.1 then some x.2 else none).map D.int := fun l => by
      rw [List.map_filterMap]
      congr 1
      funext x
      split <;> rfl
    rw [s_sum, e, ints_map (f := fun x => x)]
    simp only [Option.map_some, List.map_id']
    congr 3
    induction l with
    | nil => rfl
    | cons x l ih =>
      rw [List.filterMap_cons]
      by_cases h : p x.1
      · simp only [if_pos h, List.sum_cons, sumE, List.map_cons, Int.mul_one] at ih ⊢
        rw [ih]
      · simp only [if_neg h, sumE, List.map_cons, List.sum_cons, Int.mul_zero, Int.zero_add] at ih ⊢
        exact ih
theorem getE_sum (t : Int) : ∀ {l : Ents}, NdE l → (getE t l).getD 0 = sumE (fun x => if x = t then 1 else 0) l
  | [], _ => rfl
  | p :: r, nd => by
    unfold NdE at nd
    rw [List.map_cons, List.nodup_cons] at nd
    have ih := getE_sum t nd.2
    simp only [sumE, List.map_cons, List.sum_cons] at ih ⊢
    rw [getE]
    by_cases h : p.1 = t
    · rw [if_pos h, if_pos h, ← ih, getE_none (by rw [← h]; exact nd.1)]; simp
    · rw [if_neg h, if_neg h, ih, Int.mul_zero, Int.zero_add]
theorem counts_cnt {ws : List Int} {L : Ents} (h : CountsOf ws L) (t : Nat) : (getE (t : Int) L).getD 0 = cnt ws t := by
  rw [getE_sum _ h.nd, h.sum]; rfl
theorem cut_drop {l : List D} {k : Nat} (h : k ≤ l.length) : cutD l (some (k : Int)) none = l.drop k := by
  unfold cutD
  rw [HT.sIx_none, HT.sIx_nat, Nat.min_eq_left h, List.take_of_length_le (by simp)]
end k23
end DL
namespace DL
open PySem L2
namespace k23
/-- counts, walked by its keys: those that p takes -/
theorem keys_lc {b : Env} {L : Ents} {a0 a1 a2 a3 a5 a6 a7 a8 a9 : SV} {tt : Env → R Bool} {p : Int → Prop} [DecidablePred p] (nd : NdE L) (hl : L.length ≤ 1000000)
    (ht : ∀ t : Int, tt [a0, a1, a2, a3, .brw (dctE L), a5, a6, a7, a8, a9, .dat (.int t)] = .ok (decide (p t)) [a0, a1, a2, a3, .brw (dctE L), a5, a6, a7, a8, a9, .dat (.int t)]) :
    keysS 4 (lcR [10] (nameT 10) tt (op2S ixA (getS 4) (getS 10))) [a0, a1, a2, a3, .own (dctE L), a5, a6, a7, a8, a9, .un] = .ok (.own (.lst (L.filterMap fun x => if p x.1 then some (D.int x.2) else none))) [a0, a1, a2, a3, .own (dctE L), a5, a6, a7, a8, a9, .un] := by
  have ek : (L.map fun p => (.inl p.1 : Key)).map keyDat = L.map fun p => D.int p.1 := by rw [List.map_map]; rfl
  have e : lcR [10] (nameT 10) tt (op2S ixA (getS 4) (getS 10)) (L.map fun p => D.int p.1) [a0, a1, a2, a3, .brw (dctE L), a5, a6, a7, a8, a9, .un] = .ok (.own (.lst (L.filterMap fun x => if p x.1 then some (D.int x.2) else none))) [a0, a1, a2, a3, .brw (dctE L), a5, a6, a7, a8, a9, .un] := by
    refine (lcR_map (it := fun p : Int × Int => D.int p.1) (y := fun x : Int × Int => if p x.1 then some (D.int x.2) else none) rfl hl fun x hx => ⟨_, decide (p x.1), [a0, a1, a2, a3, .brw (dctE L), a5, a6, a7, a8, a9, .dat (.int x.1)], rfl, ht x.1, fun hb => ⟨.int x.2, [a0, a1, a2, a3, .brw (dctE L), a5, a6, a7, a8, a9, .dat (.int x.1)], ?_, if_pos (of_decide_eq_true hb), rfl⟩, fun hb => ⟨if_neg (of_decide_eq_false hb), rfl⟩⟩).trans rfl
    have g : getE x.1 L = some x.2 := getE_mem nd hx
    simp [ix_E g]
  show lockBack 4 (dctE L) (lcR [10] (nameT 10) tt (op2S ixA (getS 4) (getS 10)) ((L.map fun p => (.inl p.1 : Key)).map keyDat) [a0, a1, a2, a3, .brw (dctE L), a5, a6, a7, a8, a9, .un]) = _
  rw [ek, e]; rfl
theorem keys_lc8 {L : Ents} {a0 a1 a2 a3 a4 a5 a6 a7 a9 : SV} {tt : Env → R Bool} {p : Int → Prop} [DecidablePred p] (nd : NdE L) (hl : L.length ≤ 1000000)
    (ht : ∀ t : Int, tt [a0, a1, a2, a3, a4, a5, a6, a7, .brw (dctE L), a9, .dat (.int t)] = .ok (decide (p t)) [a0, a1, a2, a3, a4, a5, a6, a7, .brw (dctE L), a9, .dat (.int t)]) :
    keysS 8 (lcR [10] (nameT 10) tt (op2S ixA (getS 8) (getS 10))) [a0, a1, a2, a3, a4, a5, a6, a7, .own (dctE L), a9, .un] = .ok (.own (.lst (L.filterMap fun x => if p x.1 then some (D.int x.2) else none))) [a0, a1, a2, a3, a4, a5, a6, a7, .own (dctE L), a9, .un] := by
  have ek : (L.map fun p => (.inl p.1 : Key)).map keyDat = L.map fun p => D.int p.1 := by rw [List.map_map]; rfl
  have e : lcR [10] (nameT 10) tt (op2S ixA (getS 8) (getS 10)) (L.map fun p => D.int p.1) [a0, a1, a2, a3, a4, a5, a6, a7, .brw (dctE L), a9, .un] = .ok (.own (.lst (L.filterMap fun x => if p x.1 then some (D.int x.2) else none))) [a0, a1, a2, a3, a4, a5, a6, a7, .brw (dctE L), a9, .un] := by
    refine (lcR_map (it := fun p : Int × Int => D.int p.1) (y := fun x : Int × Int => if p x.1 then some (D.int x.2) else none) rfl hl fun x hx => ⟨_, decide (p x.1), [a0, a1, a2, a3, a4, a5, a6, a7, .brw (dctE L), a9, .dat (.int x.1)], rfl, ht x.1, fun hb => ⟨.int x.2, [a0, a1, a2, a3, a4, a5, a6, a7, .brw (dctE L), a9, .dat (.int x.1)], ?_, if_pos (of_decide_eq_true hb), rfl⟩, fun hb => ⟨if_neg (of_decide_eq_false hb), rfl⟩⟩).trans rfl
    have g : getE x.1 L = some x.2 := getE_mem nd hx
    simp [ix_E g]
  show lockBack 8 (dctE L) (lcR [10] (nameT 10) tt (op2S ixA (getS 8) (getS 10)) ((L.map fun p => (.inl p.1 : Key)).map keyDat) [a0, a1, a2, a3, a4, a5, a6, a7, .brw (dctE L), a9, .un]) = _
  rw [ek, e]; rfl
theorem cnt_len {ws : List Int} {L : Ents} (h : CountsOf ws L) (hs : ws.sum < 90000) : L.length ≤ 1000000 := by
  have := nd_len (B := 90000) h.nd fun x hx => by have := h.lo x hx; omega
  rw [List.length_map] at this; omega
theorem counts_lc {L : Ents} {ws : List Int} {a0 a1 a2 a3 a5 a6 a7 a8 a9 : SV} {q : Nat} (h : CountsOf ws L) (hq : q ≤ 10000) :
    lcR [10] (nameT 10) yesT (dget2S (getS 4) (getS 10) (constS (.int 0))) (rangeD 0 q) [a0, a1, a2, a3, .own (dctE L), a5, a6, a7, a8, a9, .un] = .ok (.own (.lst (row q (cnt ws)))) [a0, a1, a2, a3, .own (dctE L), a5, a6, a7, a8, a9, .un] := by
  rw [rangeD_eq]
  refine (lcR_all (y := fun j => D.int (cnt ws j)) rfl (by simp; omega) fun j _ => ⟨_, _, [a0, a1, a2, a3, .own (dctE L), a5, a6, a7, a8, a9, .dat (.int (0 + (j : Nat)))], rfl, rfl, ?_, rfl⟩).trans rfl
  have e : getAt (.slot 4) (.dat (.int (j : Nat))) (.int 0) [a0, a1, a2, a3, .own (dctE L), a5, a6, a7, a8, a9, .dat (.int (0 + (j : Nat)))] = .ok (.dat (.int (cnt ws j))) [a0, a1, a2, a3, .own (dctE L), a5, a6, a7, a8, a9, .dat (.int (0 + (j : Nat)))] := by
    show (R.ok (XV.dat ((dgetD _ _ _).getD _)) _) = _
    rw [get_E, counts_cnt h]
  have z : (0 : Int) + (j : Int) = (j : Int) := by omega
  rw [z] at e ⊢
  simp [e]
theorem law_ok (ns : List Int) : ∃ outs, m_law [.dat (.rol (ns.map .int))] = .ok (.dat (.bl true)) outs := by
  obtain ⟨A, hA⟩ : ∃ A : SV, A = .dat (.rol (ns.map .int)) := ⟨_, rfl⟩
  obtain ⟨d0, e0, p0⟩ := pen_ok ns
  rw [← hA] at e0 ⊢
  obtain ⟨d1, e1, p1⟩ := equal_ok p0 (by decide)
  obtain ⟨d2, e2, p2⟩ := heavy_ok p1 (by decide)
  obtain ⟨c, d3, e3, c0, c1, p3⟩ := draw_ok (m := 40) p2 (by decide) (by decide) (by decide)
  obtain ⟨n, hn⟩ : ∃ n : Nat, 20 + c = (n : Int) := ⟨(20 + c).toNat, by omega⟩
  obtain ⟨d4, ws, p4, wl, wb, e4⟩ := draws_ok (a0 := A) (n := n) rfl p3 (by decide) (by omega)
  have nn : ∀ v ∈ ws, 0 ≤ v := fun v hv => (wb v hv).1
  have sl := sum_le wb
  have s0 := sum_nn nn
  obtain ⟨u, d5, e5, u0, u1, p5⟩ := draw_ok (m := ws.sum + 1) p4 (by omega) (by omega) (by omega)
  obtain ⟨q, hq⟩ : ∃ q : Nat, (if 1500 < 1 + u then 1500 else 1 + u) = (q : Int) := ⟨(if 1500 < 1 + u then 1500 else 1 + u).toNat, by split <;> omega⟩
  have q1 : 1 ≤ q := by split at hq <;> omega
  have q2 : q ≤ 1500 := by split at hq <;> omega
  have sa : asgS 1 (fnS m_law_pen (consS (getS 0) nilS)) [A, .un, .un, .un, .un, .un, .un, .un, .un, .un, .un] = .ok .nx [A, .own d0, .un, .un, .un, .un, .un, .un, .un, .un, .un] := by
    subst hA; simp [e0]
  have sb : iteS (orT (notT (truS (fnS m_law_equal_right (consS (getS 1) nilS)))) (notT (truS (fnS m_law_heavy_right (consS (getS 1) nilS))))) (retS (constS (.bl false))) nextS [A, .own d0, .un, .un, .un, .un, .un, .un, .un, .un, .un] = .ok .nx [A, .own d2, .un, .un, .un, .un, .un, .un, .un, .un, .un] := by
    subst hA; simp [e1, e2]
  have g1 : Rg (n : Int) := Rg.of (by omega) (by omega)
  have sc : asgS 2 (lcS [7] (rangeI rg1 (consS (op2S addD (constS (.int 20)) (fnS m_law_draw (consS (getS 1) (consS (constS (.int 40)) nilS)))) nilS)) (nameT 7) yesT (fnS m_law_draw (consS (getS 1) (consS (constS (.int 60)) nilS)))) [A, .own d2, .un, .un, .un, .un, .un, .un, .un, .un, .un]
      = .ok .nx [A, .own d4, .own (.lst (ws.map .int)), .un, .un, .un, .un, .un, .un, .un, .un] := by
    subst hA; simp [e3, hn, rg1_ok g1, e4]
  have hi : intsD (ws.map D.int) = some ws := by rw [ints_map (f := fun x => x)]; simp
  have sd : asgS 3 (op2S addD (constS (.int 1)) (fnS m_law_draw (consS (getS 1) (consS (op2S addD (callS sumL (consS (getS 2) nilS)) (constS (.int 1))) nilS)))) [A, .own d4, .own (.lst (ws.map .int)), .un, .un, .un, .un, .un, .un, .un, .un]
      = .ok .nx [A, .own d5, .own (.lst (ws.map .int)), .dat (.int (1 + u)), .un, .un, .un, .un, .un, .un, .un] := by
    subst hA; simp [hi, e5]
  have se : asgS 3 (callS min2 (consS (getS 3) (consS (constS (.int 1500)) nilS))) [A, .own d5, .own (.lst (ws.map .int)), .dat (.int (1 + u)), .un, .un, .un, .un, .un, .un, .un]
      = .ok .nx [A, .own d5, .own (.lst (ws.map .int)), .dat (.int (q : Nat)), .un, .un, .un, .un, .un, .un, .un] := by
    simp [hq]
  obtain ⟨L, hL, e6⟩ := sums_ok (X := .own (.lst (ws.map .int))) nn (by omega) (.inl rfl)
  have sf : asgS 4 (fnS m_law_sums (consS (getS 2) nilS)) [A, .own d5, .own (.lst (ws.map .int)), .dat (.int (q : Nat)), .un, .un, .un, .un, .un, .un, .un]
      = .ok .nx [A, .own d5, .own (.lst (ws.map .int)), .dat (.int (q : Nat)), .own (dctE L), .un, .un, .un, .un, .un, .un] := by
    subst hA; simp [e6]
  have e7 := scale_init_ok (ws := ws) (q := q) (A := .own (.lst (ws.map .int))) nn (by omega) (by omega) q1 (.inl rfl)
  have sg : asgS 5 (makeS "Scale" m_Scale_init (consS (getS 2) (consS (getS 3) nilS))) [A, .own d5, .own (.lst (ws.map .int)), .dat (.int (q : Nat)), .own (dctE L), .un, .un, .un, .un, .un, .un]
      = .ok .nx [A, .own d5, .own (.lst (ws.map .int)), .dat (.int (q : Nat)), .own (dctE L), .own (scD ws q), .un, .un, .un, .un, .un] := by
    subst hA; simp [e7]
  have e8 := scale_carrying_ok (ws := ws) (q := q) nn q1 (by omega) (by omega)
  rw [carry_M nn] at e8
  have k1 := keys_lc (L := L) (a0 := A) (a1 := .own d5) (a2 := .own (.lst (ws.map .int))) (a3 := .dat (.int (q : Nat))) (a5 := .own (scD ws q)) (a6 := .un) (a7 := .un) (a8 := .un) (a9 := .un) (tt := testS (op2S geD (getS 10) (getS 3))) (p := fun t => (q : Int) ≤ t) (b := []) hL.nd (cnt_len hL (by omega)) fun t => by simp
  have m1 : sumE (fun t => if (q : Int) ≤ t then 1 else 0) L = M ws (fun _ t => if (q : Int) ≤ t then 1 else 0) := hL.sum _
  have i1 := is_int 3 (M ws (fun _ t => if (q : Int) ≤ t then 1 else 0))
  have sh1 : truS (fnS (m_law_is 4) (consS (fnS m_scale_carrying (consS (getS 5) nilS)) (consS (callS sumL (consS (keysS 4 (lcR [10] (nameT 10) (testS (op2S geD (getS 10) (getS 3))) (op2S ixA (getS 4) (getS 10)))) nilS)) nilS))) [A, .own d5, .own (.lst (ws.map .int)), .dat (.int (q : Nat)), .own (dctE L), .own (scD ws q), .un, .un, .un, .un, .un]
      = .ok true [A, .own d5, .own (.lst (ws.map .int)), .dat (.int (q : Nat)), .own (dctE L), .own (scD ws q), .un, .un, .un, .un, .un] := by
    subst hA; simp [-s_sum, -s_keysS, e8, k1, sum_filter (fun t => (q : Int) ≤ t), m1, i1]
  have e9 := weight_counts_ok (ws := ws) (q := q) nn q1 (by omega)
  have g2 : Rg (q : Int) := Rg.of (by omega) (by omega)
  have k2 := counts_lc (a0 := A) (a1 := .own d5) (a2 := .own (.lst (ws.map .int))) (a3 := .dat (.int (q : Nat))) (a5 := .own (scD ws q)) (a6 := .un) (a7 := .un) (a8 := .un) (a9 := .un) (q := q) hL (by omega)
  have rm : row q (cnt ws) = ((List.range q).map (cnt ws)).map .int := by unfold row; rw [List.map_map]; rfl
  have i2 : m_law_is 4 [.dat (.tup (row q (cnt ws))), .dat (.tup (row q (cnt ws)))] = .ok (.dat (.bl true)) [.dat (.tup (row q (cnt ws))), .dat (.tup (row q (cnt ws)))] := is_same (k := 2) ((List.range q).map (cnt ws)) (by simp; omega) rm rm
  have sh2 : truS (fnS (m_law_is 4) (consS (fnS m_weight_counts (consS (getS 5) nilS)) (consS (callS tupL (consS (lcS [10] (rangeI rg1 (consS (getS 3) nilS)) (nameT 10) yesT (dget2S (getS 4) (getS 10) (constS (.int 0)))) nilS)) nilS))) [A, .own d5, .own (.lst (ws.map .int)), .dat (.int (q : Nat)), .own (dctE L), .own (scD ws q), .un, .un, .un, .un, .un]
      = .ok true [A, .own d5, .own (.lst (ws.map .int)), .dat (.int (q : Nat)), .own (dctE L), .own (scD ws q), .un, .un, .un, .un, .un] := by
    subst hA; simp [e9, rg1_ok g2, k2, i2]
  -- one member's swings
  have e10 := scale_swings_ok (ws := ws) (q := q) nn q1 (by omega) (by omega)
  have si : asgS 6 (fnS m_scale_swings (consS (getS 5) nilS)) [A, .own d5, .own (.lst (ws.map .int)), .dat (.int (q : Nat)), .own (dctE L), .own (scD ws q), .un, .un, .un, .un, .un]
      = .ok .nx [A, .own d5, .own (.lst (ws.map .int)), .dat (.int (q : Nat)), .own (dctE L), .own (scD ws q), .dat (.tup (ws.map fun w => .int (swing q ws w))), .un, .un, .un, .un] := by
    subst hA; simp [e10]
  obtain ⟨v, d6, e11, v0, v1, p6⟩ := draw_ok (m := (ws.length : Int)) p5 (by omega) (by omega) (by omega)
  obtain ⟨i, rfl⟩ : ∃ i : Nat, v = i := ⟨v.toNat, by omega⟩
  have hi' : i < ws.length := by omega
  have sj : asgS 7 (fnS m_law_draw (consS (getS 1) (consS (callS lenD (consS (getS 2) nilS)) nilS))) [A, .own d5, .own (.lst (ws.map .int)), .dat (.int (q : Nat)), .own (dctE L), .own (scD ws q), .dat (.tup (ws.map fun w => .int (swing q ws w))), .un, .un, .un, .un]
      = .ok .nx [A, .own d6, .own (.lst (ws.map .int)), .dat (.int (q : Nat)), .own (dctE L), .own (scD ws q), .dat (.tup (ws.map fun w => .int (swing q ws w))), .dat (.int (i : Nat)), .un, .un, .un] := by
    subst hA; simp [e11]
  obtain ⟨vs, hvs⟩ : ∃ vs : List Int, vs = ws.take i ++ ws.drop (i + 1) := ⟨_, rfl⟩
  have pm : ws.Perm (ws[i] :: vs) := by
    have e : ws = ws.take i ++ ws[i] :: ws.drop (i + 1) := by
      rw [← List.drop_eq_getElem_cons hi', List.take_append_drop]
    rw [hvs]
    exact (List.Perm.of_eq e).trans List.perm_middle
  have vn : ∀ x ∈ vs, 0 ≤ x := fun x hx => nn x (pm.mem_iff.mpr (List.mem_cons_of_mem _ hx))
  have vb : ∀ x ∈ vs, 0 ≤ x ∧ x < 60 := fun x hx => wb x (pm.mem_iff.mpr (List.mem_cons_of_mem _ hx))
  have vsum := sum_le vb
  have vlen : vs.length ≤ ws.length := by have := pm.length_eq; simp at this; omega
  obtain ⟨L2, hL2, e12⟩ := sums_ok (X := .dat (.lst (vs.map .int))) vn (by omega) (.inr rfl)
  have c1' : cutD (ws.map D.int) none (some (i : Int)) = (ws.take i).map .int := by rw [cut_take (by rw [List.length_map]; omega), List.map_take]
  have c2' : cutD (ws.map D.int) (some ((i : Int) + 1)) none = (ws.drop (i + 1)).map .int := by
    rw [show (i : Int) + 1 = ((i + 1 : Nat) : Int) by omega, cut_drop (by rw [List.length_map]; omega), List.map_drop]
  have ll : (ws.take i).length + (ws.drop (i + 1)).length ≤ 1000000 := by simp; omega
  have ad : addD (.lst ((ws.take i).map .int)) (.lst ((ws.drop (i + 1)).map .int)) = some (.own (.lst (vs.map .int))) := by
    rw [s_addL, if_pos (by rw [List.length_map, List.length_map]; exact ll), hvs, List.map_append]
  have sk : asgS 8 (fnS m_law_sums (consS (op2S addD (sliceS (getS 2) noP (someP (getS 7))) (sliceS (getS 2) (someP (op2S addD (getS 7) (constS (.int 1)))) noP)) nilS)) [A, .own d6, .own (.lst (ws.map .int)), .dat (.int (q : Nat)), .own (dctE L), .own (scD ws q), .dat (.tup (ws.map fun w => .int (swing q ws w))), .dat (.int (i : Nat)), .un, .un, .un]
      = .ok .nx [A, .own d6, .own (.lst (ws.map .int)), .dat (.int (q : Nat)), .own (dctE L), .own (scD ws q), .dat (.tup (ws.map fun w => .int (swing q ws w))), .dat (.int (i : Nat)), .own (dctE L2), .un, .un] := by
    subst hA; simp [-s_addL, -List.map_take, -List.map_drop, c1', c2', ad, e12]
  have ai : atI (ws.map D.int) (i : Int) = some (.int ws[i]) := by
    unfold atI ixN
    rw [if_pos (by omega), if_pos (by rw [List.length_map]; omega)]
    simp [hi']
  have ai2 : atI (ws.map fun w => D.int (swing q ws w)) (i : Int) = some (.int (swing q ws ws[i])) := by
    unfold atI ixN
    rw [if_pos (by omega), if_pos (by rw [List.length_map]; omega)]
    simp [hi']
  have k3 := keys_lc8 (L := L2) (a0 := A) (a1 := .own d6) (a2 := .own (.lst (ws.map .int))) (a3 := .dat (.int (q : Nat))) (a4 := .own (dctE L)) (a5 := .own (scD ws q)) (a6 := .dat (.tup (ws.map fun w => .int (swing q ws w)))) (a7 := .dat (.int (i : Nat))) (a9 := .un) (tt := testS (chainS leD ltD (op2S subD (getS 3) (op2S ixA (getS 2) (getS 7))) (getS 10) (getS 3))) (p := fun t => (q : Int) - ws[i] ≤ t ∧ t < (q : Int)) hL2.nd (cnt_len hL2 (by omega)) fun t => by
    by_cases z : (q : Int) - ws[i] ≤ t
    · by_cases z2 : t < (q : Int) <;> simp [ai, z, z2]
    · simp [ai, z]
  have due : sumE (fun t => if (q : Int) - ws[i] ≤ t ∧ t < (q : Int) then 1 else 0) L2 = swing q ws ws[i] := by
    have hm : ws[i] ∈ ws := List.getElem_mem hi'
    have pe : (ws.erase ws[i]).Perm vs := List.Perm.cons_inv ((List.perm_cons_erase hm).symm.trans pm)
    unfold swing
    rw [hL2.sum, win_cnt, M_perm pe]
    refine M_congr vn fun s t _ ht => ?_
    unfold wnd
    by_cases z : (q : Int) - ws[i] ≤ t ∧ t < (q : Int)
    · rw [if_pos z, if_pos ⟨z.1, ht, z.2⟩]
    · rw [if_neg z, if_neg fun y => z ⟨y.1, y.2.2⟩]
  have sm : asgS 9 (callS sumL (consS (keysS 8 (lcR [10] (nameT 10) (testS (chainS leD ltD (op2S subD (getS 3) (op2S ixA (getS 2) (getS 7))) (getS 10) (getS 3))) (op2S ixA (getS 8) (getS 10)))) nilS)) [A, .own d6, .own (.lst (ws.map .int)), .dat (.int (q : Nat)), .own (dctE L), .own (scD ws q), .dat (.tup (ws.map fun w => .int (swing q ws w))), .dat (.int (i : Nat)), .own (dctE L2), .un, .un]
      = .ok .nx [A, .own d6, .own (.lst (ws.map .int)), .dat (.int (q : Nat)), .own (dctE L), .own (scD ws q), .dat (.tup (ws.map fun w => .int (swing q ws w))), .dat (.int (i : Nat)), .own (dctE L2), .dat (.int (swing q ws ws[i])), .un] := by
    simp only [s_asg, s_call, s_consS, s_opnd, k3, s_bind, s_nilS, s_appN, s_conts0, s_contsC, s_contD, sum_filter (fun t => (q : Int) - ws[i] ≤ t ∧ t < (q : Int)), due, s_store, s_takeD, s_svD]
    rfl
  have i3 := is_int 3 (swing q ws ws[i])
  have sn : andS (op2S eqD (callS lenD (consS (getS 6) nilS)) (callS lenD (consS (getS 2) nilS))) (fnS (m_law_is 4) (consS (op2S ixA (getS 6) (getS 7)) (consS (getS 9) nilS))) [A, .own d6, .own (.lst (ws.map .int)), .dat (.int (q : Nat)), .own (dctE L), .own (scD ws q), .dat (.tup (ws.map fun w => .int (swing q ws w))), .dat (.int (i : Nat)), .own (dctE L2), .dat (.int (swing q ws ws[i])), .un]
      = .ok (.dat (.bl true)) [A, .own d6, .own (.lst (ws.map .int)), .dat (.int (q : Nat)), .own (dctE L), .own (scD ws q), .dat (.tup (ws.map fun w => .int (swing q ws w))), .dat (.int (i : Nat)), .own (dctE L2), .dat (.int (swing q ws ws[i])), .un] := by
    simp [ai2, i3]
  have fin : b_law [A, .un, .un, .un, .un, .un, .un, .un, .un, .un, .un] = .ok (.ret (.dat (.bl true))) [A, .own d6, .own (.lst (ws.map .int)), .dat (.int (q : Nat)), .own (dctE L), .own (scD ws q), .dat (.tup (ws.map fun w => .int (swing q ws w))), .dat (.int (i : Nat)), .own (dctE L2), .dat (.int (swing q ws ws[i])), .un] := by
    unfold b_law
    rw [seq_nx sa, seq_nx sb, seq_nx sc, seq_nx sd, seq_nx se, seq_nx sf, seq_nx sg, seq_nx (guard_ok sh1), seq_nx (guard_ok sh2), seq_nx si, seq_nx sj, seq_nx sk, seq_nx sm, s_ret, sn]; rfl
  subst hA
  refine ⟨[.dat (.rol (ns.map .int))], ?_⟩
  show endF 1 _ (b_law [.dat (.rol (ns.map .int)), .un, .un, .un, .un, .un, .un, .un, .un, .un, .un]) = _
  rw [fin]; rfl
end k23
end DL
namespace DL
open PySem L2
theorem cx_false {P : Program} {w : World} {H : Hp} {s s2 : Shared} {e : Value} (h : L2.CX P w [] H s (fun _ _ _ => False) e s2) : False := by
  obtain ⟨_, _, _, _, _, _, _, _, _, _, _, _, hE⟩ := h
  exact hE
/-- the law's start: a list of ints is handed in -/
theorem sp_start {C : Cst} {f : FnM} {H : Hp} {a : Addr} {ns : List Int} (hS : SqL C.K H a (ns.map V.int)) (h : ∃ outs, f [.dat (.rol (ns.map .int))] = .ok (.dat (.bl true)) outs) : spF C 1 f [.ref a] H (fun v _ => v = .bl true) fun _ _ _ => False := by
  obtain ⟨outs, h⟩ := h
  have hd : ∀ l : List Int, IsDs C H (l.map V.int) (l.map D.int) := fun l => by
    induction l with
    | nil => exact .nil
    | cons x l ih => exact .cons (.int x) ih
  refine ⟨⟨fun _ => none, fun _ => False, fun _ _ => False, []⟩, H, [.dat (.rol (ns.map .int))], rfl, ⟨Ge.refl _, fun _ _ e => (by cases e), fun _ q => q.elim, fun _ _ q => q.elim, fun _ q => (by cases q), rfl, fun i => ?_, fun i j b ij k1 => ?_⟩, fun p hp => (by cases hp), fun j b hj => ?_, ?_⟩
  · cases i with
    | zero => exact ⟨_, rfl, .rol hS (hd ns)⟩
    | succ i => rw [s_atS]; exact trivial
  · cases i with
    | zero => cases k1
    | succ i => rw [s_atS] at k1; cases k1
  · cases j with
    | zero => cases hj
    | succ j => rw [s_atS] at hj; cases hj
  · rw [h]
    intro v H' G' _ _ vk _
    cases vk
    rfl
namespace k23
theorem all_mk {l : PySem.W.OpenLaw} {w : World} {K : PySem.W.Frag} {h : Heap} {mg : Str → Option Value} {fa : Addr} (X : K.In h) (G : h.Ns mainGlobals mg) (hfa : mg "law" = some (.ref fa))
    {XScale flaw_is flaw_sums flaw_draw ftaken_out fswings_of fput_in fall_counts fscale_swings fweight_counts fpower fscale_carrying fis_whole fis_number fScale_init flaw_times fout_by_size fput_by_size fscale_pivots flaw_choose flaw_equal_right flaw_heavy_right flaw_pen flaw : Addr}
    {odlaw_is anlaw_is odlaw_sums anlaw_sums odlaw_draw anlaw_draw odtaken_out antaken_out odswings_of answings_of odput_in anput_in odall_counts anall_counts odscale_swings anscale_swings odweight_counts anweight_counts odpower anpower odscale_carrying anscale_carrying odis_whole anis_whole odis_number anis_number odScale_init anScale_init odlaw_times anlaw_times odout_by_size anout_by_size odput_by_size anput_by_size odscale_pivots anscale_pivots odlaw_choose anlaw_choose odlaw_equal_right anlaw_equal_right odlaw_heavy_right anlaw_heavy_right odlaw_pen anlaw_pen odlaw anlaw : Option Addr} {sllaw_is sllaw_sums sllaw_draw sltaken_out slswings_of slput_in slall_counts slscale_swings slweight_counts slpower slscale_carrying slis_whole slis_number slScale_init sllaw_times slout_by_size slput_by_size slscale_pivots sllaw_choose sllaw_equal_right sllaw_heavy_right sllaw_pen sllaw : Array (Option Value)} {oclaw_is kVlaw_is dclaw_is pmlaw_is cdlaw_is ctlaw_is oclaw_sums kVlaw_sums dclaw_sums pmlaw_sums cdlaw_sums ctlaw_sums oclaw_draw kVlaw_draw dclaw_draw pmlaw_draw cdlaw_draw ctlaw_draw octaken_out kVtaken_out dctaken_out pmtaken_out cdtaken_out cttaken_out ocswings_of kVswings_of dcswings_of pmswings_of cdswings_of ctswings_of ocput_in kVput_in dcput_in pmput_in cdput_in ctput_in ocall_counts kVall_counts dcall_counts pmall_counts cdall_counts ctall_counts ocscale_swings kVscale_swings dcscale_swings pmscale_swings cdscale_swings ctscale_swings ocweight_counts kVweight_counts dcweight_counts pmweight_counts cdweight_counts ctweight_counts ocpower kVpower dcpower pmpower cdpower ctpower ocscale_carrying kVscale_carrying dcscale_carrying pmscale_carrying cdscale_carrying ctscale_carrying ocis_whole kVis_whole dcis_whole pmis_whole cdis_whole ctis_whole ocis_number kVis_number dcis_number pmis_number cdis_number ctis_number ocScale_init kVScale_init dcScale_init pmScale_init cdScale_init ctScale_init oclaw_times kVlaw_times dclaw_times pmlaw_times cdlaw_times ctlaw_times ocout_by_size kVout_by_size dcout_by_size pmout_by_size cdout_by_size ctout_by_size ocput_by_size kVput_by_size dcput_by_size pmput_by_size cdput_by_size ctput_by_size ocscale_pivots kVscale_pivots dcscale_pivots pmscale_pivots cdscale_pivots ctscale_pivots oclaw_choose kVlaw_choose dclaw_choose pmlaw_choose cdlaw_choose ctlaw_choose oclaw_equal_right kVlaw_equal_right dclaw_equal_right pmlaw_equal_right cdlaw_equal_right ctlaw_equal_right oclaw_heavy_right kVlaw_heavy_right dclaw_heavy_right pmlaw_heavy_right cdlaw_heavy_right ctlaw_heavy_right oclaw_pen kVlaw_pen dclaw_pen pmlaw_pen cdlaw_pen ctlaw_pen oclaw kVlaw dclaw pmlaw cdlaw ctlaw : Value}
    (xScale : PySem.W.nsIn K mainGlobals "Scale" = some (some (.ref XScale)))
    (alaw_is : PySem.W.nsIn K mainGlobals "_law_is" = some (some (.ref flaw_is)))
    (llaw_is : K.lookup flaw_is = some ⟨oclaw_is, odlaw_is, .func (PySem.W.fnOf "_law_is" "_law_is" (defArgs (top 25)) (defBody (top 25)) (defScope (top 25)) .none kVlaw_is dclaw_is pmlaw_is anlaw_is cdlaw_is ctlaw_is), sllaw_is⟩)
    (claw_is : PySem.W.codeIn K cdlaw_is "_law_is" = true)
    (klaw_is : PySem.W.keepIn K (.ref flaw_is) = true)
    (alaw_sums : PySem.W.nsIn K mainGlobals "_law_sums" = some (some (.ref flaw_sums)))
    (llaw_sums : K.lookup flaw_sums = some ⟨oclaw_sums, odlaw_sums, .func (PySem.W.fnOf "_law_sums" "_law_sums" (defArgs (top 28)) (defBody (top 28)) (defScope (top 28)) .none kVlaw_sums dclaw_sums pmlaw_sums anlaw_sums cdlaw_sums ctlaw_sums), sllaw_sums⟩)
    (claw_sums : PySem.W.codeIn K cdlaw_sums "_law_sums" = true)
    (klaw_sums : PySem.W.keepIn K (.ref flaw_sums) = true)
    (alaw_draw : PySem.W.nsIn K mainGlobals "_law_draw" = some (some (.ref flaw_draw)))
    (llaw_draw : K.lookup flaw_draw = some ⟨oclaw_draw, odlaw_draw, .func (PySem.W.fnOf "_law_draw" "_law_draw" (defArgs (top 24)) (defBody (top 24)) (defScope (top 24)) .none kVlaw_draw dclaw_draw pmlaw_draw anlaw_draw cdlaw_draw ctlaw_draw), sllaw_draw⟩)
    (claw_draw : PySem.W.codeIn K cdlaw_draw "_law_draw" = true)
    (klaw_draw : PySem.W.keepIn K (.ref flaw_draw) = true)
    (ataken_out : PySem.W.nsIn K mainGlobals "taken_out" = some (some (.ref ftaken_out)))
    (ltaken_out : K.lookup ftaken_out = some ⟨octaken_out, odtaken_out, .func (PySem.W.fnOf "taken_out" "taken_out" (defArgs (top 13)) (defBody (top 13)) (defScope (top 13)) .none kVtaken_out dctaken_out pmtaken_out antaken_out cdtaken_out cttaken_out), sltaken_out⟩)
    (ctaken_out : PySem.W.codeIn K cdtaken_out "taken_out" = true)
    (ktaken_out : PySem.W.keepIn K (.ref ftaken_out) = true)
    (aswings_of : PySem.W.nsIn K mainGlobals "swings_of" = some (some (.ref fswings_of)))
    (lswings_of : K.lookup fswings_of = some ⟨ocswings_of, odswings_of, .func (PySem.W.fnOf "swings_of" "swings_of" (defArgs (top 17)) (defBody (top 17)) (defScope (top 17)) .none kVswings_of dcswings_of pmswings_of answings_of cdswings_of ctswings_of), slswings_of⟩)
    (cswings_of : PySem.W.codeIn K cdswings_of "swings_of" = true)
    (kswings_of : PySem.W.keepIn K (.ref fswings_of) = true)
    (aput_in : PySem.W.nsIn K mainGlobals "put_in" = some (some (.ref fput_in)))
    (lput_in : K.lookup fput_in = some ⟨ocput_in, odput_in, .func (PySem.W.fnOf "put_in" "put_in" (defArgs (top 12)) (defBody (top 12)) (defScope (top 12)) .none kVput_in dcput_in pmput_in anput_in cdput_in ctput_in), slput_in⟩)
    (cput_in : PySem.W.codeIn K cdput_in "put_in" = true)
    (kput_in : PySem.W.keepIn K (.ref fput_in) = true)
    (aall_counts : PySem.W.nsIn K mainGlobals "all_counts" = some (some (.ref fall_counts)))
    (lall_counts : K.lookup fall_counts = some ⟨ocall_counts, odall_counts, .func (PySem.W.fnOf "all_counts" "all_counts" (defArgs (top 14)) (defBody (top 14)) (defScope (top 14)) .none kVall_counts dcall_counts pmall_counts anall_counts cdall_counts ctall_counts), slall_counts⟩)
    (call_counts : PySem.W.codeIn K cdall_counts "all_counts" = true)
    (kall_counts : PySem.W.keepIn K (.ref fall_counts) = true)
    (ascale_swings : PySem.W.nsIn K mainGlobals "scale_swings" = some (some (.ref fscale_swings)))
    (lscale_swings : K.lookup fscale_swings = some ⟨ocscale_swings, odscale_swings, .func (PySem.W.fnOf "scale_swings" "scale_swings" (defArgs (top 18)) (defBody (top 18)) (defScope (top 18)) .none kVscale_swings dcscale_swings pmscale_swings anscale_swings cdscale_swings ctscale_swings), slscale_swings⟩)
    (cscale_swings : PySem.W.codeIn K cdscale_swings "scale_swings" = true)
    (kscale_swings : PySem.W.keepIn K (.ref fscale_swings) = true)
    (aweight_counts : PySem.W.nsIn K mainGlobals "weight_counts" = some (some (.ref fweight_counts)))
    (lweight_counts : K.lookup fweight_counts = some ⟨ocweight_counts, odweight_counts, .func (PySem.W.fnOf "weight_counts" "weight_counts" (defArgs (top 15)) (defBody (top 15)) (defScope (top 15)) .none kVweight_counts dcweight_counts pmweight_counts anweight_counts cdweight_counts ctweight_counts), slweight_counts⟩)
    (cweight_counts : PySem.W.codeIn K cdweight_counts "weight_counts" = true)
    (kweight_counts : PySem.W.keepIn K (.ref fweight_counts) = true)
    (apower : PySem.W.nsIn K mainGlobals "power" = some (some (.ref fpower)))
    (lpower : K.lookup fpower = some ⟨ocpower, odpower, .func (PySem.W.fnOf "power" "power" (defArgs (top 9)) (defBody (top 9)) (defScope (top 9)) .none kVpower dcpower pmpower anpower cdpower ctpower), slpower⟩)
    (cpower : PySem.W.codeIn K cdpower "power" = true)
    (kpower : PySem.W.keepIn K (.ref fpower) = true)
    (ascale_carrying : PySem.W.nsIn K mainGlobals "scale_carrying" = some (some (.ref fscale_carrying)))
    (lscale_carrying : K.lookup fscale_carrying = some ⟨ocscale_carrying, odscale_carrying, .func (PySem.W.fnOf "scale_carrying" "scale_carrying" (defArgs (top 16)) (defBody (top 16)) (defScope (top 16)) .none kVscale_carrying dcscale_carrying pmscale_carrying anscale_carrying cdscale_carrying ctscale_carrying), slscale_carrying⟩)
    (cscale_carrying : PySem.W.codeIn K cdscale_carrying "scale_carrying" = true)
    (kscale_carrying : PySem.W.keepIn K (.ref fscale_carrying) = true)
    (ais_whole : PySem.W.nsIn K mainGlobals "is_whole" = some (some (.ref fis_whole)))
    (lis_whole : K.lookup fis_whole = some ⟨ocis_whole, odis_whole, .func (PySem.W.fnOf "is_whole" "is_whole" (defArgs (top 6)) (defBody (top 6)) (defScope (top 6)) .none kVis_whole dcis_whole pmis_whole anis_whole cdis_whole ctis_whole), slis_whole⟩)
    (cis_whole : PySem.W.codeIn K cdis_whole "is_whole" = true)
    (kis_whole : PySem.W.keepIn K (.ref fis_whole) = true)
    (ais_number : PySem.W.nsIn K mainGlobals "is_number" = some (some (.ref fis_number)))
    (lis_number : K.lookup fis_number = some ⟨ocis_number, odis_number, .func (PySem.W.fnOf "is_number" "is_number" (defArgs (top 7)) (defBody (top 7)) (defScope (top 7)) .none kVis_number dcis_number pmis_number anis_number cdis_number ctis_number), slis_number⟩)
    (cis_number : PySem.W.codeIn K cdis_number "is_number" = true)
    (kis_number : PySem.W.keepIn K (.ref fis_number) = true)
    (aScale_init : PySem.W.findIn K (.ref XScale) "__init__" = some (some (.ref fScale_init)))
    (iScale_init : PySem.W.isFn K (.ref fScale_init) = true)
    (lScale_init : K.lookup fScale_init = some ⟨ocScale_init, odScale_init, .func (PySem.W.fnOf "__init__" "Scale.__init__" (defArgs (inClass (top 11) 0)) (defBody (inClass (top 11) 0)) (defScope (inClass (top 11) 0)) .none kVScale_init dcScale_init pmScale_init anScale_init cdScale_init ctScale_init), slScale_init⟩)
    (cScale_init : PySem.W.codeIn K cdScale_init "Scale.__init__" = true)
    (kScale_init : PySem.W.keepIn K (.ref fScale_init) = true)
    (alaw_times : PySem.W.nsIn K mainGlobals "_law_times" = some (some (.ref flaw_times)))
    (llaw_times : K.lookup flaw_times = some ⟨oclaw_times, odlaw_times, .func (PySem.W.fnOf "_law_times" "_law_times" (defArgs (top 26)) (defBody (top 26)) (defScope (top 26)) .none kVlaw_times dclaw_times pmlaw_times anlaw_times cdlaw_times ctlaw_times), sllaw_times⟩)
    (claw_times : PySem.W.codeIn K cdlaw_times "_law_times" = true)
    (klaw_times : PySem.W.keepIn K (.ref flaw_times) = true)
    (aout_by_size : PySem.W.nsIn K mainGlobals "out_by_size" = some (some (.ref fout_by_size)))
    (lout_by_size : K.lookup fout_by_size = some ⟨ocout_by_size, odout_by_size, .func (PySem.W.fnOf "out_by_size" "out_by_size" (defArgs (top 20)) (defBody (top 20)) (defScope (top 20)) .none kVout_by_size dcout_by_size pmout_by_size anout_by_size cdout_by_size ctout_by_size), slout_by_size⟩)
    (cout_by_size : PySem.W.codeIn K cdout_by_size "out_by_size" = true)
    (kout_by_size : PySem.W.keepIn K (.ref fout_by_size) = true)
    (aput_by_size : PySem.W.nsIn K mainGlobals "put_by_size" = some (some (.ref fput_by_size)))
    (lput_by_size : K.lookup fput_by_size = some ⟨ocput_by_size, odput_by_size, .func (PySem.W.fnOf "put_by_size" "put_by_size" (defArgs (top 19)) (defBody (top 19)) (defScope (top 19)) .none kVput_by_size dcput_by_size pmput_by_size anput_by_size cdput_by_size ctput_by_size), slput_by_size⟩)
    (cput_by_size : PySem.W.codeIn K cdput_by_size "put_by_size" = true)
    (kput_by_size : PySem.W.keepIn K (.ref fput_by_size) = true)
    (ascale_pivots : PySem.W.nsIn K mainGlobals "scale_pivots" = some (some (.ref fscale_pivots)))
    (lscale_pivots : K.lookup fscale_pivots = some ⟨ocscale_pivots, odscale_pivots, .func (PySem.W.fnOf "scale_pivots" "scale_pivots" (defArgs (top 21)) (defBody (top 21)) (defScope (top 21)) .none kVscale_pivots dcscale_pivots pmscale_pivots anscale_pivots cdscale_pivots ctscale_pivots), slscale_pivots⟩)
    (cscale_pivots : PySem.W.codeIn K cdscale_pivots "scale_pivots" = true)
    (kscale_pivots : PySem.W.keepIn K (.ref fscale_pivots) = true)
    (alaw_choose : PySem.W.nsIn K mainGlobals "_law_choose" = some (some (.ref flaw_choose)))
    (llaw_choose : K.lookup flaw_choose = some ⟨oclaw_choose, odlaw_choose, .func (PySem.W.fnOf "_law_choose" "_law_choose" (defArgs (top 27)) (defBody (top 27)) (defScope (top 27)) .none kVlaw_choose dclaw_choose pmlaw_choose anlaw_choose cdlaw_choose ctlaw_choose), sllaw_choose⟩)
    (claw_choose : PySem.W.codeIn K cdlaw_choose "_law_choose" = true)
    (klaw_choose : PySem.W.keepIn K (.ref flaw_choose) = true)
    (alaw_equal_right : PySem.W.nsIn K mainGlobals "_law_equal_right" = some (some (.ref flaw_equal_right)))
    (llaw_equal_right : K.lookup flaw_equal_right = some ⟨oclaw_equal_right, odlaw_equal_right, .func (PySem.W.fnOf "_law_equal_right" "_law_equal_right" (defArgs (top 29)) (defBody (top 29)) (defScope (top 29)) .none kVlaw_equal_right dclaw_equal_right pmlaw_equal_right anlaw_equal_right cdlaw_equal_right ctlaw_equal_right), sllaw_equal_right⟩)
    (claw_equal_right : PySem.W.codeIn K cdlaw_equal_right "_law_equal_right" = true)
    (klaw_equal_right : PySem.W.keepIn K (.ref flaw_equal_right) = true)
    (alaw_heavy_right : PySem.W.nsIn K mainGlobals "_law_heavy_right" = some (some (.ref flaw_heavy_right)))
    (llaw_heavy_right : K.lookup flaw_heavy_right = some ⟨oclaw_heavy_right, odlaw_heavy_right, .func (PySem.W.fnOf "_law_heavy_right" "_law_heavy_right" (defArgs (top 30)) (defBody (top 30)) (defScope (top 30)) .none kVlaw_heavy_right dclaw_heavy_right pmlaw_heavy_right anlaw_heavy_right cdlaw_heavy_right ctlaw_heavy_right), sllaw_heavy_right⟩)
    (claw_heavy_right : PySem.W.codeIn K cdlaw_heavy_right "_law_heavy_right" = true)
    (klaw_heavy_right : PySem.W.keepIn K (.ref flaw_heavy_right) = true)
    (alaw_pen : PySem.W.nsIn K mainGlobals "_law_pen" = some (some (.ref flaw_pen)))
    (llaw_pen : K.lookup flaw_pen = some ⟨oclaw_pen, odlaw_pen, .func (PySem.W.fnOf "_law_pen" "_law_pen" (defArgs (top 23)) (defBody (top 23)) (defScope (top 23)) .none kVlaw_pen dclaw_pen pmlaw_pen anlaw_pen cdlaw_pen ctlaw_pen), sllaw_pen⟩)
    (claw_pen : PySem.W.codeIn K cdlaw_pen "_law_pen" = true)
    (klaw_pen : PySem.W.keepIn K (.ref flaw_pen) = true)
    (alaw : PySem.W.nsIn K mainGlobals "law" = some (some (.ref flaw)))
    (llaw : K.lookup flaw = some ⟨oclaw, odlaw, .func (PySem.W.fnOf "law" "law" (defArgs (top 31)) (defBody (top 31)) (defScope (top 31)) .none kVlaw dclaw pmlaw anlaw cdlaw ctlaw), sllaw⟩)
    (claw : PySem.W.codeIn K cdlaw "law" = true)
    (klaw : PySem.W.keepIn K (.ref flaw) = true)
    (pgScale : PySem.W.plainGet K XScale Str.empty = true)
    (hdScale : PySem.W.hasDictIn K XScale = true)
    (poScale : PySem.W.plainOver K XScale = true)
    (saScale : PySem.W.findIn K (.ref XScale) "__setattr__" = some (some (.builtin "object.__setattr__")))
    (mkScale : PySem.W.makesIn K XScale = true)
    (kcScale : PySem.W.keepIn K (.ref XScale) = true)
    (zlen : PySem.W.nsIn K mainGlobals "len" = some none)
    (zisinstance : PySem.W.nsIn K mainGlobals "isinstance" = some none)
    (zint : PySem.W.nsIn K mainGlobals "int" = some none)
    (zbool : PySem.W.nsIn K mainGlobals "bool" = some none)
    (zstr : PySem.W.nsIn K mainGlobals "str" = some none)
    (ztuple : PySem.W.nsIn K mainGlobals "tuple" = some none)
    (zrange : PySem.W.nsIn K mainGlobals "range" = some none)
    (zsum : PySem.W.nsIn K mainGlobals "sum" = some none)
    (nScaleweights : PySem.W.findIn K (.ref XScale) "weights" = some none)
    (zenumerate : PySem.W.nsIn K mainGlobals "enumerate" = some none)
    (zmax : PySem.W.nsIn K mainGlobals "max" = some none)
    (nScalequota : PySem.W.findIn K (.ref XScale) "quota" = some none)
    (zall : PySem.W.nsIn K mainGlobals "all" = some none)
    (zlist : PySem.W.nsIn K mainGlobals "list" = some none)
    (zmin : PySem.W.nsIn K mainGlobals "min" = some none)
    (zzip : PySem.W.nsIn K mainGlobals "zip" = some none)
    (zfactorial : PySem.W.nsIn K mainGlobals "factorial" = some (some (.builtin "math.factorial")))
    : ∃ fd : FuncData, (∀ (s : Shared) (v : Value), BindsTo s fd ⟨[v], []⟩ [("script", v)]) ∧ ∀ base : Heap, K.In base → base.Ns mainGlobals mg → FnOk l.prog w K mg base (L2.CX l.prog w) 7 fa fd ["script"] (spF ⟨K, fun _ => XScale⟩ 1 m_law) := by
  have e := hfa.symm.trans (PySem.W.mg_of X G alaw)
  cases e
  have Flaw_is := fun_mk (st := (top 25)) llaw_is claw_is klaw_is
  have blaw_is := Flaw_is.binds (ps := ["told", "due"]) fun _ _ _ _ _ _ us hl => match us, hl with | [_, _], _ => rfl
  have Flaw_sums := fun_mk (st := (top 28)) llaw_sums claw_sums klaw_sums
  have blaw_sums := Flaw_sums.binds (ps := ["weights"]) fun _ _ _ _ _ _ us hl => match us, hl with | [_], _ => rfl
  have Flaw_draw := fun_mk (st := (top 24)) llaw_draw claw_draw klaw_draw
  have blaw_draw := Flaw_draw.binds (ps := ["pen", "many"]) fun _ _ _ _ _ _ us hl => match us, hl with | [_, _], _ => rfl
  have Ftaken_out := fun_mk (st := (top 13)) ltaken_out ctaken_out ktaken_out
  have btaken_out := Ftaken_out.binds (ps := ["row", "weight"]) fun _ _ _ _ _ _ us hl => match us, hl with | [_, _], _ => rfl
  have Fswings_of := fun_mk (st := (top 17)) lswings_of cswings_of kswings_of
  have bswings_of := Fswings_of.binds (ps := ["row", "weight"]) fun _ _ _ _ _ _ us hl => match us, hl with | [_, _], _ => rfl
  have Fput_in := fun_mk (st := (top 12)) lput_in cput_in kput_in
  have bput_in := Fput_in.binds (ps := ["row", "weight"]) fun _ _ _ _ _ _ us hl => match us, hl with | [_, _], _ => rfl
  have Fall_counts := fun_mk (st := (top 14)) lall_counts call_counts kall_counts
  have ball_counts := Fall_counts.binds (ps := ["scale"]) fun _ _ _ _ _ _ us hl => match us, hl with | [_], _ => rfl
  have Fscale_swings := fun_mk (st := (top 18)) lscale_swings cscale_swings kscale_swings
  have bscale_swings := Fscale_swings.binds (ps := ["scale"]) fun _ _ _ _ _ _ us hl => match us, hl with | [_], _ => rfl
  have Fweight_counts := fun_mk (st := (top 15)) lweight_counts cweight_counts kweight_counts
  have bweight_counts := Fweight_counts.binds (ps := ["scale"]) fun _ _ _ _ _ _ us hl => match us, hl with | [_], _ => rfl
  have Fpower := fun_mk (st := (top 9)) lpower cpower kpower
  have bpower := Fpower.binds (ps := ["number", "often"]) fun _ _ _ _ _ _ us hl => match us, hl with | [_, _], _ => rfl
  have Fscale_carrying := fun_mk (st := (top 16)) lscale_carrying cscale_carrying kscale_carrying
  have bscale_carrying := Fscale_carrying.binds (ps := ["scale"]) fun _ _ _ _ _ _ us hl => match us, hl with | [_], _ => rfl
  have Fis_whole := fun_mk (st := (top 6)) lis_whole cis_whole kis_whole
  have bis_whole := Fis_whole.binds (ps := ["value"]) fun _ _ _ _ _ _ us hl => match us, hl with | [_], _ => rfl
  have Fis_number := fun_mk (st := (top 7)) lis_number cis_number kis_number
  have bis_number := Fis_number.binds (ps := ["value"]) fun _ _ _ _ _ _ us hl => match us, hl with | [_], _ => rfl
  have FScale_init := fun_mk (st := (inClass (top 11) 0)) lScale_init cScale_init kScale_init
  have bScale_init := FScale_init.binds (ps := ["self", "weights", "quota"]) fun _ _ _ _ _ _ us hl => match us, hl with | [_, _, _], _ => rfl
  have Flaw_times := fun_mk (st := (top 26)) llaw_times claw_times klaw_times
  have blaw_times := Flaw_times.binds (ps := ["many"]) fun _ _ _ _ _ _ us hl => match us, hl with | [_], _ => rfl
  have Fout_by_size := fun_mk (st := (top 20)) lout_by_size cout_by_size kout_by_size
  have bout_by_size := Fout_by_size.binds (ps := ["rows", "weight"]) fun _ _ _ _ _ _ us hl => match us, hl with | [_, _], _ => rfl
  have Fput_by_size := fun_mk (st := (top 19)) lput_by_size cput_by_size kput_by_size
  have bput_by_size := Fput_by_size.binds (ps := ["rows", "weight"]) fun _ _ _ _ _ _ us hl => match us, hl with | [_, _], _ => rfl
  have Fscale_pivots := fun_mk (st := (top 21)) lscale_pivots cscale_pivots kscale_pivots
  have bscale_pivots := Fscale_pivots.binds (ps := ["scale"]) fun _ _ _ _ _ _ us hl => match us, hl with | [_], _ => rfl
  have Flaw_choose := fun_mk (st := (top 27)) llaw_choose claw_choose klaw_choose
  have blaw_choose := Flaw_choose.binds (ps := ["many", "some"]) fun _ _ _ _ _ _ us hl => match us, hl with | [_, _], _ => rfl
  have Flaw_equal_right := fun_mk (st := (top 29)) llaw_equal_right claw_equal_right klaw_equal_right
  have blaw_equal_right := Flaw_equal_right.binds (ps := ["pen"]) fun _ _ _ _ _ _ us hl => match us, hl with | [_], _ => rfl
  have Flaw_heavy_right := fun_mk (st := (top 30)) llaw_heavy_right claw_heavy_right klaw_heavy_right
  have blaw_heavy_right := Flaw_heavy_right.binds (ps := ["pen"]) fun _ _ _ _ _ _ us hl => match us, hl with | [_], _ => rfl
  have Flaw_pen := fun_mk (st := (top 23)) llaw_pen claw_pen klaw_pen
  have blaw_pen := Flaw_pen.binds (ps := ["script"]) fun _ _ _ _ _ _ us hl => match us, hl with | [_], _ => rfl
  have Flaw := fun_mk (st := (top 31)) llaw claw klaw
  have blaw := Flaw.binds (ps := ["script"]) fun _ _ _ _ _ _ us hl => match us, hl with | [_], _ => rfl
  refine ⟨PySem.W.fnOf "law" "law" (defArgs (top 31)) (defBody (top 31)) (defScope (top 31)) .none kVlaw dclaw pmlaw anlaw cdlaw ctlaw, fun s v => .of_eq rfl, fun base _ _ => ?_⟩
  exact ok_law (C := ⟨K, fun _ => XScale⟩) {
    z_len := PySem.W.mg_none_of X G zlen,
    z_isinstance := PySem.W.mg_none_of X G zisinstance,
    z_int := PySem.W.mg_none_of X G zint,
    z_bool := PySem.W.mg_none_of X G zbool,
    z_str := PySem.W.mg_none_of X G zstr,
    z_tuple := PySem.W.mg_none_of X G ztuple,
    z_range := PySem.W.mg_none_of X G zrange,
    m_law_is := PySem.W.mg_of X G alaw_is,
    a_law_is := _,
    fd_law_is := _,
    F_law_is := Flaw_is,
    b_law_is := blaw_is,
    z_sum := PySem.W.mg_none_of X G zsum,
    m_law_sums := PySem.W.mg_of X G alaw_sums,
    a_law_sums := _,
    fd_law_sums := _,
    F_law_sums := Flaw_sums,
    b_law_sums := blaw_sums,
    m_law_draw := PySem.W.mg_of X G alaw_draw,
    a_law_draw := _,
    fd_law_draw := _,
    F_law_draw := Flaw_draw,
    b_law_draw := blaw_draw,
    n_weights := fun c hc => by rw [List.mem_singleton.mp hc]; exact ⟨⟨pgScale, hdScale, poScale, saScale⟩, nScaleweights⟩,
    z_enumerate := PySem.W.mg_none_of X G zenumerate,
    m_taken_out := PySem.W.mg_of X G ataken_out,
    a_taken_out := _,
    fd_taken_out := _,
    F_taken_out := Ftaken_out,
    b_taken_out := btaken_out,
    z_max := PySem.W.mg_none_of X G zmax,
    m_swings_of := PySem.W.mg_of X G aswings_of,
    a_swings_of := _,
    fd_swings_of := _,
    F_swings_of := Fswings_of,
    b_swings_of := bswings_of,
    m_put_in := PySem.W.mg_of X G aput_in,
    a_put_in := _,
    fd_put_in := _,
    F_put_in := Fput_in,
    b_put_in := bput_in,
    n_quota := fun c hc => by rw [List.mem_singleton.mp hc]; exact ⟨⟨pgScale, hdScale, poScale, saScale⟩, nScalequota⟩,
    m_all_counts := PySem.W.mg_of X G aall_counts,
    a_all_counts := _,
    fd_all_counts := _,
    F_all_counts := Fall_counts,
    b_all_counts := ball_counts,
    m_scale_swings := PySem.W.mg_of X G ascale_swings,
    a_scale_swings := _,
    fd_scale_swings := _,
    F_scale_swings := Fscale_swings,
    b_scale_swings := bscale_swings,
    m_weight_counts := PySem.W.mg_of X G aweight_counts,
    a_weight_counts := _,
    fd_weight_counts := _,
    F_weight_counts := Fweight_counts,
    b_weight_counts := bweight_counts,
    m_power := PySem.W.mg_of X G apower,
    a_power := _,
    fd_power := _,
    F_power := Fpower,
    b_power := bpower,
    m_scale_carrying := PySem.W.mg_of X G ascale_carrying,
    a_scale_carrying := _,
    fd_scale_carrying := _,
    F_scale_carrying := Fscale_carrying,
    b_scale_carrying := bscale_carrying,
    m_is_whole := PySem.W.mg_of X G ais_whole,
    a_is_whole := _,
    fd_is_whole := _,
    F_is_whole := Fis_whole,
    b_is_whole := bis_whole,
    m_is_number := PySem.W.mg_of X G ais_number,
    a_is_number := _,
    fd_is_number := _,
    F_is_number := Fis_number,
    b_is_number := bis_number,
    z_all := PySem.W.mg_none_of X G zall,
    z_list := PySem.W.mg_none_of X G zlist,
    a_Scale_init := _,
    fd_Scale_init := _,
    F_Scale_init := FScale_init,
    b_Scale_init := bScale_init,
    M_Scale := ⟨mkScale, aScale_init, iScale_init, kcScale⟩,
    m_Scale := PySem.W.mg_of X G xScale,
    z_min := PySem.W.mg_none_of X G zmin,
    m_law_times := PySem.W.mg_of X G alaw_times,
    a_law_times := _,
    fd_law_times := _,
    F_law_times := Flaw_times,
    b_law_times := blaw_times,
    z_zip := PySem.W.mg_none_of X G zzip,
    m_out_by_size := PySem.W.mg_of X G aout_by_size,
    a_out_by_size := _,
    fd_out_by_size := _,
    F_out_by_size := Fout_by_size,
    b_out_by_size := bout_by_size,
    z_factorial := PySem.W.mg_of X G zfactorial,
    m_put_by_size := PySem.W.mg_of X G aput_by_size,
    a_put_by_size := _,
    fd_put_by_size := _,
    F_put_by_size := Fput_by_size,
    b_put_by_size := bput_by_size,
    m_scale_pivots := PySem.W.mg_of X G ascale_pivots,
    a_scale_pivots := _,
    fd_scale_pivots := _,
    F_scale_pivots := Fscale_pivots,
    b_scale_pivots := bscale_pivots,
    m_law_choose := PySem.W.mg_of X G alaw_choose,
    a_law_choose := _,
    fd_law_choose := _,
    F_law_choose := Flaw_choose,
    b_law_choose := blaw_choose,
    m_law_equal_right := PySem.W.mg_of X G alaw_equal_right,
    a_law_equal_right := _,
    fd_law_equal_right := _,
    F_law_equal_right := Flaw_equal_right,
    b_law_equal_right := blaw_equal_right,
    m_law_heavy_right := PySem.W.mg_of X G alaw_heavy_right,
    a_law_heavy_right := _,
    fd_law_heavy_right := _,
    F_law_heavy_right := Flaw_heavy_right,
    b_law_heavy_right := blaw_heavy_right,
    m_law_pen := PySem.W.mg_of X G alaw_pen,
    a_law_pen := _,
    fd_law_pen := _,
    F_law_pen := Flaw_pen,
    b_law_pen := blaw_pen,
    m_law := PySem.W.mg_of X G alaw,
    a_law := _,
    fd_law := _,
    F_law := Flaw,
    b_law := blaw }
theorem walk {l : PySem.W.OpenLaw} {q : Program} {loose : List Str} {XP : (Str → Option Value) → Heap → Prop} {YP : World → Heap → Prop} {d : DefRec} {K : Params → PySem.W.Frag} {CA : World → String → Addr} (hn : l.most = some 63) (hdf : d.params.defaults = [])
    (hY : ∀ (w : World) (h : Heap), YP w h → (K w.params).In h)
    (F : ∀ (w : World) (mg : Str → Option Value) (fa : Addr) (h : Heap), (K w.params).In h → h.Ns mainGlobals mg → mg d.name = some (.ref fa) →
      ∃ fd : FuncData, (∀ (s : Shared) (u : Value), BindsTo s fd ⟨[u], []⟩ [("script", u)]) ∧ ∀ base : Heap, (K w.params).In base → base.Ns mainGlobals mg → FnOk l.prog w (K w.params) mg base (L2.CX l.prog w) 7 fa fd ["script"] (spF ⟨K w.params, CA w⟩ 1 m_law)) :
    PySem.W.WalkO q loose XP YP l.row.toRowW d [] (fun f vs => PySem.call f vs) :=
  L2.walk_of (n := 63) (k := 7) (x := "script") (CX := fun w => L2.CX l.prog w) (sp := fun w => spF ⟨K w.params, CA w⟩ 1 m_law) hn (by decide) hdf ⟨rfl, by decide, by decide⟩ hY F (fun w H a ns hl _ hS => sp_start hS (law_ok ns)) fun w H s e s2 h => cx_false h
end k23
end DL
open PySem PySem.W PyProof.Rows
set_option maxRecDepth 100000 in
set_option maxHeartbeats 0 in
theorem PySem.Challenge.cw_weighortrade_k23_great_scales_holds : PySem.Challenge.rw_weighortrade_k23_great_scales.Holds := by
  w_on; o_law; k_head; (case hw => w_witness2)
  k_fill
  refine DL.k23.walk (l := PySem.Challenge.rw_weighortrade_k23_great_scales) (CA := ?CA) rfl rfl (fun w h Y => PySem.W.kIn_of Y) ?F
  case F =>
    intro w mg fa h KX G hmg
    refine' DL.k23.all_mk KX G hmg ?xScale ?alaw_is ?llaw_is ?claw_is ?klaw_is ?alaw_sums ?llaw_sums ?claw_sums ?klaw_sums ?alaw_draw ?llaw_draw ?claw_draw ?klaw_draw ?ataken_out ?ltaken_out ?ctaken_out ?ktaken_out ?aswings_of ?lswings_of ?cswings_of ?kswings_of ?aput_in ?lput_in ?cput_in ?kput_in ?aall_counts ?lall_counts ?call_counts ?kall_counts ?ascale_swings ?lscale_swings ?cscale_swings ?kscale_swings ?aweight_counts ?lweight_counts ?cweight_counts ?kweight_counts ?apower ?lpower ?cpower ?kpower ?ascale_carrying ?lscale_carrying ?cscale_carrying ?kscale_carrying ?ais_whole ?lis_whole ?cis_whole ?kis_whole ?ais_number ?lis_number ?cis_number ?kis_number ?aScale_init ?iScale_init ?lScale_init ?cScale_init ?kScale_init ?alaw_times ?llaw_times ?claw_times ?klaw_times ?aout_by_size ?lout_by_size ?cout_by_size ?kout_by_size ?aput_by_size ?lput_by_size ?cput_by_size ?kput_by_size ?ascale_pivots ?lscale_pivots ?cscale_pivots ?kscale_pivots ?alaw_choose ?llaw_choose ?claw_choose ?klaw_choose ?alaw_equal_right ?llaw_equal_right ?claw_equal_right ?klaw_equal_right ?alaw_heavy_right ?llaw_heavy_right ?claw_heavy_right ?klaw_heavy_right ?alaw_pen ?llaw_pen ?claw_pen ?klaw_pen ?alaw ?llaw ?claw ?klaw ?pgScale ?hdScale ?poScale ?saScale ?mkScale ?kcScale ?zlen ?zisinstance ?zint ?zbool ?zstr ?ztuple ?zrange ?zsum ?nScaleweights ?zenumerate ?zmax ?nScalequota ?zall ?zlist ?zmin ?zzip ?zfactorial
    (case xScale => k_is)
    (case alaw_is => k_is)
    (case llaw_is => k_is)
    (case claw_is => k_is)
    (case klaw_is => k_is)
    (case alaw_sums => k_is)
    (case llaw_sums => k_is)
    (case claw_sums => k_is)
    (case klaw_sums => k_is)
    (case alaw_draw => k_is)
    (case llaw_draw => k_is)
    (case claw_draw => k_is)
    (case klaw_draw => k_is)
    (case ataken_out => k_is)
    (case ltaken_out => k_is)
    (case ctaken_out => k_is)
    (case ktaken_out => k_is)
    (case aswings_of => k_is)
    (case lswings_of => k_is)
    (case cswings_of => k_is)
    (case kswings_of => k_is)
    (case aput_in => k_is)
    (case lput_in => k_is)
    (case cput_in => k_is)
    (case kput_in => k_is)
    (case aall_counts => k_is)
    (case lall_counts => k_is)
    (case call_counts => k_is)
    (case kall_counts => k_is)
    (case ascale_swings => k_is)
    (case lscale_swings => k_is)
    (case cscale_swings => k_is)
    (case kscale_swings => k_is)
    (case aweight_counts => k_is)
    (case lweight_counts => k_is)
    (case cweight_counts => k_is)
    (case kweight_counts => k_is)
    (case apower => k_is)
    (case lpower => k_is)
    (case cpower => k_is)
    (case kpower => k_is)
    (case ascale_carrying => k_is)
    (case lscale_carrying => k_is)
    (case cscale_carrying => k_is)
    (case kscale_carrying => k_is)
    (case ais_whole => k_is)
    (case lis_whole => k_is)
    (case cis_whole => k_is)
    (case kis_whole => k_is)
    (case ais_number => k_is)
    (case lis_number => k_is)
    (case cis_number => k_is)
    (case kis_number => k_is)
    (case aScale_init => k_is)
    (case iScale_init => k_is)
    (case lScale_init => k_is)
    (case cScale_init => k_is)
    (case kScale_init => k_is)
    (case alaw_times => k_is)
    (case llaw_times => k_is)
    (case claw_times => k_is)
    (case klaw_times => k_is)
    (case aout_by_size => k_is)
    (case lout_by_size => k_is)
    (case cout_by_size => k_is)
    (case kout_by_size => k_is)
    (case aput_by_size => k_is)
    (case lput_by_size => k_is)
    (case cput_by_size => k_is)
    (case kput_by_size => k_is)
    (case ascale_pivots => k_is)
    (case lscale_pivots => k_is)
    (case cscale_pivots => k_is)
    (case kscale_pivots => k_is)
    (case alaw_choose => k_is)
    (case llaw_choose => k_is)
    (case claw_choose => k_is)
    (case klaw_choose => k_is)
    (case alaw_equal_right => k_is)
    (case llaw_equal_right => k_is)
    (case claw_equal_right => k_is)
    (case klaw_equal_right => k_is)
    (case alaw_heavy_right => k_is)
    (case llaw_heavy_right => k_is)
    (case claw_heavy_right => k_is)
    (case klaw_heavy_right => k_is)
    (case alaw_pen => k_is)
    (case llaw_pen => k_is)
    (case claw_pen => k_is)
    (case klaw_pen => k_is)
    (case alaw => k_is)
    (case llaw => k_is)
    (case claw => k_is)
    (case klaw => k_is)
    (case pgScale => k_is)
    (case hdScale => k_is)
    (case poScale => k_is)
    (case saScale => k_is)
    (case mkScale => k_is)
    (case kcScale => k_is)
    (case zlen => k_is)
    (case zisinstance => k_is)
    (case zint => k_is)
    (case zbool => k_is)
    (case zstr => k_is)
    (case ztuple => k_is)
    (case zrange => k_is)
    (case zsum => k_is)
    (case nScaleweights => k_is)
    (case zenumerate => k_is)
    (case zmax => k_is)
    (case nScalequota => k_is)
    (case zall => k_is)
    (case zlist => k_is)
    (case zmin => k_is)
    (case zzip => k_is)
    (case zfactorial => k_is)
