import PyProof.Rows.All
import Wide.All
import OpenK.AllK
import Wide.FinOn
import HandS.ForMost
import HandS.ForExc
import HandS.CallSlots
import HandS.Walk
import HandS.TupAny
import HandS.Deep
import HandS.IsInst
import HandS.Star
import HandS.Wide
import HandS.Zip
import HandS.Nested
import HandS.Gcd
import KE.KMathGC
import HandS.TupMul
import HandS.ExcInit
import HandS.ClsMeth
import KE.SortKeyed
import KE.SortData
import HandS.Slots
import HandS.OwnEq
import HandS.HeadWalk
import HandS.Conv
import KE.KTupSum
import PySem.Challenge.RW_weighortrade_k03_whole_dual_books
set_option Elab.async false
set_option linter.all false
set_option maxRecDepth 100000
set_option maxHeartbeats 4000000
namespace DL
open PySem L2

/-! ## data -/
inductive D where
  | non | bl (b : Bool) | int (i : Int) | str (s : Str)
  | tup (l : List D) | lst (l : List D)
  /-- a list that is read alone (the script) -/
  | rol (l : List D)
  | dct (ks : List Key) (vs : List D)
  | ins (c : String) (ns : List Str) (vs : List D)
  /-- a value of which nothing is told -/
  | opq

/-- a lambda of the text: its full name, its words, its parameters, the names that it captures -/
structure LamI where
  q : Str
  params : Arguments
  body : Expr
  scope : Scope
  ps : List Str
  fr : List Str
abbrev lamObj (L : LamI) (cl : List (Str × Addr)) (pm : Value) (c : Addr) (ctv : Value) : Obj := PySem.W.kla_obj "<lambda>" L.q L.params L.body L.scope cl pm c ctv
/-- anything -/
def xTrue : HO := .ext fun _ => True
/-- the constants of the text: where a class stands -/
structure Cst where
  K : PySem.W.Frag
  CA : String → Addr
  /-- tables of code objects (of the defs that hold lambdas), each with its lambdas' full name -/
  T : List (Addr × Str)
  L : Nat → LamI

mutual
inductive IsD (C : Cst) (H : Hp) : V → D → Prop
  | non : IsD C H .non .non
  | bl (b : Bool) : IsD C H (.bl b) (.bl b)
  | int (i : Int) : IsD C H (.int i) (.int i)
  | str (s : Str) : IsD C H (.str s) (.str s)
  | opq (v : V) : IsD C H v .opq
  | tup {a : Addr} {xs : List V} {ds : List D} : SqT C.K H a xs → IsDs C H xs ds → IsD C H (.ref a) (.tup ds)
  | lst {a : Addr} {xs : List V} {ds : List D} : H a = some (.lst xs) → IsDs C H xs ds → IsD C H (.ref a) (.lst ds)
  | rol {a : Addr} {xs : List V} {ds : List D} : SqL C.K H a xs → IsDs C H xs ds → IsD C H (.ref a) (.rol ds)
  | dct {a : Addr} {kvs : List (Key × V)} {ks : List Key} {vs : List D} : Rd H a (.dK kvs) → kvs.map Prod.fst = ks → IsDs C H (kvs.map Prod.snd) vs → IsD C H (.ref a) (.dct ks vs)
  | ins {a dx : Addr} {c : String} {fs : List (Str × V)} {ns : List Str} {vs : List D} : H a = some (.ins (C.CA c) dx fs) → fs.map Prod.fst = ns → IsDs C H (fs.map Prod.snd) vs → IsD C H (.ref a) (.ins c ns vs)
inductive IsDs (C : Cst) (H : Hp) : List V → List D → Prop
  | nil : IsDs C H [] []
  | cons {v : V} {vs : List V} {d : D} {ds : List D} : IsD C H v d → IsDs C H vs ds → IsDs C H (v :: vs) (d :: ds)
end

/-- G is part of H -/
def Ge (G H : Hp) : Prop := ∀ a o, G a = some o → H a = some o
theorem Ge.refl (G : Hp) : Ge G G := fun _ _ h => h
theorem Ge.trans {G H I : Hp} (a : Ge G H) (b : Ge H I) : Ge G I := fun x o h => b x o (a x o h)
theorem Ge.upd {G : Hp} {p : Addr} {o : HO} (h : G p = none) : Ge G (upd G p o) := fun a u e => by
  rw [upd_ne (ne_of_none e h)]; exact e
theorem Ge.rd {G H : Hp} {a : Addr} {u : HO} (g : Ge G H) (h : Rd G a u) : Rd H a u := by
  rcases h with h | ⟨o, h⟩
  · exact .inl (g _ _ h)
  · exact .inr ⟨o, g _ _ h⟩
theorem Ge.sqL {K : PySem.W.Frag} {G H : Hp} {a : Addr} {xs : List V} (g : Ge G H) (h : SqL K G a xs) : SqL K H a xs := by
  rcases h with h | h
  · exact .inl (g.rd h)
  · exact .inr h
theorem Ge.sqT {K : PySem.W.Frag} {G H : Hp} {a : Addr} {xs : List V} (g : Ge G H) (h : SqT K G a xs) : SqT K H a xs := by
  rcases h with h | h
  · exact .inl (g.rd h)
  · exact .inr h

mutual
theorem IsD.mono {C : Cst} {G H : Hp} (g : Ge G H) : ∀ {v : V} (d : D), IsD C G v d → IsD C H v d
  | _, .non, .non => .non
  | _, .bl _, .bl b => .bl b
  | _, .int _, .int b => .int b
  | _, .str _, .str b => .str b
  | _, .opq, .opq v => .opq v
  | _, .tup ds, .tup h hs => .tup (g.sqT h) (IsDs.mono g ds hs)
  | _, .lst ds, .lst h hs => .lst (g _ _ h) (IsDs.mono g ds hs)
  | _, .rol ds, .rol h hs => .rol (g.sqL h) (IsDs.mono g ds hs)
  | _, .dct _ vs, .dct h e hs => .dct (g.rd h) e (IsDs.mono g vs hs)
  | _, .ins _ _ vs, .ins h e hs => .ins (g _ _ h) e (IsDs.mono g vs hs)
theorem IsDs.mono {C : Cst} {G H : Hp} (g : Ge G H) : ∀ {vs : List V} (ds : List D), IsDs C G vs ds → IsDs C H vs ds
  | _, [], .nil => .nil
  | _, d :: ds, .cons h hs => .cons (IsD.mono g d h) (IsDs.mono g ds hs)
end
theorem IsD.ge {C : Cst} {G H : Hp} {v : V} {d : D} (h : IsD C G v d) (g : Ge G H) : IsD C H v d := IsD.mono g d h
theorem IsDs.ge {C : Cst} {G H : Hp} {vs : List V} {ds : List D} (h : IsDs C G vs ds) (g : Ge G H) : IsDs C H vs ds := IsDs.mono g ds h
theorem IsDs.length {C : Cst} {G : Hp} : ∀ {vs : List V} {ds : List D}, IsDs C G vs ds → vs.length = ds.length
  | _, _, .nil => rfl
  | _, _, .cons _ h => by rw [List.length_cons, List.length_cons, h.length]
theorem IsDs.append {C : Cst} {G : Hp} : ∀ {vs ws : List V} {ds es : List D}, IsDs C G vs ds → IsDs C G ws es → IsDs C G (vs ++ ws) (ds ++ es)
  | _, _, _, _, .nil, k => k
  | _, _, _, _, .cons a h, k => .cons a (h.append k)
theorem IsDs.get {C : Cst} {G : Hp} : ∀ {vs : List V} {ds : List D} {i : Nat} {d : D}, IsDs C G vs ds → ds[i]? = some d → ∃ v, vs[i]? = some v ∧ IsD C G v d
  | _, _, _, _, .nil, e => by simp at e
  | _, _, 0, _, .cons a _, e => by simp at e; subst e; exact ⟨_, rfl, a⟩
  | _, _, i + 1, _, .cons _ h, e => by
    obtain ⟨v, h1, h2⟩ := h.get (i := i) (by simpa using e)
    exact ⟨v, by simpa using h1, h2⟩
theorem IsDs.getV {C : Cst} {G : Hp} : ∀ {vs : List V} {ds : List D} {i : Nat} {v : V}, IsDs C G vs ds → vs[i]? = some v → ∃ d, ds[i]? = some d ∧ IsD C G v d
  | _, _, _, _, .nil, e => by simp at e
  | _, _, 0, _, .cons a _, e => by simp at e; subst e; exact ⟨_, rfl, a⟩
  | _, _, i + 1, _, .cons _ h, e => by
    obtain ⟨v, h1, h2⟩ := h.getV (i := i) (by simpa using e)
    exact ⟨v, by simpa using h1, h2⟩
theorem IsDs.set {C : Cst} {G : Hp} {v : V} {d : D} (r : IsD C G v d) : ∀ {vs : List V} {ds : List D} (i : Nat), IsDs C G vs ds → IsDs C G (vs.set i v) (ds.set i d)
  | _, _, _, .nil => .nil
  | _, _, 0, .cons _ h => .cons r h
  | _, _, i + 1, .cons a h => .cons a (IsDs.set r i h)
theorem IsDs.take {C : Cst} {G : Hp} : ∀ {vs : List V} {ds : List D} (n : Nat), IsDs C G vs ds → IsDs C G (vs.take n) (ds.take n)
  | _, _, 0, _ => .nil
  | _, _, _ + 1, .nil => .nil
  | _, _, n + 1, .cons a h => .cons a (h.take n)
theorem IsDs.drop {C : Cst} {G : Hp} : ∀ {vs : List V} {ds : List D} (n : Nat), IsDs C G vs ds → IsDs C G (vs.drop n) (ds.drop n)
  | _, _, 0, h => h
  | _, _, _ + 1, .nil => .nil
  | _, _, n + 1, .cons _ h => h.drop n

/-- the object at a, as it stands in H, its parts frozen in G -/
def Own (C : Cst) (H G : Hp) (a : Addr) : D → Prop
  | .lst ds => ∃ xs, H a = some (.lst xs) ∧ IsDs C G xs ds
  | .dct ks vs => ∃ kvs : List (Key × V), H a = some (.dK kvs) ∧ kvs.map Prod.fst = ks ∧ IsDs C G (kvs.map Prod.snd) vs
  | .ins c ns vs => ∃ dx fs, H a = some (.ins (C.CA c) dx fs) ∧ fs.map Prod.fst = ns ∧ IsDs C G (fs.map Prod.snd) vs
  | _ => False
theorem Own.there {C : Cst} {H G : Hp} {a : Addr} {d : D} (h : Own C H G a d) : ∃ o, H a = some o := by
  cases d <;> first | exact h.elim | (obtain ⟨_, h, _⟩ := h; exact ⟨_, h⟩) | (obtain ⟨_, _, h, _⟩ := h; exact ⟨_, h⟩)
theorem Own.move {C : Cst} {H G H' G' : Hp} {a : Addr} {d : D} (h : Own C H G a d) (e : ∀ o, H a = some o → H' a = some o) (g : Ge G G') : Own C H' G' a d := by
  cases d <;> first
    | exact h.elim
    | (obtain ⟨xs, h1, h2⟩ := h; exact ⟨xs, e _ h1, h2.ge g⟩)
    | (obtain ⟨xs, h1, h0, h2⟩ := h; exact ⟨xs, e _ h1, h0, h2.ge g⟩)
    | (obtain ⟨xs, ys, h1, h0, h2⟩ := h; exact ⟨xs, ys, e _ h1, h0, h2.ge g⟩)
/-- an owned object that is frozen -/
theorem Own.isD {C : Cst} {H G G' : Hp} {a : Addr} {d : D} (h : Own C H G a d) (e : ∀ o, H a = some o → G' a = some o) (g : Ge G G') : IsD C G' (.ref a) d := by
  cases d <;> first
    | exact h.elim
    | (obtain ⟨xs, h1, h2⟩ := h; exact .lst (e _ h1) (h2.ge g))
    | (obtain ⟨xs, h1, h0, h2⟩ := h; exact .dct (.inl (e _ h1)) h0 (h2.ge g))
    | (obtain ⟨xs, ys, h1, h0, h2⟩ := h; exact .ins (e _ h1) h0 (h2.ge g))

/-- the same, perhaps locked -/
def OwnR (C : Cst) (H G : Hp) (a : Addr) : D → Prop
  | .dct ks vs => ∃ kvs : List (Key × V), Rd H a (.dK kvs) ∧ kvs.map Prod.fst = ks ∧ IsDs C G (kvs.map Prod.snd) vs
  | d => Own C H G a d
theorem Own.r {C : Cst} {H G : Hp} {a : Addr} {d : D} (h : Own C H G a d) : OwnR C H G a d := by
  cases d <;> first | exact h | (obtain ⟨k, h1, h2⟩ := h; exact ⟨k, .inl h1, h2⟩)
theorem OwnR.move {C : Cst} {H G H' G' : Hp} {a : Addr} {d : D} (h : OwnR C H G a d) (e : ∀ o, H a = some o → H' a = some o) (g : Ge G G') : OwnR C H' G' a d := by
  cases d <;> first
    | exact h.elim
    | (obtain ⟨xs, h1, h0, h2⟩ := h; exact ⟨xs, h1.imp (e _) fun ⟨o, q⟩ => ⟨o, e _ q⟩, h0, h2.ge g⟩)
    | exact Own.move (d := .lst _) h e g
    | exact Own.move (d := .ins _ _ _) h e g
theorem OwnR.isD {C : Cst} {H G G' : Hp} {a : Addr} {d : D} (h : OwnR C H G a d) (e : ∀ o, H a = some o → G' a = some o) (g : Ge G G') : IsD C G' (.ref a) d := by
  cases d <;> first
    | exact h.elim
    | (obtain ⟨xs, h1, h0, h2⟩ := h; exact .dct (h1.imp (e _) fun ⟨o, q⟩ => ⟨o, e _ q⟩) h0 (h2.ge g))
    | exact Own.isD (d := .lst _) h e g
    | exact Own.isD (d := .ins _ _ _) h e g

/-! ## slots, results -/
inductive SV where
  | un
  /-- a value -/
  | dat (d : D)
  /-- an object that this slot alone holds -/
  | own (d : D)
  /-- an object that stands still while this block runs -/
  | brw (d : D)
  /-- the exception that is handled -/
  | exv (c : String) (ns : List Str) (vs : List D)
  /-- a lambda that was handed over, with what it captured -/
  | clo (id : Nat) (ds : List D)
abbrev Env := List SV
def Env.at (ρ : Env) (i : Nat) : SV := (ρ[i]?).getD .un
def SV.isOwn : SV → Bool
  | .own _ => true
  | _ => false
/-- an expression's value: frozen; new, held by nobody; what the slot i holds -/
inductive XV where
  | dat (d : D) | own (d : D) | slot (i : Nat)
inductive R (α : Type) where
  | ok (a : α) (ρ : Env)
  | exc (c : String) (ns : List Str) (vs : List D) (ρ : Env)
  | stuck
def R.bind {α β : Type} (r : R α) (g : α → Env → R β) : R β := match r with
  | .ok a ρ => g a ρ
  | .exc c ns vs ρ => .exc c ns vs ρ
  | .stuck => .stuck
/-- what a block leaves untouched (Z); what must not be frozen (N); what slots may borrow (B); slots that keep their address -/
structure Fm where
  Z : Hp
  N : Addr → Prop
  B : Nat → Addr → Prop
  pin : List (Nat × Addr)
  ex : Option (Addr × Value × Option Addr)
  /-- the cells that handed lambdas captured -/
  S : Addr → Option Obj

/-- what a lambda's cells hold: ws, name by name -/
structure CellsS (S : Addr → Option Obj) (cl : List (Str × Addr)) (fr : List Str) (ws : List V) : Prop where
  len : ws.length = fr.length
  all : ∀ y c, cl.lookup y = some c → ∃ o v, S c = some o ∧ o.data = .cell v
  inj : ∀ x y c, cl.lookup x = some c → cl.lookup y = some c → x = y
  has : ∀ (i : Nat) (y : Str), fr[i]? = some y → ∃ c o u w, cl.lookup y = some c ∧ S c = some o ∧ o.data = .cell (some u) ∧ ws[i]? = some w ∧ RelV w u
/-- a lambda that was made, and the cells that it captured -/
def LamAt (C : Cst) (G : Hp) (id : Nat) (cl : List (Str × Addr)) (f : Addr) : Prop := ∃ c pm ctv, G f = some (.frz (lamObj (C.L id) cl pm c ctv) xTrue) ∧ G c = some (LamX.CodeO c (C.L id).q)
/-- the table at P: its code objects are known, and bear the name q -/
def TabG (H G : Hp) (P : Addr) (q : Str) : Prop := ∃ ps : Array Value, H P = some (.tbl ps) ∧ TriplesOk ps.toList ∧ ∀ (pos : Pos) (cv : Value), codeAmong pos ps.toList = some cv → ∃ c, cv = .ref c ∧ G c = some (LamX.CodeO c q)
theorem TabG.ge {H G H' G' : Hp} {P : Addr} {q : Str} (t : TabG H G P q) (e : ∀ o, H P = some o → H' P = some o) (g : Ge G G') : TabG H' G' P q := by
  obtain ⟨ps, h1, h2, h3⟩ := t
  refine ⟨ps, e _ h1, h2, fun pos cv hc => ?_⟩
  obtain ⟨c, e1, e2⟩ := h3 pos cv hc
  exact ⟨c, e1, g _ _ e2⟩
theorem LamAt.ge {C : Cst} {G G' : Hp} {id : Nat} {cl : List (Str × Addr)} {f : Addr} (h : LamAt C G id cl f) (g : Ge G G') : LamAt C G' id cl f := by
  obtain ⟨c, pm, ctv, h1, h2⟩ := h
  exact ⟨c, pm, ctv, g _ _ h1, g _ _ h2⟩

def SlotOk (C : Cst) (W : Fm) (H G : Hp) (i : Nat) (o : Option (Option V)) : SV → Prop
  | .un => True
  | .dat d => ∃ v, o = some (some v) ∧ IsD C G v d
  | .own d => ∃ a, o = some (some (.ref a)) ∧ Own C H G a d ∧ G a = none ∧ W.Z a = none ∧ ¬ W.N a
  | .brw d => ∃ a, o = some (some (.ref a)) ∧ OwnR C W.Z G a d ∧ W.B i a
  | .exv c ns vs => ∃ a dx fs, o = some (some (.ref a)) ∧ W.ex = some (a, .ref (C.CA c), some dx) ∧ G dx = some (.xd fs) ∧ fs.map Prod.fst = ns ∧ IsDs C G (fs.map Prod.snd) vs
  | .clo id ds => ∃ f cl ws, o = some (some (.ref f)) ∧ LamAt C G id cl f ∧ CellsS W.S cl (C.L id).fr ws ∧ IsDs C G ws ds
structure Rel (C : Cst) (W : Fm) (σ : St) (ρ : Env) (H G : Hp) : Prop where
  gh : Ge G H
  zh : Ge W.Z H
  nn : ∀ a, W.N a → G a = none ∧ ∃ o, H a = some o
  bz : ∀ i a, W.B i a → ∃ o, W.Z a = some o
  pn : ∀ p ∈ W.pin, σ[p.1]? = some (some (.ref p.2))
  ln : σ.length = ρ.length
  at_ : ∀ i, SlotOk C W H G i (σ[i]?) (ρ.at i)
  ne : ∀ i j a, i ≠ j → (ρ.at i).isOwn = true → (ρ.at j).isOwn = true → σ[i]? = some (some (.ref a)) → σ[j]? = some (some (.ref a)) → False
  sx : ∀ p : Addr × Obj, W.S p.1 = some p.2 → W.N p.1 ∧ H p.1 = some (.frz p.2 xTrue)
  tb : ∀ p ∈ C.T, W.N p.1 ∧ W.Z p.1 = none ∧ TabG H G p.1 p.2
def PinOk (W : Fm) (P : List Nat) (x : Option (Addr × Value × Option Addr)) : Prop := (∀ p ∈ W.pin, p.1 ∈ P) ∧ W.ex = x

def VOk (C : Cst) (W : Fm) (σ : St) (ρ : Env) (H G : Hp) (v : V) : XV → Prop
  | .dat d => IsD C G v d
  | .own d => ∃ a, v = .ref a ∧ Own C H G a d ∧ G a = none ∧ W.Z a = none ∧ ¬ W.N a ∧ ∀ i, (ρ.at i).isOwn = true → σ[i]? ≠ some (some v)
  | .slot i => σ[i]? = some (some v) ∧ ((∃ d, ρ.at i = .own d) ∨ (∃ d, ρ.at i = .brw d) ∨ ∃ id ds, ρ.at i = .clo id ds)

theorem Env.at_set {ρ : Env} {i j : Nat} {s : SV} (h : i < ρ.length) : Env.at (ρ.set i s) j = if j = i then s else Env.at ρ j := by
  unfold Env.at
  by_cases e : j = i
  · subst e; simp [h]
  · rw [if_neg e, List.getElem?_set_ne (Ne.symm e)]
theorem Env.at_set_ne {ρ : Env} {i j : Nat} {s : SV} (h : j ≠ i) : Env.at (ρ.set i s) j = Env.at ρ j := by
  unfold Env.at
  rw [List.getElem?_set_ne (Ne.symm h)]
theorem Env.at_out {ρ : Env} {i : Nat} (h : ρ.length ≤ i) : Env.at ρ i = .un := by
  unfold Env.at
  rw [List.getElem?_eq_none h]; rfl

section
variable {C : Cst} {W : Fm} {σ : St} {ρ : Env} {H G H' G' : Hp}
theorem SlotOk.move {i : Nat} {o : Option (Option V)} {s : SV} (h : SlotOk C W H G i o s) (e : ∀ a u, W.Z a = none → H a = some u → H' a = some u) (g : Ge G G') (n : ∀ a, G a = none → (∃ o, H a = some o) → G' a = none) : SlotOk C W H' G' i o s := by
  cases s with
  | un => trivial
  | dat d => obtain ⟨v, h1, h2⟩ := h; exact ⟨v, h1, h2.ge g⟩
  | own d => obtain ⟨a, h1, h2, h3, h4, h5⟩ := h; exact ⟨a, h1, h2.move (fun o q => e a o h4 q) g, n a h3 h2.there, h4, h5⟩
  | brw d => obtain ⟨a, h1, h2, h3⟩ := h; exact ⟨a, h1, h2.move (fun _ q => q) g, h3⟩
  | exv c ns vs => obtain ⟨a, dx, fs, h1, h2, h3, h4, h5⟩ := h; exact ⟨a, dx, fs, h1, h2, g _ _ h3, h4, h5.ge g⟩
  | clo id ds => obtain ⟨f, cl, ws, h1, h2, h3, h4⟩ := h; exact ⟨f, cl, ws, h1, h2.ge g, h3, h4.ge g⟩
/-- the heap grows, some new things are frozen -/
theorem Rel.grow (r : Rel C W σ ρ H G) (e : Ge H H') (g : Ge G G') (gh : Ge G' H') (n : ∀ a, G a = none → (∃ o, H a = some o) → G' a = none) : Rel C W σ ρ H' G' :=
  ⟨gh, r.zh.trans e, fun a q => ⟨n a (r.nn a q).1 (r.nn a q).2, by obtain ⟨o, h⟩ := (r.nn a q).2; exact ⟨o, e _ _ h⟩⟩, r.bz, r.pn, r.ln, fun i => (r.at_ i).move (fun a u _ q => e a u q) g n, r.ne, fun p hp => ⟨(r.sx p hp).1, e _ _ (r.sx p hp).2⟩, fun p hp => ⟨(r.tb p hp).1, (r.tb p hp).2.1, (r.tb p hp).2.2.ge (fun _ q => e _ _ q) g⟩⟩
theorem Rel.gNone (r : Rel C W σ ρ H G) {p : Addr} (h : H p = none) : G p = none := by
  cases e : G p with
  | none => rfl
  | some o => have := r.gh _ _ e; rw [h] at this; cases this
/-- a new object, frozen -/
theorem Rel.frz (r : Rel C W σ ρ H G) {p : Addr} {o : HO} (h : H p = none) : Rel C W σ ρ (upd H p o) (upd G p o) := by
  refine r.grow (Ge.upd h) (Ge.upd (r.gNone h)) (fun a u e => ?_) fun a q hq => ?_
  · by_cases z : a = p
    · subst z; rw [upd_same] at e ⊢; exact e
    · rw [upd_ne z] at e ⊢; exact r.gh _ _ e
  · obtain ⟨u, hu⟩ := hq
    rw [upd_ne (ne_of_none hu h)]; exact q
/-- a new object, not frozen -/
theorem Rel.new (r : Rel C W σ ρ H G) {p : Addr} {o : HO} (h : H p = none) : Rel C W σ ρ (upd H p o) G :=
  r.grow (Ge.upd h) (Ge.refl _) (r.gh.trans (Ge.upd h)) fun _ q _ => q
theorem Rel.newV (r : Rel C W σ ρ H G) {p : Addr} {o : HO} (h : H p = none) {d : D} (ow : Own C (upd H p o) G p d) : VOk C W σ ρ (upd H p o) G (.ref p) (.own d) := by
  refine ⟨p, rfl, ow, r.gNone h, ?_, fun q => ?_, fun i hi e => ?_⟩
  · cases z : W.Z p with
    | none => rfl
    | some u => have := r.zh _ _ z; rw [h] at this; cases this
  · obtain ⟨u, hu⟩ := (r.nn p q).2; rw [h] at hu; cases hu
  · have := r.at_ i
    cases s : ρ.at i with
    | own d' =>
      rw [s] at this
      obtain ⟨a, h1, h2, _⟩ := this
      rw [e] at h1; cases h1
      obtain ⟨u, hu⟩ := h2.there; rw [h] at hu; cases hu
    | _ => rw [s] at hi; cases hi
/-- what a value is, read now -/
def cont (ρ : Env) : XV → Option D
  | .dat d => some d
  | .own d => some d
  | .slot i => match ρ.at i with
    | .own d => some d
    | .brw d => some d
    | _ => none
/-- readable: frozen, or an object that stands in H with frozen parts -/
def Top (C : Cst) (H G : Hp) (v : V) (d : D) : Prop := IsD C G v d ∨ ∃ a, v = .ref a ∧ OwnR C H G a d
theorem Top.isD {v : V} {d : D} (t : Top C H G v d) (g : Ge G H) : IsD C H v d := by
  rcases t with t | ⟨a, rfl, t⟩
  · exact t.ge g
  · exact t.isD (fun _ q => q) g
theorem VOk.top (r : Rel C W σ ρ H G) {v : V} {x : XV} {d : D} (h : VOk C W σ ρ H G v x) (e : cont ρ x = some d) : Top C H G v d := by
  cases x with
  | dat d' => cases e; exact .inl h
  | own d' => cases e; obtain ⟨a, rfl, h, _⟩ := h; exact .inr ⟨a, rfl, h.r⟩
  | slot i =>
    obtain ⟨h1, h2⟩ := h
    have q := r.at_ i
    unfold cont at e
    dsimp only at e
    rcases h2 with ⟨d', h2⟩ | ⟨d', h2⟩ | ⟨_, _, h2⟩ <;> rw [h2] at q e <;> cases e
    · obtain ⟨a, h3, h4, _⟩ := q
      rw [h1] at h3; cases h3
      exact .inr ⟨a, rfl, h4.r⟩
    · obtain ⟨a, h3, h4, _⟩ := q
      rw [h1] at h3; cases h3
      exact .inr ⟨a, rfl, h4.move (fun o q => r.zh _ _ q) (Ge.refl _)⟩
/-- a value that may wait: frozen, or a slot's -/
def XV.still : XV → Bool
  | .own _ => false
  | _ => true
theorem VOk.wait {v : V} {x : XV} (s : x.still = true) (h : VOk C W σ ρ H G v x) (g : Ge G G') {ρ' : Env} (hs : ∀ i, x = .slot i → (∃ d, ρ'.at i = .own d) ∨ (∃ d, ρ'.at i = .brw d) ∨ ∃ id ds, ρ'.at i = .clo id ds) : VOk C W σ ρ' H' G' v x := by
  cases x with
  | dat d => exact IsD.ge h g
  | own d => cases s
  | slot i => exact ⟨h.1, hs i rfl⟩
theorem Own.ndat {a : Addr} {d : D} (h : Own C H G a d) : ∃ o, H a = some o := h.there
/-- freezing an object that nobody holds -/
theorem Rel.freeze (r : Rel C W σ ρ H G) {a : Addr} {o : HO} (h : H a = some o) (hg : G a = none) (hn : ¬ W.N a) (hs : ∀ i, (ρ.at i).isOwn = true → σ[i]? ≠ some (some (.ref a))) : Rel C W σ ρ H (upd G a o) := by
  have g : Ge G (upd G a o) := Ge.upd hg
  refine ⟨fun b u e => ?_, r.zh, fun b q => ⟨?_, (r.nn b q).2⟩, r.bz, r.pn, r.ln, fun i => ?_, r.ne, r.sx, fun p hp => ⟨(r.tb p hp).1, (r.tb p hp).2.1, (r.tb p hp).2.2.ge (fun _ q => q) g⟩⟩
  · by_cases z : b = a
    · subst z; rw [upd_same] at e; cases e; exact h
    · rw [upd_ne z] at e; exact r.gh _ _ e
  · have z : b ≠ a := fun z => hn (z ▸ q)
    rw [upd_ne z]; exact (r.nn b q).1
  · have q := r.at_ i
    cases s : ρ.at i with
    | un => trivial
    | dat d => rw [s] at q; obtain ⟨v, h1, h2⟩ := q; exact ⟨v, h1, h2.ge g⟩
    | own d =>
      rw [s] at q
      obtain ⟨b, h1, h2, h3, h4, h5⟩ := q
      have z : b ≠ a := fun z => hs i (by rw [s]; rfl) (z ▸ h1)
      exact ⟨b, h1, h2.move (fun _ q => q) g, by rw [upd_ne z]; exact h3, h4, h5⟩
    | brw d => rw [s] at q; obtain ⟨b, h1, h2, h3⟩ := q; exact ⟨b, h1, h2.move (fun _ q => q) g, h3⟩
    | exv c ns vs => rw [s] at q; obtain ⟨b, dx, fs, h1, h2, h3, h4, h5⟩ := q; exact ⟨b, dx, fs, h1, h2, g _ _ h3, h4, h5.ge g⟩
    | clo id ds => rw [s] at q; obtain ⟨f, cl, ws, h1, h2, h3, h4⟩ := q; exact ⟨f, cl, ws, h1, h2.ge g, h3, h4.ge g⟩
/-- a new value frozen -/
theorem Rel.frzV (r : Rel C W σ ρ H G) {v : V} {d : D} (h : VOk C W σ ρ H G v (.own d)) : ∃ G', Ge G G' ∧ Rel C W σ ρ H G' ∧ IsD C G' v d := by
  obtain ⟨a, rfl, h1, h2, h3, h4, h5⟩ := h
  obtain ⟨o, ho⟩ := h1.there
  exact ⟨upd G a o, Ge.upd h2, r.freeze ho h2 h4 h5, h1.isD (fun u q => by rw [ho] at q; cases q; exact upd_same) (Ge.upd h2)⟩
/-- a slot's content frozen: the slot holds a plain value from now on -/
theorem Rel.slotSet (r : Rel C W σ ρ H G) {i : Nat} {s : SV} (hi : i < ρ.length) (ok : SlotOk C W H G i (σ[i]?) s) (ho : s.isOwn = true → (ρ.at i).isOwn = true) : Rel C W σ (ρ.set i s) H G := by
  refine ⟨r.gh, r.zh, r.nn, r.bz, r.pn, by rw [List.length_set]; exact r.ln, fun j => ?_, fun j k a jk h1 h2 e1 e2 => ?_, r.sx, r.tb⟩
  · rw [Env.at_set hi]
    split
    · rename_i e; subst e; exact ok
    · exact r.at_ j
  · rw [Env.at_set hi] at h1 h2
    refine r.ne j k a jk ?_ ?_ e1 e2
    · split at h1
      · rename_i e; subst e; exact ho h1
      · exact h1
    · split at h2
      · rename_i e; subst e; exact ho h2
      · exact h2
theorem Rel.un (r : Rel C W σ ρ H G) (i : Nat) : Rel C W σ (ρ.set i .un) H G := by
  by_cases h : i < ρ.length
  · exact r.slotSet h trivial fun h => by cases h
  · rw [List.set_eq_of_length_le (by omega)]; exact r
theorem own_lt {ρ : Env} {i : Nat} (h : ρ.at i ≠ .un) : i < ρ.length := by
  by_cases q : i < ρ.length
  · exact q
  · exact absurd (Env.at_out (by omega)) h
theorem Rel.frzSlot (r : Rel C W σ ρ H G) {i : Nat} {d : D} (h : ρ.at i = .own d) : ∃ v G', σ[i]? = some (some v) ∧ Ge G G' ∧ Rel C W σ (ρ.set i (.dat d)) H G' ∧ IsD C G' v d := by
  have q := r.at_ i
  rw [h] at q
  obtain ⟨a, h1, h2, h3, h4, h5⟩ := q
  obtain ⟨o, ho⟩ := h2.there
  have hl : i < ρ.length := own_lt (by rw [h]; intro z; cases z)
  have r1 := r.un i
  have r2 : Rel C W σ (ρ.set i .un) H (upd G a o) := r1.freeze ho h3 h5 fun j hj e => by
    by_cases z : j = i
    · subst z; rw [Env.at_set hl, if_pos rfl] at hj; cases hj
    · rw [Env.at_set_ne z] at hj
      exact r.ne j i a z hj (by rw [h]; rfl) e h1
  have hd : IsD C (upd G a o) (.ref a) d := h2.isD (fun u q => by rw [ho] at q; cases q; exact upd_same) (Ge.upd h3)
  refine ⟨.ref a, upd G a o, h1, Ge.upd h3, ?_, hd⟩
  have := r2.slotSet (i := i) (s := .dat d) (by rw [List.length_set]; exact hl) ⟨_, h1, hd⟩ fun h => by cases h
  rwa [List.set_set] at this
/-- a name is stored -/
theorem Rel.setDat (r : Rel C W σ ρ H G) {i : Nat} {v : V} {d : D} (h : IsD C G v d) (hp : ∀ p ∈ W.pin, p.1 ≠ i) (hi : i < ρ.length) : Rel C W (σ.set i (some v)) (ρ.set i (.dat d)) H G := by
  have hs : i < σ.length := by rw [r.ln]; exact hi
  refine ⟨r.gh, r.zh, r.nn, r.bz, fun p q => ?_, by rw [List.length_set, List.length_set]; exact r.ln, fun j => ?_, fun j k a jk h1 h2 e1 e2 => ?_, r.sx, r.tb⟩
  · rw [List.getElem?_set_ne (Ne.symm (hp p q))]; exact r.pn p q
  · rw [Env.at_set hi]
    by_cases e : j = i
    · subst e; rw [if_pos rfl]; exact ⟨v, by simp [hs], h⟩
    · rw [if_neg e, List.getElem?_set_ne (Ne.symm e)]; exact r.at_ j
  · rw [Env.at_set hi] at h1 h2
    by_cases z : j = i
    · rw [if_pos z] at h1; cases h1
    · by_cases z' : k = i
      · rw [if_pos z'] at h2; cases h2
      · rw [if_neg z] at h1; rw [if_neg z'] at h2
        rw [List.getElem?_set_ne (Ne.symm z)] at e1
        rw [List.getElem?_set_ne (Ne.symm z')] at e2
        exact r.ne j k a jk h1 h2 e1 e2
theorem Rel.setOwn (r : Rel C W σ ρ H G) {i : Nat} {v : V} {d : D} (h : VOk C W σ ρ H G v (.own d)) (hp : ∀ p ∈ W.pin, p.1 ≠ i) (hi : i < ρ.length) : Rel C W (σ.set i (some v)) (ρ.set i (.own d)) H G := by
  have hs : i < σ.length := by rw [r.ln]; exact hi
  obtain ⟨a, rfl, g1, g2, g3, g4, g5⟩ := h
  refine ⟨r.gh, r.zh, r.nn, r.bz, fun p q => ?_, by rw [List.length_set, List.length_set]; exact r.ln, fun j => ?_, fun j k b jk h1 h2 e1 e2 => ?_, r.sx, r.tb⟩
  · rw [List.getElem?_set_ne (Ne.symm (hp p q))]; exact r.pn p q
  · rw [Env.at_set hi]
    by_cases e : j = i
    · subst e; rw [if_pos rfl]; exact ⟨a, by simp [hs], g1, g2, g3, g4⟩
    · rw [if_neg e, List.getElem?_set_ne (Ne.symm e)]; exact r.at_ j
  · rw [Env.at_set hi] at h1 h2
    by_cases z : j = i
    · subst z
      have z' : k ≠ j := Ne.symm jk
      rw [if_neg z'] at h2
      rw [List.getElem?_set_ne jk] at e2
      have : b = a := by simp [hs] at e1; exact e1.symm
      subst this
      exact g5 k h2 e2
    · by_cases z' : k = i
      · subst z'
        rw [if_neg z] at h1
        rw [List.getElem?_set_ne (Ne.symm z)] at e1
        have : b = a := by simp [hs] at e2; exact e2.symm
        subst this
        exact g5 j h1 e1
      · rw [if_neg z] at h1; rw [if_neg z'] at h2
        rw [List.getElem?_set_ne (Ne.symm z)] at e1
        rw [List.getElem?_set_ne (Ne.symm z')] at e2
        exact r.ne j k b jk h1 h2 e1 e2
/-- an owned object is written -/
theorem Rel.write (r : Rel C W σ ρ H G) {i : Nat} {a : Addr} {d d' : D} {o : HO} (h : ρ.at i = .own d) (hs : σ[i]? = some (some (.ref a))) (ow : Own C (upd H a o) G a d') : Rel C W σ (ρ.set i (.own d')) (upd H a o) G := by
  have q := r.at_ i
  rw [h] at q
  obtain ⟨b, h1, h2, h3, h4, h5⟩ := q
  rw [hs] at h1; cases h1
  have hl : i < ρ.length := own_lt (by rw [h]; intro z; cases z)
  have keep : ∀ b u, b ≠ a → H b = some u → upd H a o b = some u := fun b u z e => by rw [upd_ne z]; exact e
  refine ⟨fun b u e => keep b u (ne_of_none e h3) (r.gh _ _ e), fun b u e => keep b u (ne_of_none e h4) (r.zh _ _ e), fun b q => ⟨(r.nn b q).1, ?_⟩, r.bz, r.pn, by rw [List.length_set]; exact r.ln, fun j => ?_, fun j k b jk h1 h2 e1 e2 => ?_, fun p hp => ⟨(r.sx p hp).1, keep _ _ (fun z => h5 (z ▸ (r.sx p hp).1)) (r.sx p hp).2⟩, fun p hp => ⟨(r.tb p hp).1, (r.tb p hp).2.1, (r.tb p hp).2.2.ge (fun _ q => keep _ _ (fun z => h5 (z ▸ (r.tb p hp).1)) q) (Ge.refl _)⟩⟩
  · obtain ⟨u, hu⟩ := (r.nn b q).2
    exact ⟨u, keep b u (fun z => h5 (z ▸ q)) hu⟩
  · rw [Env.at_set hl]
    by_cases e : j = i
    · subst e; rw [if_pos rfl]; exact ⟨a, hs, ow, h3, h4, h5⟩
    · rw [if_neg e]
      have q := r.at_ j
      cases s : ρ.at j with
      | un => trivial
      | dat d => rw [s] at q; exact q
      | own d'' =>
        rw [s] at q
        obtain ⟨b, g1, g2, g3, g4, g5⟩ := q
        have z : b ≠ a := fun z => r.ne j i a e (by rw [s]; rfl) (by rw [h]; rfl) (z ▸ g1) hs
        exact ⟨b, g1, g2.move (fun u q => keep b u z q) (Ge.refl _), g3, g4, g5⟩
      | brw d'' => rw [s] at q; exact q
      | exv _ _ _ => rw [s] at q; exact q
      | clo _ _ => rw [s] at q; exact q
  · rw [Env.at_set hl] at h1 h2
    refine r.ne j k b jk ?_ ?_ e1 e2
    · split at h1
      · rename_i e; subst e; rw [h]; rfl
      · exact h1
    · split at h2
      · rename_i e; subst e; rw [h]; rfl
      · exact h2
end
end DL
namespace DL
open PySem L2

/-! ## judgements -/
structure Jd where
  C : Cst
  k : Nat
  EW : WX
  P : List Nat
  ex : Option (Addr × Value × Option Addr)
structure Good (J : Jd) (X : Cx) : Prop where
  hK : X.K = J.C.K
  calm : X.calm = true
  nd : X.N.Nodup
  hr : Room J.k X.A
  tk : Takes X J.EW
  po : PassesOwn (model X.prog X.w) X.A X.env X.xe
def ExcAt (C : Cst) (H G : Hp) (d : Option Addr) (ns : List Str) (vs : List D) : Prop :=
  ∃ dx fs, d = some dx ∧ G dx = some (.xd fs) ∧ fs.map Prod.fst = ns ∧ IsDs C G (fs.map Prod.snd) vs
def Got (J : Jd) (W : Fm) (σ : St) (G : Hp) {α : Type} (r : R α) (k : α → Env → Hp → Hp → Prop) : Prop := match r with
  | .ok a ρ => ∀ H' G', Ge G G' → Rel J.C W σ ρ H' G' → k a ρ H' G'
  | .exc c ns vs ρ => ∀ d H' G', Ge G G' → Rel J.C W σ ρ H' G' → ExcAt J.C H' G' d ns vs → J.EW (.ref (J.C.CA c)) d σ H'
  | .stuck => False
/-- a value that waits: frozen, or a slot's -/
def Wait (C : Cst) (σ : St) (G : Hp) (v : V) : XV → Prop
  | .dat d => IsD C G v d
  | .slot i => σ[i]? = some (some v)
  | .own _ => False
def Waits (C : Cst) (σ : St) (G : Hp) : List V → List XV → Prop
  | [], [] => True
  | v :: vs, x :: xs => Wait C σ G v x ∧ Waits C σ G vs xs
  | _, _ => False
def EvE (J : Jd) (te : TE) (f : Env → R XV) : Prop := ∀ W σ ρ H G Q, PinOk W J.P J.ex → Rel J.C W σ ρ H G →
  Got J W σ G (f ρ) (fun x ρ' H' G' => ∀ v, VOk J.C W σ ρ' H' G' v x → Q v H') → te σ H Q
def EvO (J : Jd) (te : TE) (f : Env → R XV) : Prop := ∀ W σ ρ H G Q, PinOk W J.P J.ex → Rel J.C W σ ρ H G →
  Got J W σ G (f ρ) (fun x ρ' H' G' => ∀ v, Wait J.C σ G' v x → Q v H') → te σ H Q
def EvT (J : Jd) (tt : TT) (f : Env → R Bool) : Prop := ∀ W σ ρ H G Q, PinOk W J.P J.ex → Rel J.C W σ ρ H G →
  Got J W σ G (f ρ) (fun b _ H' _ => Q b H') → tt σ H Q
def EvA (J : Jd) (ta : TA) (f : Env → R (List XV)) : Prop := ∀ W σ ρ H G Q, PinOk W J.P J.ex → Rel J.C W σ ρ H G →
  Got J W σ G (f ρ) (fun xs _ H' G' => ∀ vs, Waits J.C σ G' vs xs → Q vs H') → ta σ H Q
section
variable {ι : Type}
def CE (J : Jd) (Xs : ι → Cx) (e : Expr) (f : Env → R XV) : Prop := ∃ te, (∀ i, Good J (Xs i) → PE (Xs i) e te) ∧ EvE J te f
def CO (J : Jd) (Xs : ι → Cx) (e : Expr) (f : Env → R XV) : Prop := ∃ te, (∀ i, Good J (Xs i) → PE (Xs i) e te) ∧ EvO J te f
def CT (J : Jd) (Xs : ι → Cx) (e : Expr) (f : Env → R Bool) : Prop := ∃ te, (∀ i, Good J (Xs i) → PT (Xs i) e te) ∧ EvT J te f
def CW (J : Jd) (Xs : ι → Cx) (e : Expr) (f : Env → R Bool) : Prop := ∃ te, (∀ i, Good J (Xs i) → PW (Xs i) e te) ∧ EvT J te f
def CA_ (J : Jd) (Xs : ι → Cx) (es : List Expr) (f : Env → R (List XV)) : Prop := ∃ te, (∀ i, Good J (Xs i) → PA (Xs i) es te) ∧ EvA J te f
end

section
variable {J : Jd} {W : Fm} {σ : St} {ρ : Env} {H G G' : Hp}
theorem Got.imp {α : Type} {r : R α} {k k' : α → Env → Hp → Hp → Prop} (g : Got J W σ G r k) (h : ∀ a ρ H' G', Ge G G' → Rel J.C W σ ρ H' G' → k a ρ H' G' → k' a ρ H' G') : Got J W σ G r k' := by
  cases r with
  | ok a ρ => exact fun H' G' e r => h a ρ H' G' e r (g H' G' e r)
  | exc c ns vs ρ => exact g
  | stuck => exact g
theorem Got.later {α : Type} {r : R α} {k : α → Env → Hp → Hp → Prop} (g : Got J W σ G r k) (e : Ge G G') : Got J W σ G' r k := by
  cases r with
  | ok a ρ => exact fun H' G'' e' r => g H' G'' (e.trans e') r
  | exc c ns vs ρ => exact fun d H' G'' e' r x => g d H' G'' (e.trans e') r x
  | stuck => exact g
theorem Got.bind {α β : Type} {r : R α} {g : α → Env → R β} {k : β → Env → Hp → Hp → Prop} (h : Got J W σ G (r.bind g) k) : Got J W σ G r (fun a ρ _ G' => Got J W σ G' (g a ρ) k) := by
  cases r with
  | ok a ρ => exact fun H' G' e r => Got.later h e
  | exc c ns vs ρ => exact h
  | stuck => exact h
theorem Wait.ge {C : Cst} {v : V} {x : XV} (h : Wait C σ G v x) (g : Ge G G') : Wait C σ G' v x := by
  cases x with
  | dat d => exact IsD.ge h g
  | slot i => exact h
  | own d => exact h
theorem Waits.ge {C : Cst} (g : Ge G G') : ∀ {vs : List V} {xs : List XV}, Waits C σ G vs xs → Waits C σ G' vs xs
  | [], [], _ => trivial
  | _ :: _, _ :: _, h => ⟨h.1.ge g, Waits.ge g h.2⟩
theorem Wait.top (r : Rel J.C W σ ρ H G) {v : V} {x : XV} {d : D} (h : Wait J.C σ G v x) (e : cont ρ x = some d) : Top J.C H G v d := by
  cases x with
  | dat d' => cases e; exact .inl h
  | own d' => exact h.elim
  | slot i =>
    have h1 : σ[i]? = some (some v) := h
    have q := r.at_ i
    unfold cont at e
    dsimp only at e
    cases s : ρ.at i with
    | un => rw [s] at e; cases e
    | dat d' => rw [s] at e; cases e
    | own d' =>
      rw [s] at q e; cases e
      obtain ⟨a, h3, h4, _⟩ := q
      rw [h1] at h3; cases h3
      exact .inr ⟨a, rfl, h4.r⟩
    | brw d' =>
      rw [s] at q e; cases e
      obtain ⟨a, h3, h4, _⟩ := q
      rw [h1] at h3; cases h3
      exact .inr ⟨a, rfl, h4.move (fun o q => r.zh _ _ q) (Ge.refl _)⟩
    | exv _ _ _ => rw [s] at e; cases e
    | clo _ _ => rw [s] at e; cases e
end

/-! ## operands: a value that may wait -/
def opnd (f : Env → R XV) : Env → R XV := fun ρ => (f ρ).bind fun x ρ => match x with
  | .own d => .ok (.dat d) ρ
  | x => .ok x ρ
/-- a plain value -/
def frzX (x : XV) (ρ : Env) : R D := match x with
  | .dat d => .ok d ρ
  | .own d => .ok d ρ
  | .slot i => match ρ.at i with
    | .own d => .ok d (ρ.set i (.dat d))
    | _ => .stuck
def valS (f : Env → R XV) : Env → R D := fun ρ => (f ρ).bind frzX
def EvD (J : Jd) (te : TE) (f : Env → R D) : Prop := ∀ W σ ρ H G Q, PinOk W J.P J.ex → Rel J.C W σ ρ H G →
  Got J W σ G (f ρ) (fun d _ H' G' => ∀ v, IsD J.C G' v d → Q v H') → te σ H Q
theorem EvE.opnd {J : Jd} {te : TE} {f : Env → R XV} (h : EvE J te f) : EvO J te (opnd f) := fun W σ ρ H G Q pk r g => by
  refine h W σ ρ H G Q pk r ?_
  have g := Got.bind g
  refine g.imp fun x ρ' H' G' e r' k v vk => ?_
  cases x with
  | dat d => exact k H' G' (Ge.refl _) r' v vk
  | slot i => exact k H' G' (Ge.refl _) r' v vk.1
  | own d =>
    obtain ⟨G2, e2, r2, i2⟩ := r'.frzV vk
    exact k H' G2 e2 r2 v i2
theorem EvE.val {J : Jd} {te : TE} {f : Env → R XV} (h : EvE J te f) : EvD J te (valS f) := fun W σ ρ H G Q pk r g => by
  refine h W σ ρ H G Q pk r ?_
  have g := Got.bind g
  refine g.imp fun x ρ' H' G' e r' k v vk => ?_
  cases x with
  | dat d => exact k H' G' (Ge.refl _) r' v vk
  | slot i =>
    unfold frzX at k
    dsimp only at k
    rcases vk with ⟨h1, ⟨d, h2⟩ | ⟨d, h2⟩ | ⟨_, _, h2⟩⟩
    · rw [h2] at k
      obtain ⟨w, G2, e1, e2, r2, i2⟩ := r'.frzSlot h2
      rw [h1] at e1; cases e1
      exact k H' G2 e2 r2 v i2
    · rw [h2] at k; exact k.elim
    · rw [h2] at k; exact k.elim
  | own d =>
    obtain ⟨G2, e2, r2, i2⟩ := r'.frzV vk
    exact k H' G2 e2 r2 v i2
section
variable {ι : Type} {J : Jd} {Xs : ι → Cx} {e a b c : Expr} {f g : Env → R XV} {pos : Pos}
theorem CE.opnd (h : CE J Xs e f) : CO J Xs e (opnd f) := by
  obtain ⟨te, h1, h2⟩ := h
  exact ⟨te, h1, h2.opnd⟩

/-! ## names and constants -/
def getS (i : Nat) : Env → R XV := fun ρ => match ρ.at i with
  | .dat d => .ok (.dat d) ρ
  | .own _ => .ok (.slot i) ρ
  | .brw _ => .ok (.slot i) ρ
  | .clo _ _ => .ok (.slot i) ρ
  | _ => .stuck
def constS (d : D) : Env → R XV := fun ρ => .ok (.dat d) ρ
theorem ce_var (i : Nat) {x : Str} (hN : ∀ j, (Xs j).N[i]? = some x := by intro _; rfl) (hv : ∀ j, Vis (Xs j).env.scope x := by first | exact fun _ => Or.inl rfl | exact fun _ => Or.inr (Or.inl rfl) | exact fun _ => Or.inr (Or.inr rfl))
    (hd : (x == ("__debug__" : Str)) = false := by decide) (hcd : (x == ("__classdict__" : Str)) = false := by decide) : CE J Xs (.Name x pos) (getS i) := by
  refine ⟨tVar i, fun j _ => pe_var (hN j) (hv j) hd hcd, fun W σ ρ H G Q pk r g => ?_⟩
  unfold getS at g
  have q := r.at_ i
  cases s : ρ.at i with
  | un => rw [s] at g; exact g.elim
  | dat d =>
    rw [s] at g q
    obtain ⟨v, h1, h2⟩ := q
    exact ⟨v, h1, g H G (Ge.refl _) r v h2⟩
  | own d =>
    rw [s] at g q
    obtain ⟨a, h1, h2⟩ := q
    exact ⟨_, h1, g H G (Ge.refl _) r _ ⟨h1, .inl ⟨d, s⟩⟩⟩
  | brw d =>
    rw [s] at g q
    obtain ⟨a, h1, h2, _⟩ := q
    exact ⟨_, h1, g H G (Ge.refl _) r _ ⟨h1, .inr (.inl ⟨d, s⟩)⟩⟩
  | exv _ _ _ => rw [s] at g; exact g.elim
  | clo id ds =>
    rw [s] at g q
    obtain ⟨f, _, _, h1, _⟩ := q
    exact ⟨_, h1, g H G (Ge.refl _) r _ ⟨h1, .inr (.inr ⟨id, ds, s⟩)⟩⟩
theorem ce_const {te : TE} {v : V} {d : D} (h : ∀ i, Good J (Xs i) → PE (Xs i) e te) (ht : te = tC v) (hd : ∀ G, IsD J.C G v d) : CE J Xs e (constS d) :=
  ⟨te, h, fun W σ ρ H G Q pk r g => by subst ht; exact g H G (Ge.refl _) r v (hd G)⟩
theorem ce_int {i : Int} {j pos} : CE J Xs (.Constant (.int i) j pos) (constS (.int i)) := ce_const (fun _ _ => pe_int) rfl fun _ => .int i
theorem ce_bl {b : Bool} {j pos} : CE J Xs (.Constant (.bool b) j pos) (constS (.bl b)) := ce_const (fun _ _ => pe_bl) rfl fun _ => .bl b
theorem ce_non {j pos} : CE J Xs (.Constant .none j pos) (constS .non) := ce_const (fun _ _ => pe_non) rfl fun _ => .non
theorem ce_str {x : Str} {j pos} : CE J Xs (.Constant (.str x) j pos) (constS (.str x)) := ce_const (fun _ _ => pe_str) rfl fun _ => .str x
/-- a module's int -/
theorem ce_globI {x : Str} {n : Int} {t : Tok} (hm : ∀ j, (Xs j).mg x = some (.int n t)) (hg : ∀ j, Gl (Xs j) x := by intro _; rfl) (hd : (x == ("__debug__" : Str)) = false := by decide) : CE J Xs (.Name x pos) (constS (.int n)) :=
  ce_const (v := .int n) (fun j _ => pe_glob (v := .int n) (hg j) (hm j) ⟨t, rfl⟩ hd) rfl fun _ => .int n
theorem ce_globS {x s : Str} {t : Tok} (hm : ∀ j, (Xs j).mg x = some (.str s t)) (hg : ∀ j, Gl (Xs j) x := by intro _; rfl) (hd : (x == ("__debug__" : Str)) = false := by decide) : CE J Xs (.Name x pos) (constS (.str s)) :=
  ce_const (v := .str s) (fun j _ => pe_glob (v := .str s) (hg j) (hm j) ⟨t, rfl⟩ hd) rfl fun _ => .str s
end

/-! ## operations on contents -/
/-- a two-place operation: what the reading asks is given by op -/
def Op2Ok (C : Cst) (r : R2) (op : D → D → Option XV) : Prop := ∀ W σ ρ H G v w d e x (Q : VK), Rel C W σ ρ H G → Top C H G v d → Top C H G w e → op d e = some x →
  (∀ v' H' G', Ge G G' → Rel C W σ ρ H' G' → VOk C W σ ρ H' G' v' x → Q v' H') → r v w H Q
def Op1Ok (C : Cst) (r : V → Hp → VK → Prop) (op : D → Option XV) : Prop := ∀ W σ ρ H G v d x (Q : VK), Rel C W σ ρ H G → Top C H G v d → op d = some x →
  (∀ v' H' G', Ge G G' → Rel C W σ ρ H' G' → VOk C W σ ρ H' G' v' x → Q v' H') → r v H Q
inductive Tops (C : Cst) (H G : Hp) : List V → List D → Prop
  | nil : Tops C H G [] []
  | cons {v : V} {vs : List V} {d : D} {ds : List D} : Top C H G v d → Tops C H G vs ds → Tops C H G (v :: vs) (d :: ds)
def OpNOk (C : Cst) (r : List V → Hp → VK → Prop) (op : List D → Option XV) : Prop := ∀ W σ ρ H G vs ds x (Q : VK), Rel C W σ ρ H G → Tops C H G vs ds → op ds = some x →
  (∀ v' H' G', Ge G G' → Rel C W σ ρ H' G' → VOk C W σ ρ H' G' v' x → Q v' H') → r vs H Q
/-- of two readings the one that fits -/
theorem Op2Ok.or {C : Cst} {r r' : R2} {p q : D → D → Option XV} (h : Op2Ok C r p) (h' : Op2Ok C r' q) : Op2Ok C (fun x y H Q => r x y H Q ∨ r' x y H Q) (fun d e => (p d e).or (q d e)) := by
  intro W σ ρ H G v w d e x Q rl t1 t2 eq k
  cases z : p d e with
  | some y => dsimp only at eq; rw [z] at eq; exact .inl (h W σ ρ H G v w d e x Q rl t1 t2 (by rw [z]; exact eq) k)
  | none => dsimp only at eq; rw [z] at eq; exact .inr (h' W σ ρ H G v w d e x Q rl t1 t2 eq k)
theorem OpNOk.or {C : Cst} {r r' : List V → Hp → VK → Prop} {p q : List D → Option XV} (h : OpNOk C r p) (h' : OpNOk C r' q) : OpNOk C (fun x H Q => r x H Q ∨ r' x H Q) (fun d => (p d).or (q d)) := by
  intro W σ ρ H G v d x Q rl t1 eq k
  cases z : p d with
  | some y => dsimp only at eq; rw [z] at eq; exact .inl (h W σ ρ H G v d x Q rl t1 (by rw [z]; exact eq) k)
  | none => dsimp only at eq; rw [z] at eq; exact .inr (h' W σ ρ H G v d x Q rl t1 eq k)
def app2 (op : D → D → Option XV) (x y : XV) (ρ : Env) : R XV := match cont ρ x, cont ρ y with
  | some d, some e => match op d e with
    | some z => .ok z ρ
    | none => .stuck
  | _, _ => .stuck
def app1 (op : D → Option XV) (x : XV) (ρ : Env) : R XV := match cont ρ x with
  | some d => match op d with
    | some z => .ok z ρ
    | none => .stuck
  | _ => .stuck
def conts (ρ : Env) : List XV → Option (List D)
  | [] => some []
  | x :: xs => match cont ρ x, conts ρ xs with
    | some d, some ds => some (d :: ds)
    | _, _ => none
def appN (op : List D → Option XV) (xs : List XV) (ρ : Env) : R XV := match conts ρ xs with
  | some ds => match op ds with
    | some z => .ok z ρ
    | none => .stuck
  | _ => .stuck
def op2S (op : D → D → Option XV) (f g : Env → R XV) : Env → R XV := fun ρ => (opnd f ρ).bind fun x ρ => (opnd g ρ).bind fun y ρ => app2 op x y ρ
def op1S (op : D → Option XV) (f : Env → R XV) : Env → R XV := fun ρ => (opnd f ρ).bind fun x ρ => app1 op x ρ
section
variable {J : Jd} {W : Fm} {σ : St} {ρ : Env} {H G : Hp}
theorem Waits.tops (r : Rel J.C W σ ρ H G) : ∀ {vs : List V} {xs : List XV} {ds : List D}, Waits J.C σ G vs xs → conts ρ xs = some ds → Tops J.C H G vs ds
  | [], [], _, _, e => by cases e; exact .nil
  | [], _ :: _, _, h, _ => h.elim
  | _ :: _, [], _, h, _ => h.elim
  | v :: vs, x :: xs, ds, h, e => by
    unfold conts at e
    cases z : cont ρ x with
    | none => rw [z] at e; cases e
    | some d =>
      rw [z] at e
      cases z' : conts ρ xs with
      | none => rw [z'] at e; cases e
      | some ds' => rw [z'] at e; cases e; exact .cons (h.1.top r z) (Waits.tops r h.2 z')
theorem app2_ok {C : Cst} {r : R2} {op : D → D → Option XV} (ho : Op2Ok J.C r op) {v w : V} {x y : XV} {Q : VK} (rl : Rel J.C W σ ρ H G) (h1 : Wait J.C σ G v x) (h2 : Wait J.C σ G w y)
    (g : Got J W σ G (app2 op x y ρ) (fun x ρ' H' G' => ∀ v, VOk J.C W σ ρ' H' G' v x → Q v H')) : r v w H Q := by
  unfold app2 at g
  cases z : cont ρ x with
  | none => rw [z] at g; exact g.elim
  | some d =>
    cases z' : cont ρ y with
    | none => rw [z, z'] at g; exact g.elim
    | some e =>
      rw [z, z'] at g
      dsimp only at g
      cases z2 : op d e with
      | none => rw [z2] at g; exact g.elim
      | some q =>
        rw [z2] at g
        exact ho W σ ρ H G v w d e q Q rl (h1.top rl z) (h2.top rl z') z2 fun v' H' G' a b c => g H' G' a b v' c
theorem app1_ok {r : V → Hp → VK → Prop} {op : D → Option XV} (ho : Op1Ok J.C r op) {v : V} {x : XV} {Q : VK} (rl : Rel J.C W σ ρ H G) (h1 : Wait J.C σ G v x)
    (g : Got J W σ G (app1 op x ρ) (fun x ρ' H' G' => ∀ v, VOk J.C W σ ρ' H' G' v x → Q v H')) : r v H Q := by
  unfold app1 at g
  cases z : cont ρ x with
  | none => rw [z] at g; exact g.elim
  | some d =>
    rw [z] at g
    dsimp only at g
    cases z2 : op d with
    | none => rw [z2] at g; exact g.elim
    | some q =>
      rw [z2] at g
      exact ho W σ ρ H G v d q Q rl (h1.top rl z) z2 fun v' H' G' a b c => g H' G' a b v' c
theorem appN_ok {r : List V → Hp → VK → Prop} {op : List D → Option XV} (ho : OpNOk J.C r op) {vs : List V} {xs : List XV} {Q : VK} (rl : Rel J.C W σ ρ H G) (h1 : Waits J.C σ G vs xs)
    (g : Got J W σ G (appN op xs ρ) (fun x ρ' H' G' => ∀ v, VOk J.C W σ ρ' H' G' v x → Q v H')) : r vs H Q := by
  unfold appN at g
  cases z : conts ρ xs with
  | none => rw [z] at g; exact g.elim
  | some d =>
    rw [z] at g
    dsimp only at g
    cases z2 : op d with
    | none => rw [z2] at g; exact g.elim
    | some q =>
      rw [z2] at g
      exact ho W σ ρ H G vs d q Q rl (h1.tops rl z) z2 fun v' H' G' a b c => g H' G' a b v' c
end
section
variable {ι : Type} {J : Jd} {Xs : ι → Cx} {e a b c : Expr} {es : List Expr} {f g : Env → R XV} {fs : Env → R (List XV)} {pos : Pos}
theorem ev_op2 {ta tb : TE} {r : R2} {op : D → D → Option XV} (ha : EvE J ta f) (hb : EvE J tb g) (ho : Op2Ok J.C r op) : EvE J (tOp r ta tb) (op2S op f g) := by
  intro W σ ρ H G Q pk rl h
  refine ha.opnd W σ ρ H G _ pk rl ?_
  refine (Got.bind h).imp fun x ρ1 H1 G1 e1 r1 k v vk => ?_
  refine hb.opnd W σ ρ1 H1 G1 _ pk r1 ?_
  refine (Got.bind k).imp fun y ρ2 H2 G2 e2 r2 k w wk => ?_
  exact app2_ok (C := J.C) ho r2 (vk.ge e2) wk k
theorem ev_op1 {ta : TE} {r : V → Hp → VK → Prop} {op : D → Option XV} (ha : EvE J ta f) (ho : Op1Ok J.C r op) : EvE J (tUn r ta) (op1S op f) := by
  intro W σ ρ H G Q pk rl h
  refine ha.opnd W σ ρ H G _ pk rl ?_
  refine (Got.bind h).imp fun x ρ1 H1 G1 e1 r1 k v vk => ?_
  exact app1_ok ho r1 vk k
theorem ce_op {op : Operator} {r : R2} {p : D → D → Option XV} (ho : ∀ X, Good J X → OpR X (binaryOp op) r) (hp : Op2Ok J.C r p) (ha : CE J Xs a f) (hb : CE J Xs b g) : CE J Xs (.BinOp a op b pos) (op2S p f g) := by
  obtain ⟨ta, a1, a2⟩ := ha
  obtain ⟨tb, b1, b2⟩ := hb
  exact ⟨_, fun i G => pe_op (ho _ G) (a1 i G) (b1 i G), ev_op2 a2 b2 hp⟩
theorem ce_un {op : UnaryOp} {r : V → Hp → VK → Prop} {p : D → Option XV} (ho : ∀ X, Good J X → UnR X (unaryOp op) r) (hp : Op1Ok J.C r p) (ha : CE J Xs a f) : CE J Xs (.UnaryOp op a pos) (op1S p f) := by
  obtain ⟨ta, a1, a2⟩ := ha
  exact ⟨_, fun i G => pe_un (ho _ G) (a1 i G), ev_op1 a2 hp⟩
theorem ce_cmp {op : CmpOp} {r : R2} {p : D → D → Option XV} (ho : ∀ X, Good J X → OpR X (compareOp op) r) (hp : Op2Ok J.C r p) (ha : CE J Xs a f) (hb : CE J Xs b g) (hm : behindInMarks op b = false) : CE J Xs (.Compare a [op] [b] pos) (op2S p f g) := by
  obtain ⟨ta, a1, a2⟩ := ha
  obtain ⟨tb, b1, b2⟩ := hb
  exact ⟨_, fun i G => pe_cmpR (ho _ G) (a1 i G) (b1 i G) hm, ev_op2 a2 b2 hp⟩
/-- a bool's test -/
def testS (f : Env → R XV) : Env → R Bool := fun ρ => (f ρ).bind fun x ρ => match x with
  | .dat (.bl b) => .ok b ρ
  | _ => .stuck
theorem ev_test {te : TE} (h : EvE J te f) : EvT J (tTest te) (testS f) := by
  intro W σ ρ H G Q pk rl k
  refine h W σ ρ H G _ pk rl ?_
  refine (Got.bind k).imp fun x ρ1 H1 G1 e1 r1 k v vk => ?_
  cases x with
  | dat d =>
    cases d <;> first | exact k.elim | skip
    cases vk
    exact ⟨_, rfl, k H1 G1 (Ge.refl _) r1⟩
  | own d => exact k.elim
  | slot i => exact k.elim
theorem ct_cmp {op : CmpOp} {r : R2} {p : D → D → Option XV} (ho : ∀ X, Good J X → OpR X (compareOp op) r) (hp : Op2Ok J.C r p) (ha : CE J Xs a f) (hb : CE J Xs b g) (hm : behindInMarks op b = false) : CT J Xs (.Compare a [op] [b] pos) (testS (op2S p f g)) := by
  obtain ⟨ta, a1, a2⟩ := ha
  obtain ⟨tb, b1, b2⟩ := hb
  exact ⟨_, fun i G => pt_cmpR (ho _ G) (a1 i G) (b1 i G) hm, ev_test (ev_op2 a2 b2 hp)⟩
/-- a op b op' c -/
def chainS (p q : D → D → Option XV) (f g h : Env → R XV) : Env → R XV := fun ρ => (opnd f ρ).bind fun x ρ => (opnd g ρ).bind fun y ρ => (app2 p x y ρ).bind fun z ρ => match z with
  | .dat (.bl true) => (opnd h ρ).bind fun w ρ => app2 q y w ρ
  | .dat (.bl false) => .ok (.dat (.bl false)) ρ
  | _ => .stuck
theorem ev_chain {ta tb tc : TE} {h : Env → R XV} {r r' : R2} {p q : D → D → Option XV} (ha : EvE J ta f) (hb : EvE J tb g) (hc : EvE J tc h) (ho : Op2Ok J.C r p) (ho' : Op2Ok J.C r' q) : EvE J (tChain r r' ta tb tc) (chainS p q f g h) := by
  intro W σ ρ H G Q pk rl k
  refine ha.opnd W σ ρ H G _ pk rl ?_
  refine (Got.bind k).imp fun x ρ1 H1 G1 e1 r1 k v vk => ?_
  refine hb.opnd W σ ρ1 H1 G1 _ pk r1 ?_
  refine (Got.bind k).imp fun y ρ2 H2 G2 e2 r2 k w wk => ?_
  refine app2_ok (C := J.C) ho r2 (vk.ge e2) wk ?_
  refine (Got.bind k).imp fun z ρ3 H3 G3 e3 r3 k u uk => ?_
  cases z with
  | own d => exact k.elim
  | slot i => exact k.elim
  | dat d =>
    cases d <;> first | exact k.elim | skip
    rename_i bb
    cases uk
    cases bb
    · exact ⟨_, rfl, by rw [if_neg (by decide)]; exact k H3 G3 (Ge.refl _) r3 _ (.bl false)⟩
    · refine ⟨_, rfl, ?_⟩
      rw [if_pos rfl]
      refine hc.opnd W σ ρ3 H3 G3 _ pk r3 ?_
      refine (Got.bind k).imp fun z ρ4 H4 G4 e4 r4 k u uk => ?_
      exact app2_ok (C := J.C) ho' r4 (wk.ge (e3.trans e4)) uk k
theorem ce_chain {op op' : CmpOp} {r r' : R2} {p q : D → D → Option XV} {h : Env → R XV} (ho : ∀ X, Good J X → OpR X (compareOp op) r) (hp : Op2Ok J.C r p) (ho' : ∀ X, Good J X → OpR X (compareOp op') r') (hp' : Op2Ok J.C r' q)
    (ha : CE J Xs a f) (hb : CE J Xs b g) (hc : CE J Xs c h) (hm : lastMarks [op, op'] [b, c] = false := by with_unfolding_all rfl) : CE J Xs (.Compare a [op, op'] [b, c] pos) (chainS p q f g h) := by
  obtain ⟨ta, a1, a2⟩ := ha
  obtain ⟨tb, b1, b2⟩ := hb
  obtain ⟨tc, c1, c2⟩ := hc
  exact ⟨_, fun i G => pe_chain (ho _ G) (ho' _ G) (a1 i G) (b1 i G) (c1 i G) hm, ev_chain a2 b2 c2 hp hp'⟩
theorem ct_chain {op op' : CmpOp} {r r' : R2} {p q : D → D → Option XV} {h : Env → R XV} (ho : ∀ X, Good J X → OpR X (compareOp op) r) (hp : Op2Ok J.C r p) (ho' : ∀ X, Good J X → OpR X (compareOp op') r') (hp' : Op2Ok J.C r' q)
    (ha : CE J Xs a f) (hb : CE J Xs b g) (hc : CE J Xs c h) (hm : lastMarks [op, op'] [b, c] = false := by with_unfolding_all rfl) : CT J Xs (.Compare a [op, op'] [b, c] pos) (testS (chainS p q f g h)) := by
  obtain ⟨ta, a1, a2⟩ := ha
  obtain ⟨tb, b1, b2⟩ := hb
  obtain ⟨tc, c1, c2⟩ := hc
  exact ⟨_, fun i G => pt_chain (ho _ G) (ho' _ G) (a1 i G) (b1 i G) (c1 i G) hm, ev_test (ev_chain a2 b2 c2 hp hp')⟩

/-! ## tests -/
def andT (f g : Env → R Bool) : Env → R Bool := fun ρ => (f ρ).bind fun b ρ => if b = true then g ρ else .ok false ρ
def orT (f g : Env → R Bool) : Env → R Bool := fun ρ => (f ρ).bind fun b ρ => if b = true then .ok true ρ else g ρ
def notT (f : Env → R Bool) : Env → R Bool := fun ρ => (f ρ).bind fun b ρ => .ok (!b) ρ
theorem ev_andT {t u : TT} {f g : Env → R Bool} (h : EvT J t f) (h' : EvT J u g) : EvT J (tAnd t u) (andT f g) := by
  intro W σ ρ H G Q pk rl k
  refine h W σ ρ H G _ pk rl ?_
  refine (Got.bind k).imp fun b ρ1 H1 G1 e1 r1 k => ?_
  cases b
  · rw [if_neg (by decide)] at k ⊢; exact k H1 G1 (Ge.refl _) r1
  · rw [if_pos rfl] at k ⊢; exact h' W σ ρ1 H1 G1 _ pk r1 k
theorem ev_orT {t u : TT} {f g : Env → R Bool} (h : EvT J t f) (h' : EvT J u g) : EvT J (tOr t u) (orT f g) := by
  intro W σ ρ H G Q pk rl k
  refine h W σ ρ H G _ pk rl ?_
  refine (Got.bind k).imp fun b ρ1 H1 G1 e1 r1 k => ?_
  cases b
  · rw [if_neg (by decide)] at k ⊢; exact h' W σ ρ1 H1 G1 _ pk r1 k
  · rw [if_pos rfl] at k ⊢; exact k H1 G1 (Ge.refl _) r1
theorem ev_notT {t : TT} {f : Env → R Bool} (h : EvT J t f) : EvT J (tNot t) (notT f) := by
  intro W σ ρ H G Q pk rl k
  refine h W σ ρ H G _ pk rl ?_
  exact (Got.bind k).imp fun b ρ1 H1 G1 e1 r1 k => k H1 G1 (Ge.refl _) r1
variable {ft gt : Env → R Bool} {rest : List Expr}
theorem cw_and1 (h : CT J Xs a ft) : CW J Xs (.BoolOp .And [a] pos) ft := by
  obtain ⟨t, h1, h2⟩ := h
  exact ⟨t, fun i G => pw_and1 (h1 i G), h2⟩
theorem cw_or1 (h : CT J Xs a ft) : CW J Xs (.BoolOp .Or [a] pos) ft := by
  obtain ⟨t, h1, h2⟩ := h
  exact ⟨t, fun i G => pw_or1 (h1 i G), h2⟩
theorem cw_and (h : CT J Xs a ft) (h' : CW J Xs (.BoolOp .And (b :: rest) pos) gt) : CW J Xs (.BoolOp .And (a :: b :: rest) pos) (andT ft gt) := by
  obtain ⟨t, h1, h2⟩ := h
  obtain ⟨u, k1, k2⟩ := h'
  exact ⟨_, fun i G => pw_and (h1 i G) (k1 i G), ev_andT h2 k2⟩
theorem cw_or (h : CT J Xs a ft) (h' : CW J Xs (.BoolOp .Or (b :: rest) pos) gt) : CW J Xs (.BoolOp .Or (a :: b :: rest) pos) (orT ft gt) := by
  obtain ⟨t, h1, h2⟩ := h
  obtain ⟨u, k1, k2⟩ := h'
  exact ⟨_, fun i G => pw_or (h1 i G) (k1 i G), ev_orT h2 k2⟩
theorem CW.ct (h : CW J Xs a ft) : CT J Xs a ft := by
  obtain ⟨t, h1, h2⟩ := h
  exact ⟨t, fun i G => (h1 i G).pt, h2⟩
theorem ct_not (h : CT J Xs a ft) : CT J Xs (.UnaryOp .Not a pos) (notT ft) := by
  obtain ⟨t, h1, h2⟩ := h
  exact ⟨_, fun i G => pt_not (h1 i G), ev_notT h2⟩
/-- truth of what is there -/
def truD : D → Option Bool
  | .non => some false
  | .bl b => some b
  | .int i => some (i != 0)
  | .str s => if s.length ≤ sizeLine then some ((s.length : Int) != 0) else none
  | .tup l => some (!l.isEmpty)
  | .lst l => some (!l.isEmpty)
  | .rol l => some (!l.isEmpty)
  | _ => none
def truS (f : Env → R XV) : Env → R Bool := fun ρ => (opnd f ρ).bind fun x ρ => match cont ρ x with
  | some d => match truD d with
    | some b => .ok b ρ
    | none => .stuck
  | none => .stuck
theorem isEmpty_len {α β : Type} {xs : List α} {ys : List β} (h : xs.length = ys.length) : xs.isEmpty = ys.isEmpty := by
  cases xs <;> cases ys <;> simp_all
theorem truV_of {C : Cst} {H : Hp} {v : V} {d : D} {b : Bool} (h : IsD C H v d) (e : truD d = some b) : TruV C.K v H b := by
  cases h with
  | non => cases e; rfl
  | bl b => cases e; rfl
  | int i => cases e; rfl
  | str s =>
    unfold truD at e
    dsimp only at e
    split at e
    · cases e; rename_i h; exact ⟨h, rfl⟩
    · cases e
  | tup h hs => cases e; exact .inr (.inl ⟨_, h, by rw [isEmpty_len hs.length]⟩)
  | lst h hs => cases e; exact .inl ⟨_, SqL.of h, by rw [isEmpty_len hs.length]⟩
  | rol h hs => cases e; exact .inl ⟨_, h, by rw [isEmpty_len hs.length]⟩
  | dct h hk hs => cases e
  | opq v => cases e
  | ins h _ _ => cases e
theorem ct_tru (h : CE J Xs a f) (he : ∀ i whole, isTrue a (Xs i).env whole = (do let v ← whole; standAt a.pos; holding [v] (truthy v)) := by intro _ _; rfl) : CT J Xs a (truS f) := by
  obtain ⟨te, h1, h2⟩ := h
  refine ⟨fun σ H Q => te σ H fun x H' => ∃ k, TruV J.C.K x H' k ∧ Q k H', fun i G => ?_, ?_⟩
  · have := pt_truth (h1 i G) (he i)
    rw [G.hK] at this
    exact this
  · intro W σ ρ H G Q pk rl k
    refine h2.opnd W σ ρ H G _ pk rl ?_
    refine (Got.bind k).imp fun x ρ1 H1 G1 e1 r1 k v vk => ?_
    cases z : cont ρ1 x with
    | none => rw [z] at k; exact k.elim
    | some d =>
      rw [z] at k
      dsimp only at k
      cases z2 : truD d with
      | none => rw [z2] at k; exact k.elim
      | some b =>
        rw [z2] at k
        exact ⟨b, truV_of ((vk.top r1 z).isD r1.gh) z2, k H1 G1 (Ge.refl _) r1⟩
/-! ## and, or, not, a if t else b as values -/
def andS (f g : Env → R XV) : Env → R XV := fun ρ => (f ρ).bind fun x ρ => match x with
  | .dat (.bl true) => g ρ
  | .dat (.bl false) => .ok (.dat (.bl false)) ρ
  | _ => .stuck
def orS (f g : Env → R XV) : Env → R XV := fun ρ => (f ρ).bind fun x ρ => match x with
  | .dat (.bl true) => .ok (.dat (.bl true)) ρ
  | .dat (.bl false) => g ρ
  | _ => .stuck
def notS (f : Env → R XV) : Env → R XV := fun ρ => (f ρ).bind fun x ρ => match x with
  | .dat (.bl b) => .ok (.dat (.bl (!b))) ρ
  | _ => .stuck
def ifS (t : Env → R Bool) (f g : Env → R XV) : Env → R XV := fun ρ => (t ρ).bind fun b ρ => if b = true then f ρ else g ρ
theorem ce_one {op} (h : CE J Xs a f) : CE J Xs (.BoolOp op [a] pos) f := by
  obtain ⟨t, h1, h2⟩ := h
  exact ⟨t, fun i G => pe_one (h1 i G), h2⟩
theorem ce_and (h : CE J Xs a f) (h' : CE J Xs (.BoolOp .And (b :: rest) pos) g) : CE J Xs (.BoolOp .And (a :: b :: rest) pos) (andS f g) := by
  obtain ⟨t, h1, h2⟩ := h
  obtain ⟨u, k1, k2⟩ := h'
  refine ⟨_, fun i G => pe_and (h1 i G) (k1 i G), fun W σ ρ H G Q pk rl k => ?_⟩
  refine h2 W σ ρ H G _ pk rl ?_
  refine (Got.bind k).imp fun x ρ1 H1 G1 e1 r1 k v vk => ?_
  cases x with
  | own d => exact k.elim
  | slot i => exact k.elim
  | dat d =>
    cases d <;> first | exact k.elim | skip
    rename_i bb
    cases vk
    cases bb
    · exact ⟨_, rfl, by rw [if_neg (by decide)]; exact k H1 G1 (Ge.refl _) r1 _ (.bl false)⟩
    · exact ⟨_, rfl, by rw [if_pos rfl]; exact k2 W σ ρ1 H1 G1 _ pk r1 k⟩
theorem ce_or (h : CE J Xs a f) (h' : CE J Xs (.BoolOp .Or (b :: rest) pos) g) : CE J Xs (.BoolOp .Or (a :: b :: rest) pos) (orS f g) := by
  obtain ⟨t, h1, h2⟩ := h
  obtain ⟨u, k1, k2⟩ := h'
  refine ⟨_, fun i G => pe_or (h1 i G) (k1 i G), fun W σ ρ H G Q pk rl k => ?_⟩
  refine h2 W σ ρ H G _ pk rl ?_
  refine (Got.bind k).imp fun x ρ1 H1 G1 e1 r1 k v vk => ?_
  cases x with
  | own d => exact k.elim
  | slot i => exact k.elim
  | dat d =>
    cases d <;> first | exact k.elim | skip
    rename_i bb
    cases vk
    cases bb
    · exact ⟨_, rfl, by rw [if_neg (by decide)]; exact k2 W σ ρ1 H1 G1 _ pk r1 k⟩
    · exact ⟨_, rfl, by rw [if_pos rfl]; exact k H1 G1 (Ge.refl _) r1 _ (.bl true)⟩
theorem ce_not (h : CE J Xs a f) : CE J Xs (.UnaryOp .Not a pos) (notS f) := by
  obtain ⟨t, h1, h2⟩ := h
  refine ⟨_, fun i G => pe_not (h1 i G), fun W σ ρ H G Q pk rl k => ?_⟩
  refine h2 W σ ρ H G _ pk rl ?_
  refine (Got.bind k).imp fun x ρ1 H1 G1 e1 r1 k v vk => ?_
  cases x with
  | own d => exact k.elim
  | slot i => exact k.elim
  | dat d =>
    cases d <;> first | exact k.elim | skip
    rename_i bb
    cases vk
    exact ⟨_, rfl, k H1 G1 (Ge.refl _) r1 _ (.bl _)⟩
theorem ce_ifExp (hc : CT J Xs c ft) (ha : CE J Xs a f) (hb : CE J Xs b g) : CE J Xs (.IfExp c a b pos) (ifS ft f g) := by
  obtain ⟨t, h1, h2⟩ := hc
  obtain ⟨u, k1, k2⟩ := ha
  obtain ⟨w, l1, l2⟩ := hb
  refine ⟨_, fun i G => pe_ifExp (h1 i G) (k1 i G) (l1 i G), fun W σ ρ H G Q pk rl k => ?_⟩
  refine h2 W σ ρ H G _ pk rl ?_
  refine (Got.bind k).imp fun bb ρ1 H1 G1 e1 r1 k => ?_
  cases bb
  · rw [if_neg (by decide)] at k ⊢; exact l2 W σ ρ1 H1 G1 _ pk r1 k
  · rw [if_pos rfl] at k ⊢; exact k2 W σ ρ1 H1 G1 _ pk r1 k
/-! ## arguments -/
def consS (f : Env → R XV) (fs : Env → R (List XV)) : Env → R (List XV) := fun ρ => (opnd f ρ).bind fun x ρ => (fs ρ).bind fun xs ρ => .ok (x :: xs) ρ
def nilS : Env → R (List XV) := fun ρ => .ok [] ρ
theorem ca_nil : CA_ J Xs [] nilS := ⟨_, fun i _ => pa_nil, fun W σ ρ H G Q pk rl k => k H G (Ge.refl _) rl [] trivial⟩
theorem ca_cons (h : CE J Xs e f) (h' : CA_ J Xs es fs) (hs : ∀ i, starEach (e :: es) (Xs i).env = (false, eval e (Xs i).env) :: starEach es (Xs i).env := by intro _; rfl) : CA_ J Xs (e :: es) (consS f fs) := by
  obtain ⟨t, h1, h2⟩ := h
  obtain ⟨u, k1, k2⟩ := h'
  refine ⟨_, fun i G => pa_cons (h1 i G) (k1 i G) (hs i), fun W σ ρ H G Q pk rl k => ?_⟩
  refine h2.opnd W σ ρ H G _ pk rl ?_
  refine (Got.bind k).imp fun x ρ1 H1 G1 e1 r1 k v vk => ?_
  refine k2 W σ ρ1 H1 G1 _ pk r1 ?_
  refine (Got.bind k).imp fun xs ρ2 H2 G2 e2 r2 k vs vks => ?_
  exact k H2 G2 (Ge.refl _) r2 (v :: vs) ⟨vk.ge e2, vks⟩
/-- each frozen -/
def consD (f : Env → R XV) (fs : Env → R (List XV)) : Env → R (List XV) := fun ρ => (valS f ρ).bind fun d ρ => (fs ρ).bind fun xs ρ => .ok (.dat d :: xs) ρ
theorem ca_consD (h : CE J Xs e f) (h' : CA_ J Xs es fs) (hs : ∀ i, starEach (e :: es) (Xs i).env = (false, eval e (Xs i).env) :: starEach es (Xs i).env := by intro _; rfl) : CA_ J Xs (e :: es) (consD f fs) := by
  obtain ⟨t, h1, h2⟩ := h
  obtain ⟨u, k1, k2⟩ := h'
  refine ⟨_, fun i G => pa_cons (h1 i G) (k1 i G) (hs i), fun W σ ρ H G Q pk rl k => ?_⟩
  refine h2.val W σ ρ H G _ pk rl ?_
  refine (Got.bind k).imp fun x ρ1 H1 G1 e1 r1 k v vk => ?_
  refine k2 W σ ρ1 H1 G1 _ pk r1 ?_
  refine (Got.bind k).imp fun xs ρ2 H2 G2 e2 r2 k vs vks => ?_
  exact k H2 G2 (Ge.refl _) r2 (v :: vs) ⟨IsD.ge vk e2, vks⟩
/-! ## calls of built-ins -/
def callS (op : List D → Option XV) (fs : Env → R (List XV)) : Env → R XV := fun ρ => (fs ρ).bind fun xs ρ => appN op xs ρ
theorem ev_call {ta : TA} {r : List V → Hp → VK → Prop} {op : List D → Option XV} (h : EvA J ta fs) (ho : OpNOk J.C r op) : EvE J (tCB r ta) (callS op fs) := by
  intro W σ ρ H G Q pk rl k
  refine h W σ ρ H G _ pk rl ?_
  refine (Got.bind k).imp fun xs ρ1 H1 G1 e1 r1 k vs vks => ?_
  exact appN_ok ho r1 vks k
theorem ce_callB {x : Str} {id : String} {r : List V → Hp → VK → Prop} {op : List D → Option XV} {p : Pos} (hc : ∀ X, Good J X → CallR X (.builtin id) r) (hp : OpNOk J.C r op) (hm : ∀ i, (Xs i).mg x = none) (hv : bootBuiltins x = some (.builtin id)) (ha : CA_ J Xs (e :: es) fs)
    (hg : ∀ i, Gl (Xs i) x := by intro _; rfl) (hn : x ≠ "__name__" := by decide) (hdb : (x == ("__debug__" : Str)) = false := by decide)
    (he : ∀ i, starEach (e :: es) (Xs i).env = (false, eval e (Xs i).env) :: starEach es (Xs i).env := by intro _; rfl) (hpl : ∀ i, (backTo pos (starEach es (Xs i).env)).any (·.1) = false := by intro _; rfl) : CE J Xs (.Call (.Name x p) (e :: es) [] pos) (callS op fs) := by
  obtain ⟨t, h1, h2⟩ := ha
  exact ⟨_, fun i G => pe_callB (hc _ G) (hg i) (hm i) hv (h1 i G) hn hdb (he i) (hpl i), ev_call h2 hp⟩
theorem ce_callTy {x : Str} {T : String} {r : List V → Hp → VK → Prop} {op : List D → Option XV} {p : Pos} (hc : ∀ X, Good J X → CallR X (.type T) r) (hp : OpNOk J.C r op) (hm : ∀ i, (Xs i).mg x = none) (hv : bootBuiltins x = some (.type T)) (ha : CA_ J Xs (e :: es) fs)
    (hg : ∀ i, Gl (Xs i) x := by intro _; rfl) (hn : x ≠ "__name__" := by decide) (hdb : (x == ("__debug__" : Str)) = false := by decide)
    (he : ∀ i, starEach (e :: es) (Xs i).env = (false, eval e (Xs i).env) :: starEach es (Xs i).env := by intro _; rfl) (hpl : ∀ i, (backTo pos (starEach es (Xs i).env)).any (·.1) = false := by intro _; rfl) : CE J Xs (.Call (.Name x p) (e :: es) [] pos) (callS op fs) := by
  obtain ⟨t, h1, h2⟩ := ha
  exact ⟨_, fun i G => pe_callTy (hc _ G) (hg i) (hm i) hv (h1 i G) hn hdb (he i) (hpl i), ev_call h2 hp⟩
end
end DL
namespace DL
open PySem L2

def LIM : Nat := 1000000
theorem lim_le {n : Nat} (h : n ≤ LIM) : n ≤ sizeLine := Nat.le_trans h (by decide)
theorem lim_lt {n : Nat} (h : n < LIM) : n < sizeLine := Nat.lt_of_lt_of_le h (by decide)

/-! ## contents read -/
section
variable {C : Cst} {W : Fm} {σ : St} {ρ : Env} {H G : Hp} {v : V}
theorem Top.int {i : Int} (t : Top C H G v (.int i)) : v = .int i := by
  rcases t with t | ⟨a, rfl, t⟩
  · cases t; rfl
  · exact t.elim
theorem Top.bl {b : Bool} (t : Top C H G v (.bl b)) : v = .bl b := by
  rcases t with t | ⟨a, rfl, t⟩
  · cases t; rfl
  · exact t.elim
theorem Top.str {s : Str} (t : Top C H G v (.str s)) : v = .str s := by
  rcases t with t | ⟨a, rfl, t⟩
  · cases t; rfl
  · exact t.elim
theorem Top.non (t : Top C H G v .non) : v = .non := by
  rcases t with t | ⟨a, rfl, t⟩
  · cases t; rfl
  · exact t.elim
theorem Top.tup {ds : List D} (t : Top C H G v (.tup ds)) (g : Ge G H) : ∃ a xs, v = .ref a ∧ SqT C.K H a xs ∧ IsDs C G xs ds := by
  rcases t with t | ⟨a, rfl, t⟩
  · cases t with
    | tup h hs => exact ⟨_, _, rfl, g.sqT h, hs⟩
  · exact t.elim
theorem Top.lst {ds : List D} (t : Top C H G v (.lst ds)) (g : Ge G H) : ∃ a xs, v = .ref a ∧ H a = some (.lst xs) ∧ IsDs C G xs ds := by
  rcases t with t | ⟨a, rfl, t⟩
  · cases t with
    | lst h hs => exact ⟨_, _, rfl, g _ _ h, hs⟩
  · obtain ⟨xs, h1, h2⟩ := t
    exact ⟨a, xs, rfl, h1, h2⟩
theorem Top.rol {ds : List D} (t : Top C H G v (.rol ds)) (g : Ge G H) : ∃ a xs, v = .ref a ∧ SqL C.K H a xs ∧ IsDs C G xs ds := by
  rcases t with t | ⟨a, rfl, t⟩
  · cases t with
    | rol h hs => exact ⟨_, _, rfl, g.sqL h, hs⟩
  · exact t.elim
theorem Top.dct {ks : List Key} {ds : List D} (t : Top C H G v (.dct ks ds)) (g : Ge G H) : ∃ a, ∃ kvs : List (Key × V), v = .ref a ∧ Rd H a (.dK kvs) ∧ kvs.map Prod.fst = ks ∧ IsDs C G (kvs.map Prod.snd) ds := by
  rcases t with t | ⟨a, rfl, t⟩
  · cases t with
    | dct h e hs => exact ⟨_, _, rfl, g.rd h, e, hs⟩
  · obtain ⟨xs, h1, h0, h2⟩ := t
    exact ⟨a, xs, rfl, h1, h0, h2⟩
theorem Top.ins {c : String} {ns : List Str} {ds : List D} (t : Top C H G v (.ins c ns ds)) (g : Ge G H) : ∃ a dx fs, v = .ref a ∧ H a = some (.ins (C.CA c) dx fs) ∧ fs.map Prod.fst = ns ∧ IsDs C G (fs.map Prod.snd) ds := by
  rcases t with t | ⟨a, rfl, t⟩
  · cases t with
    | ins h e hs => exact ⟨_, _, _, rfl, g _ _ h, e, hs⟩
  · obtain ⟨dx, xs, h1, h0, h2⟩ := t
    exact ⟨a, dx, xs, rfl, h1, h0, h2⟩
/-- a list or a tuple -/
def seqD : D → Option (List D)
  | .lst l => some l
  | .rol l => some l
  | .tup l => some l
  | _ => none
theorem Top.seq {d : D} {ds : List D} (t : Top C H G v d) (g : Ge G H) (e : seqD d = some ds) : ∃ a xs, v = .ref a ∧ (SqL C.K H a xs ∨ SqT C.K H a xs) ∧ IsDs C G xs ds := by
  cases d <;> cases e
  · obtain ⟨a, xs, h1, h2, h3⟩ := t.tup g; exact ⟨a, xs, h1, .inr h2, h3⟩
  · obtain ⟨a, xs, h1, h2, h3⟩ := t.lst g; exact ⟨a, xs, h1, .inl (SqL.of h2), h3⟩
  · obtain ⟨a, xs, h1, h2, h3⟩ := t.rol g; exact ⟨a, xs, h1, .inl h2, h3⟩
theorem Rel.back (r : Rel C W σ ρ H G) {v' : V} {d : D} (h : IsD C G v' d) {Q : VK} (k : ∀ v' H' G', Ge G G' → Rel C W σ ρ H' G' → VOk C W σ ρ H' G' v' (.dat d) → Q v' H') : Q v' H := k v' H G (Ge.refl _) r h
/-- a new tuple -/
theorem Rel.backTup (r : Rel C W σ ρ H G) {xs : List V} {ds : List D} (h : IsDs C G xs ds) {Q : VK} (k : ∀ v' H' G', Ge G G' → Rel C W σ ρ H' G' → VOk C W σ ρ H' G' v' (.dat (.tup ds)) → Q v' H') {p : Addr} (hp : H p = none) : Q (.ref p) (upd H p (.tup xs)) := by
  have g : Ge G (upd G p (.tup xs)) := Ge.upd (r.gNone hp)
  exact k _ _ _ g (r.frz hp) (.tup (SqT.of upd_same) (h.ge g))
theorem Rel.backLst (r : Rel C W σ ρ H G) {xs : List V} {ds : List D} (h : IsDs C G xs ds) {Q : VK} (k : ∀ v' H' G', Ge G G' → Rel C W σ ρ H' G' → VOk C W σ ρ H' G' v' (.own (.lst ds)) → Q v' H') {p : Addr} (hp : H p = none) : Q (.ref p) (upd H p (.lst xs)) :=
  k _ _ _ (Ge.refl _) (r.new hp) (r.newV hp ⟨xs, upd_same, h⟩)
end

/-! ## arithmetic -/
def xint (i : Int) : XV := .dat (.int i)
def xbl (b : Bool) : XV := .dat (.bl b)
section
variable {C : Cst}
theorem op2I {r : R2} {Cn : Int → Int → Prop} {g : Int → Int → Int} {op : D → D → Option XV} (h : ∀ d e x, op d e = some x → ∃ i j, d = .int i ∧ e = .int j ∧ Cn i j ∧ x = xint (g i j)) : Op2Ok C (rI Cn fun i j => .int (g i j)) op := by
  intro W σ ρ H G v w d e x Q rl t1 t2 eq k
  obtain ⟨i, j, rfl, rfl, c, rfl⟩ := h _ _ _ eq
  exact ⟨i, j, t1.int, t2.int, c, rl.back (.int _) k⟩
theorem op2I0 {g : Int → Int → Int} {op : D → D → Option XV} (h : ∀ d e x, op d e = some x → ∃ i j, d = .int i ∧ e = .int j ∧ x = xint (g i j)) : Op2Ok C (rI0 fun i j => .int (g i j)) op := by
  intro W σ ρ H G v w d e x Q rl t1 t2 eq k
  obtain ⟨i, j, rfl, rfl, rfl⟩ := h _ _ _ eq
  exact ⟨i, j, t1.int, t2.int, rl.back (.int _) k⟩
theorem op2B0 {g : Int → Int → Bool} {op : D → D → Option XV} (h : ∀ d e x, op d e = some x → ∃ i j, d = .int i ∧ e = .int j ∧ x = xbl (g i j)) : Op2Ok C (rI0 fun i j => .bl (g i j)) op := by
  intro W σ ρ H G v w d e x Q rl t1 t2 eq k
  obtain ⟨i, j, rfl, rfl, rfl⟩ := h _ _ _ eq
  exact ⟨i, j, t1.int, t2.int, rl.back (.bl _) k⟩
end
def addI : D → D → Option XV
  | .int i, .int j => some (xint (i + j))
  | _, _ => none
def subD : D → D → Option XV
  | .int i, .int j => some (xint (i - j))
  | _, _ => none
def mulI : D → D → Option XV
  | .int i, .int j => if i.natAbs.log2 + j.natAbs.log2 < 1000000 then some (xint (i * j)) else none
  | _, _ => none
def fdivD : D → D → Option XV
  | .int i, .int j => if 0 < j ∧ j.natAbs.log2 < 9000 then some (xint (i / j)) else none
  | _, _ => none
def modD : D → D → Option XV
  | .int i, .int j => if 0 < j then some (xint (i % j)) else none
  | _, _ => none
def powD : D → D → Option XV
  | .int i, .int j => if 0 ≤ j ∧ j.natAbs ≤ 1000000 ∧ i.natAbs < 18446744073709551616 then some (xint (i ^ j.toNat)) else none
  | _, _ => none
def negD : D → Option XV
  | .int i => some (xint (-i))
  | _ => none
def ltD : D → D → Option XV
  | .int i, .int j => some (xbl (decide (i < j)))
  | _, _ => none
def leD : D → D → Option XV
  | .int i, .int j => some (xbl (decide (i ≤ j)))
  | _, _ => none
def gtD : D → D → Option XV
  | .int i, .int j => some (xbl (decide (j < i)))
  | _, _ => none
def geD : D → D → Option XV
  | .int i, .int j => some (xbl (decide (j ≤ i)))
  | _, _ => none
section
variable {C : Cst}
theorem addI_ok : Op2Ok C (rI0 fun i j => .int (i + j)) addI := op2I0 fun d e x h => by
  cases d <;> cases e <;> cases h; exact ⟨_, _, rfl, rfl, rfl⟩
theorem subD_ok : Op2Ok C (rI0 fun i j => .int (i - j)) subD := op2I0 fun d e x h => by
  cases d <;> cases e <;> cases h; exact ⟨_, _, rfl, rfl, rfl⟩
theorem mulI_ok : Op2Ok C (rI CMulW fun i j => .int (i * j)) mulI := op2I (r := rI CMulW fun i j => .int (i * j)) fun d e x h => by
  cases d <;> cases e <;> first | (unfold mulI at h; cases h; done) | skip
  unfold mulI at h
  dsimp only at h
  split at h
  · cases h; rename_i q; exact ⟨_, _, rfl, rfl, q, rfl⟩
  · cases h
theorem fdivD_ok : Op2Ok C (rI CDivW fun i j => .int (i / j)) fdivD := op2I (r := rI CDivW fun i j => .int (i / j)) fun d e x h => by
  cases d <;> cases e <;> first | (unfold fdivD at h; cases h; done) | skip
  unfold fdivD at h
  dsimp only at h
  split at h
  · cases h; rename_i q; exact ⟨_, _, rfl, rfl, q, rfl⟩
  · cases h
theorem modD_ok : Op2Ok C (rI (fun _ j => 0 < j) fun i j => .int (i % j)) modD := op2I (r := rI (fun _ j => 0 < j) fun i j => .int (i % j)) fun d e x h => by
  cases d <;> cases e <;> first | (unfold modD at h; cases h; done) | skip
  unfold modD at h
  dsimp only at h
  split at h
  · cases h; rename_i q; exact ⟨_, _, rfl, rfl, q, rfl⟩
  · cases h
theorem powD_ok : Op2Ok C (rI CPow fun i j => .int (i ^ j.toNat)) powD := op2I (r := rI CPow fun i j => .int (i ^ j.toNat)) fun d e x h => by
  cases d <;> cases e <;> first | (unfold powD at h; cases h; done) | skip
  unfold powD at h
  dsimp only at h
  split at h
  · cases h; rename_i q; exact ⟨_, _, rfl, rfl, ⟨q.1, by have := q.2.1; omega, by have := q.2.2; omega⟩, rfl⟩
  · cases h
theorem negD_ok : Op1Ok C (rU fun i => .int (-i)) negD := by
  intro W σ ρ H G v d x Q rl t eq k
  cases d <;> cases eq
  exact ⟨_, t.int, rl.back (.int _) k⟩
theorem ltD_ok : Op2Ok C (rI0 fun i j => .bl (decide (i < j))) ltD := op2B0 fun d e x h => by
  cases d <;> cases e <;> cases h; exact ⟨_, _, rfl, rfl, rfl⟩
theorem leD_ok : Op2Ok C (rI0 fun i j => .bl (decide (i ≤ j))) leD := op2B0 fun d e x h => by
  cases d <;> cases e <;> cases h; exact ⟨_, _, rfl, rfl, rfl⟩
theorem gtD_ok : Op2Ok C (rI0 fun i j => .bl (decide (j < i))) gtD := op2B0 fun d e x h => by
  cases d <;> cases e <;> cases h; exact ⟨_, _, rfl, rfl, rfl⟩
theorem geD_ok : Op2Ok C (rI0 fun i j => .bl (decide (j ≤ i))) geD := op2B0 fun d e x h => by
  cases d <;> cases e <;> cases h; exact ⟨_, _, rfl, rfl, rfl⟩
end
/-! ## + and * of rows -/
def catD : D → D → Option XV
  | .lst a, .lst b => if a.length + b.length ≤ LIM then some (.own (.lst (a ++ b))) else none
  | _, _ => none
def catT : D → D → Option XV
  | .tup a, .tup b => if a.length + b.length ≤ LIM then some (.dat (.tup (a ++ b))) else none
  | _, _ => none
def catS : D → D → Option XV
  | .str a, .str b => if a.length + b.length ≤ LIM then some (.dat (.str (a ++ b))) else none
  | _, _ => none
def repD : D → D → Option XV
  | .lst a, .int k => if k.natAbs ≤ 1000000 ∧ a.length * k.toNat ≤ LIM then some (.own (.lst (List.replicate k.toNat a).flatten)) else none
  | _, _ => none
def addD (d e : D) : Option XV := (((addI d e).or (catD d e)).or (catT d e)).or (catS d e)
theorem IsDs.rep {C : Cst} {G : Hp} {xs : List V} {ds : List D} (h : IsDs C G xs ds) : ∀ k : Nat, IsDs C G (List.replicate k xs).flatten (List.replicate k ds).flatten
  | 0 => .nil
  | k + 1 => by
    rw [List.replicate_succ, List.replicate_succ, List.flatten_cons, List.flatten_cons]
    exact h.append (h.rep k)
section
variable {C : Cst}
theorem catD_ok : Op2Ok C rCat catD := by
  intro W σ ρ H G v w d e x Q rl t1 t2 eq k
  cases d <;> cases e <;> first | (unfold catD at eq; cases eq; done) | skip
  unfold catD at eq
  dsimp only at eq
  split at eq
  · cases eq
    rename_i q
    obtain ⟨a, xs, rfl, h1, h2⟩ := t1.lst rl.gh
    obtain ⟨b, ys, rfl, k1, k2⟩ := t2.lst rl.gh
    exact ⟨a, b, xs, ys, rfl, rfl, h1, k1, by rw [h2.length, k2.length]; exact lim_le q, fun p hp => rl.backLst (h2.append k2) k hp⟩
  · cases eq
theorem catT_ok : Op2Ok C (rCatA C.K) catT := by
  intro W σ ρ H G v w d e x Q rl t1 t2 eq k
  cases d <;> cases e <;> first | (unfold catT at eq; cases eq; done) | skip
  unfold catT at eq
  dsimp only at eq
  split at eq
  · cases eq
    rename_i q
    have t1' := t1
    have t2' := t2
    obtain ⟨a, xs, rfl, h1, h2⟩ := t1.tup rl.gh
    obtain ⟨b, ys, rfl, k1, k2⟩ := t2.tup rl.gh
    refine ⟨a, b, xs, ys, rfl, rfl, h1, k1, by rw [h2.length, k2.length]; exact lim_le q, fun e => ?_, fun _ e => ?_, fun _ _ p hp => rl.backTup (h2.append k2) k hp⟩
    · subst e
      cases h2
      rcases t2' with t2' | ⟨_, _, z⟩
      · exact rl.back t2' k
      · exact z.elim
    · subst e
      cases k2
      rw [List.append_nil] at k
      rcases t1' with t1' | ⟨_, _, z⟩
      · exact rl.back t1' k
      · exact z.elim
  · cases eq
theorem catS_ok : Op2Ok C (fun x y H Q => ∃ i j, x = .str i ∧ y = .str j ∧ i.length + j.length ≤ sizeLine ∧ Q (.str (i ++ j)) H) catS := by
  intro W σ ρ H G v w d e x Q rl t1 t2 eq k
  cases d <;> cases e <;> first | (unfold catS at eq; cases eq; done) | skip
  unfold catS at eq
  dsimp only at eq
  split at eq
  · cases eq
    rename_i q
    exact ⟨_, _, t1.str, t2.str, lim_le q, rl.back (.str _) k⟩
  · cases eq
theorem repD_ok : Op2Ok C rRep repD := by
  intro W σ ρ H G v w d e x Q rl t1 t2 eq k
  cases d <;> cases e <;> first | (unfold repD at eq; cases eq; done) | skip
  unfold repD at eq
  dsimp only at eq
  split at eq
  · cases eq
    rename_i q
    obtain ⟨a, xs, rfl, h1, h2⟩ := t1.lst rl.gh
    exact ⟨a, _, xs, rfl, t2.int, h1, by have := q.1; omega, by have := q.1; omega, by rw [h2.length]; exact lim_le q.2, fun p hp => rl.backLst (h2.rep _) k hp⟩
  · cases eq
end

/-! ## == of data -/
mutual
def toP : D → Option PyData
  | .non => some .none
  | .bl b => some (.bool b)
  | .int i => some (.int i)
  | .str x => some (.str x)
  | .tup l => (toPs l).map .tuple
  | .lst l => (toPs l).map .list
  | .rol l => (toPs l).map .list
  | .dct _ _ => none
  | .ins _ _ _ => none
  | .opq => none
def toPs : List D → Option (List PyData)
  | [] => some []
  | x :: xs => match toP x, toPs xs with
    | some a, some b => some (a :: b)
    | _, _ => none
end
mutual
theorem dp_of {C : Cst} {H : Hp} : ∀ (d : D) {v : V} {p : PyData}, IsD C H v d → toP d = some p → Dp C.K H v p
  | .non, _, _, .non, e => by cases e; exact .non
  | .bl _, _, _, .bl b, e => by cases e; exact .bl b
  | .int _, _, _, .int b, e => by cases e; exact .int b
  | .str _, _, _, .str b, e => by cases e; exact .str b
  | .tup l, _, _, .tup h hs, e => by
    unfold toP at e
    cases z : toPs l with
    | none => rw [z] at e; cases e
    | some q => rw [z] at e; cases e; exact .tup h (dps_of l hs z)
  | .lst l, _, _, .lst h hs, e => by
    unfold toP at e
    cases z : toPs l with
    | none => rw [z] at e; cases e
    | some q => rw [z] at e; cases e; exact .lst (SqL.of h) (dps_of l hs z)
  | .rol l, _, _, .rol h hs, e => by
    unfold toP at e
    cases z : toPs l with
    | none => rw [z] at e; cases e
    | some q => rw [z] at e; cases e; exact .lst h (dps_of l hs z)
  | .dct _ _, _, _, _, e => by unfold toP at e; cases e
  | .opq, _, _, _, e => by unfold toP at e; cases e
  | .ins _ _ _, _, _, _, e => by unfold toP at e; cases e
theorem dps_of {C : Cst} {H : Hp} : ∀ (l : List D) {vs : List V} {ps : List PyData}, IsDs C H vs l → toPs l = some ps → DpAll C.K H vs ps
  | [], _, _, .nil, e => by unfold toPs at e; cases e; exact .nil
  | d :: ds, _, _, .cons h hs, e => by
    unfold toPs at e
    cases z : toP d with
    | none => rw [z] at e; cases e
    | some q =>
      rw [z] at e
      cases z' : toPs ds with
      | none => rw [z'] at e; cases e
      | some q' => rw [z'] at e; cases e; exact .cons (dp_of d h z) (dps_of ds hs z')
end
def eqDat (d e : D) : Option Bool := match toP d, toP e with
  | some a, some b => if SeqAt.shaped a = true ∧ SeqAt.shaped b = true then some (PyData.eqv a b) else none
  | _, _ => none
def eqD (d e : D) : Option XV := (eqDat d e).map xbl
def neD (d e : D) : Option XV := (eqDat d e).map fun b => xbl (!b)
theorem eqDat_some {d e : D} {b : Bool} (h : eqDat d e = some b) : ∃ p q, toP d = some p ∧ toP e = some q ∧ SeqAt.shaped p = true ∧ SeqAt.shaped q = true ∧ b = PyData.eqv p q := by
  unfold eqDat at h
  cases z : toP d with
  | none => rw [z] at h; cases h
  | some p =>
    cases z' : toP e with
    | none => rw [z, z'] at h; cases h
    | some q =>
      rw [z, z'] at h
      dsimp only at h
      split at h
      · cases h; rename_i q; exact ⟨_, _, rfl, rfl, q.1, q.2, rfl⟩
      · cases h
theorem eqD_ok {C : Cst} : Op2Ok C (rEqD C.K) eqD := by
  intro W σ ρ H G v w d e x Q rl t1 t2 eq k
  unfold eqD at eq
  cases z : eqDat d e with
  | none => rw [z] at eq; cases eq
  | some b =>
    rw [z] at eq; cases eq
    obtain ⟨p, q, h1, h2, h3, h4, rfl⟩ := eqDat_some z
    exact ⟨p, q, dp_of d (t1.isD rl.gh) h1, dp_of e (t2.isD rl.gh) h2, h3, h4, rl.back (.bl _) k⟩
theorem neD_ok {C : Cst} : Op2Ok C (rNeD C.K) neD := by
  intro W σ ρ H G v w d e x Q rl t1 t2 eq k
  unfold neD at eq
  cases z : eqDat d e with
  | none => rw [z] at eq; cases eq
  | some b =>
    rw [z] at eq; cases eq
    obtain ⟨p, q, h1, h2, h3, h4, rfl⟩ := eqDat_some z
    exact ⟨p, q, dp_of d (t1.isD rl.gh) h1, dp_of e (t2.isD rl.gh) h2, h3, h4, rl.back (.bl _) k⟩
/-! ## is None, is True, is False -/
def rIsC (neg : Bool) : R2 := fun x y H Q => (y = .non ∨ ∃ b, y = .bl b) ∧ Q (.bl (if neg then !decide (x = y) else decide (x = y))) H
theorem plain_of {x y : V} {v u : Value} (rx : RelV x v) (ry : RelV y u) (h : y = .non ∨ ∃ b, y = .bl b) : plainIs v u = true ∧ (v == u) = decide (x = y) := by
  rcases h with rfl | ⟨b, rfl⟩
  · have e : u = Value.none := ry
    subst e
    refine ⟨?_, RelV.none_iff rx⟩
    cases x <;> (first | (obtain ⟨t, rfl⟩ := rx; rfl) | (have q := rx; unfold RelV at q; subst q; rfl))
  · have e : u = Value.bool b := ry
    subst e
    cases x with
    | bl c =>
      have q : v = Value.bool c := rx
      subst q
      refine ⟨rfl, ?_⟩
      cases b <;> cases c <;> rfl
    | non => have q : v = Value.none := rx; subst q; exact ⟨rfl, rfl⟩
    | int i => obtain ⟨t, rfl⟩ := rx; exact ⟨rfl, rfl⟩
    | str i => obtain ⟨t, rfl⟩ := rx; exact ⟨rfl, rfl⟩
    | byt i => obtain ⟨t, rfl⟩ := rx; exact ⟨rfl, rfl⟩
    | flt i => obtain ⟨t, rfl⟩ := rx; exact ⟨rfl, rfl⟩
    | ref a => have q : v = Value.ref a := rx; subst q; exact ⟨rfl, rfl⟩
    | ty n => have q : v = Value.type n := rx; subst q; exact ⟨rfl, rfl⟩
theorem op_isC {X : Cx} : OpR X (compareOp .Is) (rIsC false) := by
  intro pins s σ H x y v u Q I rx ry h
  obtain ⟨p, e⟩ := plain_of rx ry h.1
  refine wpAny_is_plain p ⟨.bl _, H, I, ?_, h.2⟩
  rw [e]; rfl
theorem op_isNotC {X : Cx} : OpR X (compareOp .IsNot) (rIsC true) := by
  intro pins s σ H x y v u Q I rx ry h
  obtain ⟨p, e⟩ := plain_of rx ry h.1
  refine wpAny_isNot_plain p ⟨.bl _, H, I, ?_, h.2⟩
  rw [e]; rfl
/-- whether it is that constant -/
def isC : D → D → Bool
  | .non, .non => true
  | .bl a, .bl b => a == b
  | _, _ => false
def cstD : D → Bool
  | .non => true
  | .bl _ => true
  | _ => false
def D.isOpq : D → Bool
  | .opq => true
  | _ => false
def isD (d e : D) : Option XV := if cstD e = true then (if d.isOpq = true then none else some (xbl (isC d e))) else none
def isNotD (d e : D) : Option XV := if cstD e = true then (if d.isOpq = true then none else some (xbl (!isC d e))) else none
theorem isC_of {C : Cst} {H : Hp} {v w : V} {d e : D} (h : IsD C H v d) (k : IsD C H w e) (c : cstD e = true) (no : ¬ d.isOpq = true) : (w = .non ∨ ∃ b, w = .bl b) ∧ decide (v = w) = isC d e := by
  cases k <;> first | (cases c; done) | skip
  · refine ⟨.inl rfl, ?_⟩
    cases h <;> first | rfl | exact absurd rfl no
  · refine ⟨.inr ⟨_, rfl⟩, ?_⟩
    cases h <;> first | rfl | exact absurd rfl no | skip
    rename_i b a
    cases a <;> cases b <;> rfl
theorem isD_ok {C : Cst} : Op2Ok C (rIsC false) isD := by
  intro W σ ρ H G v w d e x Q rl t1 t2 eq k
  unfold isD at eq
  by_cases c : cstD e = true
  case neg => rw [if_neg c] at eq; cases eq
  rw [if_pos c] at eq
  split at eq
  case isTrue => cases eq
  · cases eq
    rename_i no
    obtain ⟨h1, h2⟩ := isC_of (t1.isD rl.gh) (t2.isD rl.gh) c no
    refine ⟨h1, ?_⟩
    show Q (.bl (decide (v = w))) H
    rw [h2]
    exact rl.back (.bl _) k
theorem isNotD_ok {C : Cst} : Op2Ok C (rIsC true) isNotD := by
  intro W σ ρ H G v w d e x Q rl t1 t2 eq k
  unfold isNotD at eq
  by_cases c : cstD e = true
  case neg => rw [if_neg c] at eq; cases eq
  rw [if_pos c] at eq
  split at eq
  case isTrue => cases eq
  · cases eq
    rename_i no
    obtain ⟨h1, h2⟩ := isC_of (t1.isD rl.gh) (t2.isD rl.gh) c no
    refine ⟨h1, ?_⟩
    show Q (.bl (!decide (v = w))) H
    rw [h2]
    exact rl.back (.bl _) k

/-! ## in, not in -/
def rInG (K : PySem.W.Frag) (neg : Bool) : R2 := fun x y H Q => ∃ d e ds, Dp K H x d ∧ Dp K H y e ∧ (e = .list ds ∨ e = .tuple ds) ∧ SeqAt.shaped d = true ∧ PyData.canLayAll0 ds = true ∧ Q (.bl (if neg then !(ds.any fun z => PyData.eqv z d) else ds.any fun z => PyData.eqv z d)) H
theorem op_inG {X : Cx} (hu : X.A.units + 65 < cLine) : OpR X (compareOp .In) (rInG X.K false) := by
  intro pins s σ H x y v u Q I rx ry h
  obtain ⟨d, e, ds, hd, he, hk, sd, sl, q⟩ := h
  obtain ⟨as, r1⟩ := Dp.reads I d x v hd rx
  obtain ⟨bs, r2⟩ := Dp.reads I e y u he ry
  rcases hk with rfl | rfl
  · exact SeqAt.in_list_reads r2 r1 sl (SeqAt.canLay_of_shaped sd) (PyProof.Rows.room_in_shaped sd hu) ⟨.bl _, H, I, rfl, q⟩
  · exact SeqAt.in_tuple_reads r2 r1 sl (SeqAt.canLay_of_shaped sd) (PyProof.Rows.room_in_shaped sd hu) ⟨.bl _, H, I, rfl, q⟩
theorem op_notInG {X : Cx} (hu : X.A.units + 65 < cLine) : OpR X (compareOp .NotIn) (rInG X.K true) := by
  intro pins s σ H x y v u Q I rx ry h
  obtain ⟨d, e, ds, hd, he, hk, sd, sl, q⟩ := h
  obtain ⟨as, r1⟩ := Dp.reads I d x v hd rx
  obtain ⟨bs, r2⟩ := Dp.reads I e y u he ry
  rcases hk with rfl | rfl
  · exact SeqAt.notIn_list_reads r2 r1 sl (SeqAt.canLay_of_shaped sd) (PyProof.Rows.room_in_shaped sd hu) ⟨.bl _, H, I, rfl, q⟩
  · exact SeqAt.notIn_tuple_reads r2 r1 sl (SeqAt.canLay_of_shaped sd) (PyProof.Rows.room_in_shaped sd hu) ⟨.bl _, H, I, rfl, q⟩
def inDat (d e : D) : Option Bool := match seqD e with
  | some l => match toP d, toPs l with
    | some p, some ps => if SeqAt.shaped p = true ∧ PyData.canLayAll0 ps = true then some (ps.any fun z => PyData.eqv z p) else none
    | _, _ => none
  | none => none
def inS (d e : D) : Option XV := (inDat d e).map xbl
def notInS (d e : D) : Option XV := (inDat d e).map fun b => xbl (!b)
theorem inDat_some {C : Cst} {H G : Hp} {v w : V} {d e : D} {b : Bool} (g : Ge G H) (h : inDat d e = some b) (t1 : Top C H G v d) (t2 : Top C H G w e) :
    ∃ p q ds, Dp C.K H v p ∧ Dp C.K H w q ∧ (q = .list ds ∨ q = .tuple ds) ∧ SeqAt.shaped p = true ∧ PyData.canLayAll0 ds = true ∧ b = ds.any fun z => PyData.eqv z p := by
  unfold inDat at h
  cases zs : seqD e with
  | none => rw [zs] at h; cases h
  | some l =>
    rw [zs] at h
    dsimp only at h
    cases z : toP d with
    | none => rw [z] at h; cases h
    | some p =>
      cases z' : toPs l with
      | none => rw [z, z'] at h; cases h
      | some ps =>
        rw [z, z'] at h
        dsimp only at h
        split at h
        · cases h
          rename_i q
          obtain ⟨a, xs, rfl, h1, h2⟩ := t2.seq g zs
          have dps := dps_of l (h2.ge g) z'
          rcases h1 with h1 | h1
          · exact ⟨p, _, ps, dp_of d (t1.isD g) z, .lst h1 dps, .inl rfl, q.1, q.2, rfl⟩
          · exact ⟨p, _, ps, dp_of d (t1.isD g) z, .tup h1 dps, .inr rfl, q.1, q.2, rfl⟩
        · cases h
theorem inS_ok {C : Cst} : Op2Ok C (rInG C.K false) inS := by
  intro W σ ρ H G v w d e x Q rl t1 t2 eq k
  unfold inS at eq
  cases z : inDat d e with
  | none => rw [z] at eq; cases eq
  | some b =>
    rw [z] at eq; cases eq
    obtain ⟨p, q, ds, h1, h2, h3, h4, h5, rfl⟩ := inDat_some rl.gh z t1 t2
    exact ⟨p, q, ds, h1, h2, h3, h4, h5, rl.back (.bl _) k⟩
theorem notInS_ok {C : Cst} : Op2Ok C (rInG C.K true) notInS := by
  intro W σ ρ H G v w d e x Q rl t1 t2 eq k
  unfold notInS at eq
  cases z : inDat d e with
  | none => rw [z] at eq; cases eq
  | some b =>
    rw [z] at eq; cases eq
    obtain ⟨p, q, ds, h1, h2, h3, h4, h5, rfl⟩ := inDat_some rl.gh z t1 t2
    exact ⟨p, q, ds, h1, h2, h3, h4, h5, rl.back (.bl _) k⟩

/-! ## rules -/
section
variable {ι : Type} {J : Jd} {Xs : ι → Cx} {a b c : Expr} {f g h : Env → R XV} {pos : Pos}
theorem Good.units {X : Cx} (G : Good J X) : X.A.units + 64 < cLine := G.hr.units
theorem Good.units65 {X : Cx} (G : Good J X) : X.A.units + 65 < cLine := by have := G.hr.un; omega
theorem ce_add (ha : CE J Xs a f) (hb : CE J Xs b g) : CE J Xs (.BinOp a .Add b pos) (op2S addD f g) :=
  ce_op (fun X G => by have := OpR.or (OpR.or (OpR.or (op_add (X := X)) op_cat) op_catA) op_add_str; rw [G.hK] at this; exact this) (((addI_ok.or catD_ok).or catT_ok).or catS_ok) ha hb
theorem ce_sub (ha : CE J Xs a f) (hb : CE J Xs b g) : CE J Xs (.BinOp a .Sub b pos) (op2S subD f g) := ce_op (fun X G => op_sub) subD_ok ha hb
theorem ce_fdiv (ha : CE J Xs a f) (hb : CE J Xs b g) : CE J Xs (.BinOp a .FloorDiv b pos) (op2S fdivD f g) := ce_op (fun X G => op_fdivW) fdivD_ok ha hb
theorem ce_mod (ha : CE J Xs a f) (hb : CE J Xs b g) : CE J Xs (.BinOp a .Mod b pos) (op2S modD f g) := ce_op (fun X G => op_mod) modD_ok ha hb
theorem ce_pow (ha : CE J Xs a f) (hb : CE J Xs b g) : CE J Xs (.BinOp a .Pow b pos) (op2S powD f g) := ce_op (fun X G => op_pow) powD_ok ha hb
theorem ce_neg (ha : CE J Xs a f) : CE J Xs (.UnaryOp .USub a pos) (op1S negD f) := ce_un (fun X G => un_neg) negD_ok ha
theorem ok_lt : ∀ X, Good J X → OpR X (compareOp .Lt) (rI0 fun i j => .bl (decide (i < j))) := fun X G => op_lt
theorem ok_le : ∀ X, Good J X → OpR X (compareOp .LtE) (rI0 fun i j => .bl (decide (i ≤ j))) := fun X G => op_le
theorem ok_gt : ∀ X, Good J X → OpR X (compareOp .Gt) (rI0 fun i j => .bl (decide (j < i))) := fun X G => op_gt
theorem ok_ge : ∀ X, Good J X → OpR X (compareOp .GtE) (rI0 fun i j => .bl (decide (j ≤ i))) := fun X G => op_ge
theorem ok_eq : ∀ X, Good J X → OpR X (compareOp .Eq) (rEqD J.C.K) := fun X G => by rw [← G.hK]; exact op_eqD G.units
theorem ok_ne : ∀ X, Good J X → OpR X (compareOp .NotEq) (rNeD J.C.K) := fun X G => by rw [← G.hK]; exact op_neD G.units
theorem ok_is : ∀ X, Good J X → OpR X (compareOp .Is) (rIsC false) := fun X G => op_isC
theorem ok_isNot : ∀ X, Good J X → OpR X (compareOp .IsNot) (rIsC true) := fun X G => op_isNotC
theorem ok_in : ∀ X, Good J X → OpR X (compareOp .In) (rInG J.C.K false) := fun X G => by rw [← G.hK]; exact op_inG G.units65
theorem ok_notIn : ∀ X, Good J X → OpR X (compareOp .NotIn) (rInG J.C.K true) := fun X G => by rw [← G.hK]; exact op_notInG G.units65
end
end DL
namespace DL
open PySem L2

/-! ## * -/
def repT : D → D → Option XV
  | .tup a, .int k => if 2 ≤ k ∧ k.natAbs ≤ 1000 ∧ a.length ≤ 1000 ∧ a.isEmpty = false then some (.dat (.tup (List.replicate k.toNat a).flatten)) else none
  | _, _ => none
theorem repT_ok {C : Cst} : Op2Ok C (rRepT C.K) repT := by
  intro W σ ρ H G v w d e x Q rl t1 t2 eq k
  cases d <;> cases e <;> first | (unfold repT at eq; cases eq; done) | skip
  unfold repT at eq
  dsimp only at eq
  split at eq
  · cases eq
    rename_i q
    obtain ⟨a, xs, rfl, h1, h2⟩ := t1.tup rl.gh
    refine ⟨a, _, xs, rfl, t2.int, h1, fun z => ?_, q.1, by have := q.2.1; omega, by rw [h2.length]; exact q.2.2.1, fun p hp => rl.backTup (h2.rep _) k hp⟩
    subst z
    cases h2
    cases q.2.2.2
  · cases eq
def mulD (d e : D) : Option XV := ((mulI d e).or (repD d e)).or (repT d e)
theorem ce_mul {ι : Type} {J : Jd} {Xs : ι → Cx} {a b : Expr} {f g : Env → R XV} {pos : Pos} (ha : CE J Xs a f) (hb : CE J Xs b g) : CE J Xs (.BinOp a .Mult b pos) (op2S mulD f g) :=
  ce_op (fun X G => by have := OpR.or (OpR.or (op_mulW (X := X)) op_rep) op_repT; rw [G.hK] at this; exact this) ((mulI_ok.or repD_ok).or repT_ok) ha hb

/-! ## a[i] -/
def keyD : D → Option Key
  | .int i => some (.inl i)
  | .str s => some (.inr s)
  | _ => none
def dgetD : List Key → List D → Key → Option D
  | k :: ks, v :: vs, q => if k = q then some v else dgetD ks vs q
  | _, _, _ => none
theorem dget_of {C : Cst} {G : Hp} {q : Key} : ∀ {kvs : List (Key × V)} {vs : List D}, IsDs C G (kvs.map Prod.snd) vs →
    (∀ d, dgetD (kvs.map Prod.fst) vs q = some d → ∃ v, valV kvs q = some v ∧ IsD C G v d) ∧ (dgetD (kvs.map Prod.fst) vs q = none → valV kvs q = none)
  | [], _, .nil => ⟨fun d e => (by cases e), fun _ => rfl⟩
  | p :: kvs, d :: ds, .cons h hs => by
    have ih := dget_of (q := q) hs
    by_cases e : p.1 = q
    · refine ⟨fun d' z => ?_, fun z => ?_⟩
      · simp only [List.map_cons, dgetD, if_pos e] at z
        cases z
        exact ⟨p.2, valV_pos e, h⟩
      · simp only [List.map_cons, dgetD, if_pos e] at z
        cases z
    · refine ⟨fun d' z => ?_, fun z => ?_⟩
      · simp only [List.map_cons, dgetD, if_neg e] at z
        obtain ⟨v, h1, h2⟩ := ih.1 d' z
        exact ⟨v, by rw [valV_neg e]; exact h1, h2⟩
      · simp only [List.map_cons, dgetD, if_neg e] at z
        rw [valV_neg e]
        exact ih.2 z
theorem keyD_of {C : Cst} {H G : Hp} {v : V} {d : D} {q : Key} (t : Top C H G v d) (e : keyD d = some q) : v = kV q := by
  cases d <;> cases e
  · exact t.int
  · exact t.str
def ixL : D → D → Option XV
  | .lst l, .int i => (atI l i).map .dat
  | .rol l, .int i => (atI l i).map .dat
  | _, _ => none
def ixT : D → D → Option XV
  | .tup l, .int i => (atI l i).map .dat
  | _, _ => none
def ixS : D → D → Option XV
  | .str z, .int i => if z.length ≤ LIM then (atI z.cps.toList i).map fun c => .dat (.str ⟨#[c]⟩) else none
  | _, _ => none
def ixD : D → D → Option XV
  | .dct ks vs, k => (keyD k).bind fun q => (dgetD ks vs q).map .dat
  | _, _ => none
theorem atI_of {C : Cst} {G : Hp} {xs : List V} {ds : List D} {i : Int} {d : D} (h : IsDs C G xs ds) (e : atI ds i = some d) : ∃ v, atI xs i = some v ∧ IsD C G v d := by
  unfold atI at e ⊢
  rw [h.length]
  cases z : ixN ds.length i with
  | none => rw [z] at e; cases e
  | some j =>
    rw [z] at e
    exact h.get e
section
variable {C : Cst} {W : Fm} {σ : St} {ρ : Env} {H G : Hp}
theorem ixL_one (rl : Rel C W σ ρ H G) {a : Addr} {xs : List V} {l : List D} {i : Int} {x : XV} {Q : VK} (h1 : SqL C.K H a xs) (h2 : IsDs C G xs l) (eq : (atI l i).map XV.dat = some x)
    (k : ∀ v' H' G', Ge G G' → Rel C W σ ρ H' G' → VOk C W σ ρ H' G' v' x → Q v' H') : rIxL C.K (.ref a) (.int i) H Q := by
  cases z : atI l i with
  | none => rw [z] at eq; cases eq
  | some y =>
    rw [z] at eq; cases eq
    obtain ⟨u, h3, h4⟩ := atI_of h2 z
    exact ⟨a, xs, i, u, rfl, rfl, h1, h3, rl.back h4 k⟩
theorem ixL_ok : Op2Ok C (rIxL C.K) ixL := by
  intro W σ ρ H G v w d e x Q rl t1 t2 eq k
  cases d <;> first | (cases eq; done) | skip
  · cases e <;> first | (cases eq; done) | skip
    obtain ⟨a, xs, rfl, h1, h2⟩ := t1.lst rl.gh
    rw [t2.int]
    exact ixL_one rl (SqL.of h1) h2 eq k
  · cases e <;> first | (cases eq; done) | skip
    obtain ⟨a, xs, rfl, h1, h2⟩ := t1.rol rl.gh
    rw [t2.int]
    exact ixL_one rl h1 h2 eq k
theorem ixT_ok : Op2Ok C (rIxT C.K) ixT := by
  intro W σ ρ H G v w d e x Q rl t1 t2 eq k
  cases d <;> first | (cases eq; done) | skip
  cases e <;> first | (cases eq; done) | skip
  rename_i l i
  obtain ⟨a, xs, rfl, h1, h2⟩ := t1.tup rl.gh
  rw [t2.int]
  unfold ixT at eq
  dsimp only at eq
  cases z : atI l i with
  | none => rw [z] at eq; cases eq
  | some y =>
    rw [z] at eq; cases eq
    obtain ⟨u, h3, h4⟩ := atI_of h2 z
    exact ⟨a, xs, i, u, rfl, rfl, h1, h3, rl.back h4 k⟩
theorem ixS_ok : Op2Ok C rIxS ixS := by
  intro W σ ρ H G v w d e x Q rl t1 t2 eq k
  cases d <;> first | (cases eq; done) | skip
  cases e <;> first | (cases eq; done) | skip
  rename_i l i
  unfold ixS at eq
  dsimp only at eq
  split at eq
  · rename_i hl
    cases z : atI l.cps.toList i with
    | none => rw [z] at eq; cases eq
    | some y =>
      rw [z] at eq; cases eq
      exact ⟨l, i, y, t1.str, t2.int, lim_le hl, z, rl.back (.str _) k⟩
  · cases eq
def rDGet : R2 := fun x y H Q => ∃ a v, x = .ref a ∧ DGet H a y (some v) ∧ Q v H
theorem ixD_ok : Op2Ok C rDGet ixD := by
  intro W σ ρ H G v w d e x Q rl t1 t2 eq k
  cases d <;> first | (cases eq; done) | skip
  rename_i ks vs
  unfold ixD at eq
  dsimp only at eq
  cases z : keyD e with
  | none => rw [z] at eq; cases eq
  | some q =>
    rw [z] at eq
    dsimp only [Option.bind] at eq
    obtain ⟨a, kvs, rfl, h1, rfl, h2⟩ := t1.dct rl.gh
    cases z' : dgetD (kvs.map Prod.fst) vs q with
    | none => rw [z'] at eq; cases eq
    | some y =>
      rw [z'] at eq; cases eq
      obtain ⟨u, h3, h4⟩ := (dget_of (q := q) h2).1 y z'
      rw [keyD_of t2 z]
      refine ⟨a, u, rfl, ?_, rl.back h4 k⟩
      rw [← h3]
      exact Or.inl ⟨_, _, h1, rfl, rfl⟩
end
def ixA (d e : D) : Option XV := ((ixL d e).or ((ixT d e).or (ixS d e))).or (ixD d e)
theorem PE.or {X : Cx} {e : Expr} {t u : TE} (h : PE X e t) (h' : PE X e u) : PE X e (fun σ H Q => t σ H Q ∨ u σ H Q) :=
  ⟨fun pins s σ H Q I q => q.elim (h.run pins s σ H Q I) (h'.run pins s σ H Q I)⟩
theorem plainIx_noSl {b : Expr} (h : PlainIx b) : NoSl b := h
theorem op2S_or {p q : D → D → Option XV} {f g : Env → R XV} (ρ : Env) : op2S (fun d e => (p d e).or (q d e)) f g ρ = op2S p f g ρ ∨ op2S (fun d e => (p d e).or (q d e)) f g ρ = op2S q f g ρ := by
  unfold op2S
  cases opnd f ρ with
  | stuck => exact .inl rfl
  | exc _ _ _ _ => exact .inl rfl
  | ok x ρ1 =>
    dsimp only [R.bind]
    cases opnd g ρ1 with
    | stuck => exact .inl rfl
    | exc _ _ _ _ => exact .inl rfl
    | ok y ρ2 =>
      dsimp only
      unfold app2
      cases cont ρ2 x with
      | none => exact .inl rfl
      | some d =>
        cases cont ρ2 y with
        | none => exact .inl rfl
        | some e =>
          dsimp only
          cases z : p d e with
          | some w => exact .inl rfl
          | none => exact .inr rfl
theorem EvE.or {J : Jd} {t u : TE} {f f1 f2 : Env → R XV} (h1 : EvE J t f1) (h2 : EvE J u f2) (h : ∀ ρ, f ρ = f1 ρ ∨ f ρ = f2 ρ) : EvE J (fun σ H Q => t σ H Q ∨ u σ H Q) f := by
  intro W σ ρ H G Q pk rl g
  rcases h ρ with e | e
  · rw [e] at g; exact .inl (h1 W σ ρ H G Q pk rl g)
  · rw [e] at g; exact .inr (h2 W σ ρ H G Q pk rl g)
section
variable {ι : Type} {J : Jd} {Xs : ι → Cx} {a b c e : Expr} {es : List Expr} {f g h : Env → R XV} {fs : Env → R (List XV)} {pos : Pos}
theorem ixA_ok (C : Cst) : Op2Ok C (fun x y H Q => rIxL C.K x y H Q ∨ rIxT C.K x y H Q ∨ rIxS x y H Q) (fun d e => (ixL d e).or ((ixT d e).or (ixS d e))) := ixL_ok.or (ixT_ok.or ixS_ok)
/-- a[b] -/
theorem ce_ix (ha : CE J Xs a f) (hb : CE J Xs b g) (hs : PlainIx b := by intro _ _; rfl) : CE J Xs (.Subscript a b pos) (op2S ixA f g) := by
  obtain ⟨ta, a1, a2⟩ := ha
  obtain ⟨tb, b1, b2⟩ := hb
  refine ⟨fun σ H Q => tOp (rIx J.C.K) ta tb σ H Q ∨ tOp rDGet ta tb σ H Q, fun i G => ?_, ?_⟩
  · have h1 := pe_ix (pos := pos) (ix_seq (X := Xs i)) (a1 i G) (b1 i G) hs
    have h2 := pe_dget (pos := pos) (X := Xs i) (by have := G.units; omega) (a1 i G) (b1 i G) hs
    rw [G.hK] at h1
    exact PE.or h1 h2
  · exact EvE.or (ev_op2 a2 b2 (ixA_ok J.C)) (ev_op2 a2 b2 ixD_ok) fun ρ => op2S_or ρ

/-! ## built-ins -/
variable {C : Cst}
theorem Tops.one {H G : Hp} {vs : List V} {d : D} (h : Tops C H G vs [d]) : ∃ v, vs = [v] ∧ Top C H G v d := by
  cases h with
  | cons a b => cases b; exact ⟨_, rfl, a⟩
theorem Tops.two {H G : Hp} {vs : List V} {d e : D} (h : Tops C H G vs [d, e]) : ∃ v w, vs = [v, w] ∧ Top C H G v d ∧ Top C H G w e := by
  cases h with
  | cons a b => cases b with
    | cons b c => cases c; exact ⟨_, _, rfl, a, b⟩
def rOr (r r' : List V → Hp → VK → Prop) : List V → Hp → VK → Prop := fun x H Q => r x H Q ∨ r' x H Q
/-- len -/
def lenQ : List D → Option XV
  | [d] => (seqD d).map fun l => xint l.length
  | _ => none
def lenS : List D → Option XV
  | [.str z] => if z.length ≤ LIM then some (xint z.length) else none
  | _ => none
def lenK : List D → Option XV
  | [.dct ks _] => some (xint ks.length)
  | _ => none
theorem lenQ_ok : OpNOk C (fun xs H Q => ∃ p ys, xs = [.ref p] ∧ (SqL C.K H p ys ∨ SqT C.K H p ys) ∧ Q (.int ys.length) H) lenQ := by
  intro W σ ρ H G vs ds x Q rl t eq k
  unfold lenQ at eq
  split at eq
  · rename_i d
    cases z : seqD d with
    | none => rw [z] at eq; cases eq
    | some l =>
      rw [z] at eq; cases eq
      obtain ⟨v, rfl, t0⟩ := t.one
      obtain ⟨a, xs, rfl, h1, h2⟩ := t0.seq rl.gh z
      refine ⟨a, xs, rfl, h1, ?_⟩
      rw [h2.length]
      exact rl.back (.int _) k
  · cases eq
theorem lenS_ok : OpNOk C (fun xs H Q => ∃ z, xs = [.str z] ∧ z.length ≤ sizeLine ∧ Q (.int z.length) H) lenS := by
  intro W σ ρ H G vs ds x Q rl t eq k
  unfold lenS at eq
  split at eq
  · split at eq
    · cases eq
      rename_i h
      obtain ⟨v, rfl, t0⟩ := t.one
      rw [t0.str]
      exact ⟨_, rfl, lim_le h, rl.back (.int _) k⟩
    · cases eq
  · cases eq
theorem call_lenR {X : Cx} : CallR X (.builtin "len") (fun xs H Q => ∃ a kvs, xs = [V.ref a] ∧ Rd H a (.dK kvs) ∧ Q (.int kvs.length) H) := by
  intro pins s σ H xs us Q I rv ⟨a, kvs, e, ha, q⟩
  subst e
  obtain ⟨u, e, ru⟩ := vals1 rv
  subst e
  cases ru
  exact d_len I ha fun t s2 I2 => ⟨V.int kvs.length, H, I2, ⟨t, rfl⟩, q⟩
theorem lenK_ok : OpNOk C (fun xs H Q => ∃ a kvs, xs = [V.ref a] ∧ Rd H a (.dK kvs) ∧ Q (.int kvs.length) H) lenK := by
  intro W σ ρ H G vs ds x Q rl t eq k
  unfold lenK at eq
  split at eq
  · cases eq
    obtain ⟨v, rfl, t0⟩ := t.one
    obtain ⟨a, kvs, rfl, h1, rfl, h2⟩ := t0.dct rl.gh
    refine ⟨a, kvs, rfl, h1, ?_⟩
    rw [← List.length_map (f := Prod.fst)]
    exact rl.back (.int _) k
  · cases eq
def lenD (l : List D) : Option XV := (lenQ l).or ((lenS l).or (lenK l))
theorem ce_len {p : Pos} (hm : ∀ i, (Xs i).mg "len" = none) (ha : CA_ J Xs [e] fs) (hg : ∀ i, Gl (Xs i) "len" := by intro _; rfl) (he : ∀ i, starEach [e] (Xs i).env = (false, eval e (Xs i).env) :: starEach [] (Xs i).env := by intro _; rfl)
    (hpl : ∀ i, (backTo pos (starEach [] (Xs i).env)).any (·.1) = false := by intro _; rfl) : CE J Xs (.Call (.Name "len" p) [e] [] pos) (callS lenD fs) :=
  ce_callB (fun X G => by have := CallR.or (call_len_seq (X := X)) (CallR.or call_len_str call_lenR); rw [G.hK] at this; exact this) (lenQ_ok.or (lenS_ok.or lenK_ok)) hm (by decide +kernel) ha hg (by decide) (by decide) he hpl
/-- ints, bools out of data -/
def intsD : List D → Option (List Int)
  | [] => some []
  | .int i :: r => (intsD r).map (i :: ·)
  | _ :: _ => none
def blsD : List D → Option (List Bool)
  | [] => some []
  | .bl i :: r => (blsD r).map (i :: ·)
  | _ :: _ => none
theorem ints_of {G : Hp} : ∀ {xs : List V} {ds : List D} {ns : List Int}, IsDs C G xs ds → intsD ds = some ns → xs = ns.map V.int
  | _, _, _, .nil, e => by cases e; rfl
  | _, d :: ds, ns, .cons h hs, e => by
    cases d <;> first | (cases e; done) | skip
    unfold intsD at e
    cases z : intsD ds with
    | none => rw [z] at e; cases e
    | some ms => rw [z] at e; cases e; cases h; rw [ints_of hs z]; rfl
theorem bls_of {G : Hp} : ∀ {xs : List V} {ds : List D} {ns : List Bool}, IsDs C G xs ds → blsD ds = some ns → xs = ns.map V.bl
  | _, _, _, .nil, e => by cases e; rfl
  | _, d :: ds, ns, .cons h hs, e => by
    cases d <;> first | (cases e; done) | skip
    unfold blsD at e
    cases z : blsD ds with
    | none => rw [z] at e; cases e
    | some ms => rw [z] at e; cases e; cases h; rw [bls_of hs z]; rfl
/-- sum, all, any of a list -/
def lstD : D → Option (List D)
  | .lst l => some l
  | .rol l => some l
  | _ => none
theorem Top.lstD {H G : Hp} {v : V} {d : D} {ds : List D} (t : Top C H G v d) (g : Ge G H) (e : lstD d = some ds) : ∃ a xs, v = .ref a ∧ SqL C.K H a xs ∧ IsDs C G xs ds := by
  cases d <;> cases e
  · obtain ⟨a, xs, h1, h2, h3⟩ := t.lst g; exact ⟨a, xs, h1, SqL.of h2, h3⟩
  · obtain ⟨a, xs, h1, h2, h3⟩ := t.rol g; exact ⟨a, xs, h1, h2, h3⟩
def sumL : List D → Option XV
  | [d] => (lstD d).bind fun l => (intsD l).map fun ns => xint ns.sum
  | _ => none
def allL : List D → Option XV
  | [d] => (lstD d).bind fun l => (blsD l).map fun bs => xbl (bs.all id)
  | _ => none
def anyL : List D → Option XV
  | [d] => (lstD d).bind fun l => (blsD l).map fun bs => xbl (bs.any id)
  | _ => none
theorem sumL_ok : OpNOk C (rSum C.K) sumL := by
  intro W σ ρ H G vs ds x Q rl t eq k
  unfold sumL at eq
  split at eq
  · rename_i d
    cases z : lstD d with
    | none => rw [z] at eq; cases eq
    | some l =>
      rw [z] at eq
      dsimp only [Option.bind] at eq
      cases z' : intsD l with
      | none => rw [z'] at eq; cases eq
      | some ns =>
        rw [z'] at eq; cases eq
        obtain ⟨v, rfl, t0⟩ := t.one
        obtain ⟨a, xs, rfl, h1, h2⟩ := t0.lstD rl.gh z
        have := ints_of h2 z'
        subst this
        exact ⟨a, ns, rfl, h1, rl.back (.int _) k⟩
  · cases eq
theorem allL_ok : OpNOk C (rAll C.K) allL := by
  intro W σ ρ H G vs ds x Q rl t eq k
  unfold allL at eq
  split at eq
  · rename_i d
    cases z : lstD d with
    | none => rw [z] at eq; cases eq
    | some l =>
      rw [z] at eq
      dsimp only [Option.bind] at eq
      cases z' : blsD l with
      | none => rw [z'] at eq; cases eq
      | some ns =>
        rw [z'] at eq; cases eq
        obtain ⟨v, rfl, t0⟩ := t.one
        obtain ⟨a, xs, rfl, h1, h2⟩ := t0.lstD rl.gh z
        have := bls_of h2 z'
        subst this
        exact ⟨a, ns, rfl, h1, rl.back (.bl _) k⟩
  · cases eq
theorem anyL_ok : OpNOk C (rAny C.K) anyL := by
  intro W σ ρ H G vs ds x Q rl t eq k
  unfold anyL at eq
  split at eq
  · rename_i d
    cases z : lstD d with
    | none => rw [z] at eq; cases eq
    | some l =>
      rw [z] at eq
      dsimp only [Option.bind] at eq
      cases z' : blsD l with
      | none => rw [z'] at eq; cases eq
      | some ns =>
        rw [z'] at eq; cases eq
        obtain ⟨v, rfl, t0⟩ := t.one
        obtain ⟨a, xs, rfl, h1, h2⟩ := t0.lstD rl.gh z
        have := bls_of h2 z'
        subst this
        exact ⟨a, ns, rfl, h1, rl.back (.bl _) k⟩
  · cases eq
variable {p : Pos} (he : ∀ i, starEach [e] (Xs i).env = (false, eval e (Xs i).env) :: starEach [] (Xs i).env := by intro _; rfl) (hpl : ∀ i, (backTo pos (starEach [] (Xs i).env)).any (·.1) = false := by intro _; rfl)
include he hpl
theorem ce_sum (hm : ∀ i, (Xs i).mg "sum" = none) (ha : CA_ J Xs [e] fs) (hg : ∀ i, Gl (Xs i) "sum" := by intro _; rfl) : CE J Xs (.Call (.Name "sum" p) [e] [] pos) (callS sumL fs) :=
  ce_callB (fun X G => by have := cr_sum (X := X) G.calm; rw [G.hK] at this; exact this) sumL_ok hm (by decide +kernel) ha hg (by decide) (by decide) he hpl
theorem ce_all (hm : ∀ i, (Xs i).mg "all" = none) (ha : CA_ J Xs [e] fs) (hg : ∀ i, Gl (Xs i) "all" := by intro _; rfl) : CE J Xs (.Call (.Name "all" p) [e] [] pos) (callS allL fs) :=
  ce_callB (fun X G => by have := cr_all (X := X) G.calm; rw [G.hK] at this; exact this) allL_ok hm (by decide +kernel) ha hg (by decide) (by decide) he hpl
theorem ce_any (hm : ∀ i, (Xs i).mg "any" = none) (ha : CA_ J Xs [e] fs) (hg : ∀ i, Gl (Xs i) "any" := by intro _; rfl) : CE J Xs (.Call (.Name "any" p) [e] [] pos) (callS anyL fs) :=
  ce_callB (fun X G => by have := cr_any (X := X) G.calm; rw [G.hK] at this; exact this) anyL_ok hm (by decide +kernel) ha hg (by decide) (by decide) he hpl
omit he hpl
/-- list(..), tuple(..) of a list or tuple -/
def listL : List D → Option XV
  | [d] => (seqD d).map fun l => .own (.lst l)
  | _ => none
def tupL : List D → Option XV
  | [.tup l] => some (.dat (.tup l))
  | [d] => (lstD d).map fun l => .dat (.tup l)
  | _ => none
theorem listL_ok : OpNOk C (fun xs H Q => ∃ p ys, xs = [.ref p] ∧ (SqL C.K H p ys ∨ SqT C.K H p ys) ∧ ∀ l, H l = none → Q (.ref l) (upd H l (.lst ys))) listL := by
  intro W σ ρ H G vs ds x Q rl t eq k
  unfold listL at eq
  split at eq
  · rename_i d
    cases z : seqD d with
    | none => rw [z] at eq; cases eq
    | some l =>
      rw [z] at eq; cases eq
      obtain ⟨v, rfl, t0⟩ := t.one
      obtain ⟨a, xs, rfl, h1, h2⟩ := t0.seq rl.gh z
      exact ⟨a, xs, rfl, h1, fun p hp => rl.backLst h2 k hp⟩
  · cases eq
theorem tupL_ok : OpNOk C (fun xs H Q => ∃ p ys, xs = [.ref p] ∧ ((SqL C.K H p ys ∧ ∀ l, H l = none → Q (.ref l) (upd H l (.tup ys))) ∨ (SqT C.K H p ys ∧ Q (.ref p) H))) tupL := by
  intro W σ ρ H G vs ds x Q rl t eq k
  unfold tupL at eq
  split at eq
  · cases eq
    obtain ⟨v, rfl, t0⟩ := t.one
    rcases id t0 with t' | ⟨_, _, t'⟩
    · obtain ⟨a, xs, rfl, h1, h2⟩ := t0.tup rl.gh
      exact ⟨a, xs, rfl, .inr ⟨h1, rl.back t' k⟩⟩
    · exact t'.elim
  · rename_i d _
    cases z : lstD d with
    | none => rw [z] at eq; cases eq
    | some l =>
      rw [z] at eq; cases eq
      obtain ⟨v, rfl, t0⟩ := t.one
      obtain ⟨a, xs, rfl, h1, h2⟩ := t0.lstD rl.gh z
      exact ⟨a, xs, rfl, .inl ⟨h1, fun p hp => rl.backTup h2 k hp⟩⟩
  · cases eq
/-- int(..) -/
def intL : List D → Option XV
  | [.int i] => some (xint i)
  | [.bl b] => some (xint (if b then 1 else 0))
  | _ => none
theorem intL_ok : OpNOk C (fun xs H Q => (∃ i, xs = [.int i] ∧ Q (.int i) H) ∨ ∃ k, xs = [.bl k] ∧ Q (.int (if k then 1 else 0)) H) intL := by
  intro W σ ρ H G vs ds x Q rl t eq k
  unfold intL at eq
  split at eq
  · cases eq
    obtain ⟨v, rfl, t0⟩ := t.one
    rw [t0.int]
    exact .inl ⟨_, rfl, rl.back (.int _) k⟩
  · cases eq
    obtain ⟨v, rfl, t0⟩ := t.one
    rw [t0.bl]
    exact .inr ⟨_, rfl, rl.back (.int _) k⟩
  · cases eq
def absL : List D → Option XV
  | [.int i] => some (xint (if i < 0 then -i else i))
  | _ => none
theorem absL_ok : OpNOk C (fun xs H Q => ∃ i, xs = [.int i] ∧ Q (.int (if i < 0 then -i else i)) H) absL := by
  intro W σ ρ H G vs ds x Q rl t eq k
  unfold absL at eq
  split at eq
  · cases eq
    obtain ⟨v, rfl, t0⟩ := t.one
    rw [t0.int]
    exact ⟨_, rfl, rl.back (.int _) k⟩
  · cases eq
/-- max, min of two ints -/
def max2 : List D → Option XV
  | [.int i, .int j] => some (xint (if j > i then j else i))
  | _ => none
def min2 : List D → Option XV
  | [.int i, .int j] => some (xint (if j < i then j else i))
  | _ => none
theorem max2_ok : OpNOk C (fun xs H Q => ∃ i j, xs = [.int i, .int j] ∧ Q (.int (if j > i then j else i)) H) max2 := by
  intro W σ ρ H G vs ds x Q rl t eq k
  unfold max2 at eq
  split at eq
  · cases eq
    obtain ⟨v, w, rfl, t1, t2⟩ := t.two
    rw [t1.int, t2.int]
    exact ⟨_, _, rfl, rl.back (.int _) k⟩
  · cases eq
theorem min2_ok : OpNOk C (fun xs H Q => ∃ i j, xs = [.int i, .int j] ∧ Q (.int (if j < i then j else i)) H) min2 := by
  intro W σ ρ H G vs ds x Q rl t eq k
  unfold min2 at eq
  split at eq
  · cases eq
    obtain ⟨v, w, rfl, t1, t2⟩ := t.two
    rw [t1.int, t2.int]
    exact ⟨_, _, rfl, rl.back (.int _) k⟩
  · cases eq
/-- math.factorial -/
def facL : List D → Option XV
  | [.int i] => if 0 ≤ i ∧ i.natAbs ≤ 20000 then some (xint ((Builtin.Math.factorialNat i.toNat : Nat) : Int)) else none
  | _ => none
def rFac : List V → Hp → VK → Prop := fun vs H Q => ∃ a : Int, vs = [.int a] ∧ 0 ≤ a ∧ a ≤ 20000 ∧ Q (.int ((Builtin.Math.factorialNat a.toNat : Nat) : Int)) H
theorem cr_fac {X : Cx} : CallR X (.builtin "math.factorial") rFac := by
  intro pins s σ H vs us Q I r h
  obtain ⟨a, rfl, h0, h1, q⟩ := h
  obtain ⟨u, rfl, t, rfl⟩ := vals1 r
  exact PySem.W.mc_factorial h0 h1 fun _ => ⟨.int _, H, I.tok _, ⟨_, rfl⟩, q⟩
theorem facL_ok : OpNOk C rFac facL := by
  intro W σ ρ H G vs ds x Q rl t eq k
  unfold facL at eq
  split at eq
  · split at eq
    · cases eq
      rename_i h
      obtain ⟨v, rfl, t0⟩ := t.one
      rw [t0.int]
      exact ⟨_, rfl, h.1, by have := h.2; omega, rl.back (.int _) k⟩
    · cases eq
  · cases eq
include he hpl
theorem ce_list (hm : ∀ i, (Xs i).mg "list" = none) (ha : CA_ J Xs [e] fs) (hg : ∀ i, Gl (Xs i) "list" := by intro _; rfl) : CE J Xs (.Call (.Name "list" p) [e] [] pos) (callS listL fs) :=
  ce_callTy (fun X G => by have := call_list_of (X := X); rw [G.hK] at this; exact this) listL_ok hm (by decide +kernel) ha hg (by decide) (by decide) he hpl
theorem ce_tuple (hm : ∀ i, (Xs i).mg "tuple" = none) (ha : CA_ J Xs [e] fs) (hg : ∀ i, Gl (Xs i) "tuple" := by intro _; rfl) : CE J Xs (.Call (.Name "tuple" p) [e] [] pos) (callS tupL fs) :=
  ce_callTy (fun X G => by have := call_tuple_of (X := X); rw [G.hK] at this; exact this) tupL_ok hm (by decide +kernel) ha hg (by decide) (by decide) he hpl
theorem ce_intOf (hm : ∀ i, (Xs i).mg "int" = none) (ha : CA_ J Xs [e] fs) (hg : ∀ i, Gl (Xs i) "int" := by intro _; rfl) : CE J Xs (.Call (.Name "int" p) [e] [] pos) (callS intL fs) :=
  ce_callTy (fun X G => call_int1) intL_ok hm (by decide +kernel) ha hg (by decide) (by decide) he hpl
theorem ce_abs (hm : ∀ i, (Xs i).mg "abs" = none) (ha : CA_ J Xs [e] fs) (hg : ∀ i, Gl (Xs i) "abs" := by intro _; rfl) : CE J Xs (.Call (.Name "abs" p) [e] [] pos) (callS absL fs) :=
  ce_callB (fun X G => call_abs) absL_ok hm (by decide +kernel) ha hg (by decide) (by decide) he hpl
theorem ce_fac (hm : ∀ i, (Xs i).mg "factorial" = some (.builtin "math.factorial")) (ha : CA_ J Xs [e] fs) (hg : ∀ i, Gl (Xs i) "factorial" := by intro _; rfl) : CE J Xs (.Call (.Name "factorial" p) [e] [] pos) (callS facL fs) := by
  obtain ⟨t, h1, h2⟩ := ha
  exact ⟨_, fun i G => pe_callBfun cr_fac (hg i) (hm i) (h1 i G) (by decide) (he i) (hpl i), ev_call h2 facL_ok⟩
omit he hpl
variable {e2 : Expr} (he2 : ∀ i, starEach [e, e2] (Xs i).env = (false, eval e (Xs i).env) :: starEach [e2] (Xs i).env := by intro _; rfl) (hpl2 : ∀ i, (backTo pos (starEach [e2] (Xs i).env)).any (·.1) = false := by intro _; rfl)
include he2 hpl2
theorem ce_max2 (hm : ∀ i, (Xs i).mg "max" = none) (ha : CA_ J Xs [e, e2] fs) (hg : ∀ i, Gl (Xs i) "max" := by intro _; rfl) : CE J Xs (.Call (.Name "max" p) [e, e2] [] pos) (callS max2 fs) :=
  ce_callB (fun X G => call_max2 G.calm) max2_ok hm (by decide +kernel) ha hg (by decide) (by decide) he2 hpl2
theorem ce_min2 (hm : ∀ i, (Xs i).mg "min" = none) (ha : CA_ J Xs [e, e2] fs) (hg : ∀ i, Gl (Xs i) "min" := by intro _; rfl) : CE J Xs (.Call (.Name "min" p) [e, e2] [] pos) (callS min2 fs) :=
  ce_callB (fun X G => call_min2 G.calm) min2_ok hm (by decide +kernel) ha hg (by decide) (by decide) he2 hpl2
end
end DL
namespace DL
open PySem L2
open Classical in
/-! ## functions of the text -/
inductive FR where
  | ok (x : XV) (outs : List SV)
  | exc (c : String) (ns : List Str) (vs : List D) (outs : List SV)
  | stuck
abbrev FnM := List SV → FR
/-- what a def promises: what its mirror tells -/
def spF (C : Cst) (n : Nat) (f : FnM) : Sp := fun vs H Q E => ∃ (W : Fm) (G : Hp) (args : List SV), vs.length = n ∧ W.ex = none ∧ Rel C W (vs.map some) args H G ∧ (∀ p ∈ W.pin, (Env.at args p.1).isOwn = true) ∧
  (∀ j a, (Env.at args j).isOwn = true → vs[j]? = some (.ref a) → (j, a) ∈ W.pin) ∧ match f args with
  | .ok x outs => ∀ v H' G', Ge G G' → Rel C W (vs.map some) outs H' G' → VOk C W (vs.map some) outs H' G' v x → (∀ i, x ≠ .slot i) → Q v H'
  | .exc c ns ds outs => ∀ d H' G', Ge G G' → Rel C W (vs.map some) outs H' G' → ExcAt C H' G' d ns ds → E (.ref (C.CA c)) d H'
  | .stuck => False

/-! ### a call -/
def argsOf (ρ : Env) : List XV → Option (List SV)
  | [] => some []
  | .dat d :: xs => (argsOf ρ xs).map (SV.dat d :: ·)
  | .slot i :: xs => match ρ.at i with
    | .own d => (argsOf ρ xs).map (SV.own d :: ·)
    | .brw d => (argsOf ρ xs).map (SV.brw d :: ·)
    | .clo id ds => (argsOf ρ xs).map (SV.clo id ds :: ·)
    | _ => none
  | .own _ :: _ => none
/-- the slots, each but once -/
def slotsOf : List XV → List Nat
  | [] => []
  | .slot i :: xs => i :: slotsOf xs
  | _ :: xs => slotsOf xs
def noTwice : List Nat → Bool
  | [] => true
  | i :: l => !l.contains i && noTwice l
def findSlot : List XV → List SV → Nat → Option SV
  | .slot k :: xs, o :: outs, i => if k = i then some o else findSlot xs outs i
  | _ :: xs, _ :: outs, i => findSlot xs outs i
  | _, _, _ => none
def backSV : SV → SV
  | .brw _ => .un
  | .exv _ _ _ => .un
  | .clo _ _ => .un
  | s => s
def putBack1 (xs : List XV) (outs : List SV) (i : Nat) (s : SV) : SV := match s with
  | .own d => match findSlot xs outs i with
    | some o => backSV o
    | none => .own d
  | s => s
def putBackL (xs : List XV) (outs : List SV) : Nat → Env → Env
  | _, [] => []
  | i, s :: ρ => putBack1 xs outs i s :: putBackL xs outs (i + 1) ρ
def putBack (xs : List XV) (outs : List SV) (ρ : Env) : Env := match slotsOf xs with
  | [] => ρ
  | _ => putBackL xs outs 0 ρ
def callF (g : FnM) (xs : List XV) (ρ : Env) : R XV := match argsOf ρ xs with
  | some args => if noTwice (slotsOf xs) = true then match g args with
      | .ok x outs => .ok x (putBack xs outs ρ)
      | .exc c ns vs outs => .exc c ns vs (putBack xs outs ρ)
      | .stuck => .stuck
    else .stuck
  | none => .stuck
def fnS (g : FnM) (fs : Env → R (List XV)) : Env → R XV := fun ρ => (fs ρ).bind fun xs ρ => callF g xs ρ

theorem putBackL_len (xs : List XV) (outs : List SV) : ∀ (i : Nat) (ρ : Env), (putBackL xs outs i ρ).length = ρ.length
  | _, [] => rfl
  | i, s :: ρ => by rw [putBackL, List.length_cons, List.length_cons, putBackL_len xs outs (i + 1) ρ]
theorem putBackL_get (xs : List XV) (outs : List SV) : ∀ (i : Nat) (ρ : Env) (j : Nat), (putBackL xs outs i ρ)[j]? = (ρ[j]?).map (putBack1 xs outs (i + j))
  | _, [], _ => by simp [putBackL]
  | i, s :: ρ, 0 => by simp [putBackL]
  | i, s :: ρ, j + 1 => by
    simp only [putBackL, List.getElem?_cons_succ]
    rw [putBackL_get xs outs (i + 1) ρ j, show i + 1 + j = i + (j + 1) by omega]
theorem findSlot_none {i : Nat} : ∀ {xs : List XV} {outs : List SV}, slotsOf xs = [] → findSlot xs outs i = none
  | [], _, _ => by simp [findSlot]
  | .slot k :: xs, _, h => by simp [slotsOf] at h
  | .dat _ :: xs, [], _ => by simp [findSlot]
  | .own _ :: xs, [], _ => by simp [findSlot]
  | .dat _ :: xs, o :: outs, h => by simp only [findSlot]; exact findSlot_none (by simpa [slotsOf] using h)
  | .own _ :: xs, o :: outs, h => by simp only [findSlot]; exact findSlot_none (by simpa [slotsOf] using h)
theorem putBack_at (xs : List XV) (outs : List SV) (ρ : Env) (i : Nat) : Env.at (putBack xs outs ρ) i = putBack1 xs outs i (ρ.at i) := by
  have key : Env.at (putBackL xs outs 0 ρ) i = putBack1 xs outs i (ρ.at i) := by
    unfold Env.at
    rw [putBackL_get, Nat.zero_add]
    cases ρ[i]? <;> rfl
  unfold putBack
  split
  · rename_i h
    unfold putBack1
    cases s : ρ.at i <;> first | rfl | (dsimp only; rw [findSlot_none h])
  · exact key
theorem putBack_len (xs : List XV) (outs : List SV) (ρ : Env) : (putBack xs outs ρ).length = ρ.length := by
  unfold putBack
  split
  · rfl
  · exact putBackL_len _ _ _ _
theorem findSlot_some : ∀ {xs : List XV} {outs : List SV} {i : Nat} {o : SV}, findSlot xs outs i = some o → ∃ j : Nat, xs[j]? = some (.slot i) ∧ outs[j]? = some o
  | .slot k :: xs, o' :: outs, i, o, h => by
    simp only [findSlot] at h
    split at h
    · rename_i e; subst e; cases h; exact ⟨0, rfl, rfl⟩
    · obtain ⟨j, h1, h2⟩ := findSlot_some h; exact ⟨j + 1, by simpa using h1, by simpa using h2⟩
  | .dat _ :: xs, o' :: outs, i, o, h => by
    simp only [findSlot] at h
    obtain ⟨j, h1, h2⟩ := findSlot_some h; exact ⟨j + 1, by simpa using h1, by simpa using h2⟩
  | .own _ :: xs, o' :: outs, i, o, h => by
    simp only [findSlot] at h
    obtain ⟨j, h1, h2⟩ := findSlot_some h; exact ⟨j + 1, by simpa using h1, by simpa using h2⟩
  | [], _, _, _, h => by simp [findSlot] at h
  | .slot _ :: _, [], _, _, h => by simp [findSlot] at h
  | .dat _ :: _, [], _, _, h => by simp [findSlot] at h
  | .own _ :: _, [], _, _, h => by simp [findSlot] at h
theorem findSlot_no : ∀ {xs : List XV} {outs : List SV} {i : Nat}, xs.length = outs.length → findSlot xs outs i = none → ∀ j : Nat, xs[j]? ≠ some (.slot i)
  | [], _, _, _, _, j => by simp
  | .slot k :: xs, o' :: outs, i, hl, h, j => by
    simp only [findSlot] at h
    split at h
    · cases h
    · rename_i e
      cases j with
      | zero => intro z; simp at z; exact e z
      | succ j => simpa using findSlot_no (by simpa using hl) h j
  | .dat _ :: xs, o' :: outs, i, hl, h, j => by
    simp only [findSlot] at h
    cases j with
    | zero => intro z; simp at z
    | succ j => simpa using findSlot_no (by simpa using hl) h j
  | .own _ :: xs, o' :: outs, i, hl, h, j => by
    simp only [findSlot] at h
    cases j with
    | zero => intro z; simp at z
    | succ j => simpa using findSlot_no (by simpa using hl) h j
  | _ :: _, [], _, hl, _, _ => by simp at hl
theorem slot_once : ∀ {xs : List XV}, noTwice (slotsOf xs) = true → ∀ {j k i : Nat}, xs[j]? = some (.slot i) → xs[k]? = some (.slot i) → j = k
  | [], _, j, _, _, h, _ => by simp at h
  | x :: xs, h, 0, 0, i, _, _ => rfl
  | x :: xs, h, 0, k + 1, i, h1, h2 => by
    simp at h1; subst h1
    simp [slotsOf, noTwice] at h
    exact absurd (mem_slots (by simpa using h2)) h.1
  | x :: xs, h, j + 1, 0, i, h1, h2 => by
    simp at h2; subst h2
    simp [slotsOf, noTwice] at h
    exact absurd (mem_slots (by simpa using h1)) h.1
  | x :: xs, h, j + 1, k + 1, i, h1, h2 => by
    have h' : noTwice (slotsOf xs) = true := by
      cases x with
      | slot k => simp [slotsOf, noTwice] at h; exact h.2
      | dat d => simpa [slotsOf] using h
      | own d => simpa [slotsOf] using h
    rw [slot_once h' (j := j) (k := k) (i := i) (by simpa using h1) (by simpa using h2)]
where
  mem_slots : ∀ {xs : List XV} {j i : Nat}, xs[j]? = some (.slot i) → i ∈ slotsOf xs
  | [], j, _, h => by simp at h
  | x :: xs, 0, i, h => by simp at h; subst h; simp [slotsOf]
  | x :: xs, j + 1, i, h => by
    have := mem_slots (xs := xs) (j := j) (i := i) (by simpa using h)
    cases x with
    | slot k => simp [slotsOf]; exact .inr this
    | dat d => simpa [slotsOf] using this
    | own d => simpa [slotsOf] using this

/-- the places of what is handed over -/
def pinsOf (ρ : Env) : Nat → List XV → List V → List (Nat × Addr)
  | j, .slot i :: xs, .ref a :: vs => if (ρ.at i).isOwn = true then (j, a) :: pinsOf ρ (j + 1) xs vs else pinsOf ρ (j + 1) xs vs
  | j, _ :: xs, _ :: vs => pinsOf ρ (j + 1) xs vs
  | _, _, _ => []
theorem pinsOf_mem {ρ : Env} : ∀ {n : Nat} {xs : List XV} {vs : List V} {p : Nat × Addr}, p ∈ pinsOf ρ n xs vs → ∃ j i, p.1 = n + j ∧ xs[j]? = some (.slot i) ∧ vs[j]? = some (.ref p.2) ∧ (ρ.at i).isOwn = true
  | n, [], _, p, h => by simp [pinsOf] at h
  | n, _ :: _, [], p, h => by cases ‹XV› <;> simp [pinsOf] at h
  | n, x :: xs, v :: vs, p, h => by
    have rec' : p ∈ pinsOf ρ (n + 1) xs vs → ∃ j i, p.1 = n + j ∧ (x :: xs)[j]? = some (.slot i) ∧ (v :: vs)[j]? = some (.ref p.2) ∧ (ρ.at i).isOwn = true := fun h => by
      obtain ⟨j, i, h0, h1, h2, h3⟩ := pinsOf_mem h
      exact ⟨j + 1, i, by omega, by simpa using h1, by simpa using h2, h3⟩
    cases x with
    | dat d => simp only [pinsOf] at h; exact rec' h
    | own d => simp only [pinsOf] at h; exact rec' h
    | slot i =>
      cases v <;> first | (simp only [pinsOf] at h; exact rec' h) | skip
      rename_i a
      simp only [pinsOf] at h
      split at h
      · rename_i ho
        rcases List.mem_cons.mp h with e | h
        · subst e; exact ⟨0, i, rfl, rfl, rfl, ho⟩
        · exact rec' h
      · exact rec' h
theorem mem_pinsOf {ρ : Env} : ∀ {n : Nat} {xs : List XV} {vs : List V} {j i : Nat} {a : Addr}, xs[j]? = some (.slot i) → vs[j]? = some (.ref a) → (ρ.at i).isOwn = true → (n + j, a) ∈ pinsOf ρ n xs vs
  | n, [], _, j, _, _, h, _, _ => by simp at h
  | n, _ :: _, [], j, _, _, _, h, _ => by simp at h
  | n, x :: xs, v :: vs, 0, i, a, h1, h2, h3 => by
    simp at h1 h2; subst h1; subst h2
    simp only [pinsOf]; rw [if_pos h3]; exact List.mem_cons_self
  | n, x :: xs, v :: vs, j + 1, i, a, h1, h2, h3 => by
    have := mem_pinsOf (ρ := ρ) (n := n + 1) (xs := xs) (vs := vs) (j := j) (i := i) (a := a) (by simpa using h1) (by simpa using h2) h3
    rw [show n + 1 + j = n + (j + 1) by omega] at this
    cases x with
    | dat d => simp only [pinsOf]; exact this
    | own d => simp only [pinsOf]; exact this
    | slot k =>
      cases v <;> first | (simp only [pinsOf]; exact this) | skip
      simp only [pinsOf]
      split
      · exact List.mem_cons_of_mem _ this
      · exact this
theorem argsOf_get {ρ : Env} : ∀ {xs : List XV} {args : List SV}, argsOf ρ xs = some args → xs.length = args.length ∧ ∀ (j : Nat) x, xs[j]? = some x → (∃ d, x = .dat d ∧ args[j]? = some (.dat d)) ∨
    (∃ i d, x = .slot i ∧ ρ.at i = .own d ∧ args[j]? = some (.own d)) ∨ (∃ i d, x = .slot i ∧ ρ.at i = .brw d ∧ args[j]? = some (.brw d)) ∨ ∃ i id ds, x = .slot i ∧ ρ.at i = .clo id ds ∧ args[j]? = some (.clo id ds)
  | [], _, h => by cases h; exact ⟨rfl, fun j x h => by simp at h⟩
  | .own _ :: xs, _, h => by cases h
  | .dat d :: xs, args, h => by
    simp only [argsOf] at h
    cases z : argsOf ρ xs with
    | none => rw [z] at h; cases h
    | some l =>
      rw [z] at h; cases h
      obtain ⟨h1, h2⟩ := argsOf_get z
      refine ⟨by simp [h1], fun j x e => ?_⟩
      cases j with
      | zero => simp at e; subst e; exact .inl ⟨d, rfl, rfl⟩
      | succ j => simpa using h2 j x (by simpa using e)
  | .slot k :: xs, args, h => by
    simp only [argsOf] at h
    split at h
    · rename_i d hd
      cases z : argsOf ρ xs with
      | none => rw [z] at h; cases h
      | some l =>
        rw [z] at h; cases h
        obtain ⟨h1, h2⟩ := argsOf_get z
        refine ⟨by simp [h1], fun j x e => ?_⟩
        cases j with
        | zero => simp at e; subst e; exact .inr (.inl ⟨k, d, rfl, hd, rfl⟩)
        | succ j => simpa using h2 j x (by simpa using e)
    · rename_i d hd
      cases z : argsOf ρ xs with
      | none => rw [z] at h; cases h
      | some l =>
        rw [z] at h; cases h
        obtain ⟨h1, h2⟩ := argsOf_get z
        refine ⟨by simp [h1], fun j x e => ?_⟩
        cases j with
        | zero => simp at e; subst e; exact .inr (.inr (.inl ⟨k, d, rfl, hd, rfl⟩))
        | succ j => simpa using h2 j x (by simpa using e)
    · rename_i id d hd
      cases z : argsOf ρ xs with
      | none => rw [z] at h; cases h
      | some l =>
        rw [z] at h; cases h
        obtain ⟨h1, h2⟩ := argsOf_get z
        refine ⟨by simp [h1], fun j x e => ?_⟩
        cases j with
        | zero => simp at e; subst e; exact .inr (.inr (.inr ⟨k, id, d, rfl, hd, rfl⟩))
        | succ j => simpa using h2 j x (by simpa using e)
    · cases h
theorem Waits.get {C : Cst} {σ : St} {G : Hp} : ∀ {vs : List V} {xs : List XV}, Waits C σ G vs xs → vs.length = xs.length ∧ ∀ (j : Nat) x, xs[j]? = some x → ∃ v, vs[j]? = some v ∧ Wait C σ G v x
  | [], [], _ => ⟨rfl, fun j x h => by simp at h⟩
  | v :: vs, x :: xs, h => by
    obtain ⟨h1, h2⟩ := Waits.get h.2
    refine ⟨by simp [h1], fun j y e => ?_⟩
    cases j with
    | zero => simp at e; subst e; exact ⟨v, rfl, h.1⟩
    | succ j => simpa using h2 j y (by simpa using e)
  | [], _ :: _, h => h.elim
  | _ :: _, [], h => h.elim

section
variable {C : Cst} {W : Fm} {σ : St} {ρ : Env} {H G H' G' : Hp} {vs : List V} {xs : List XV} {args outs : List SV}
def Passed (σ : St) (ρ : Env) (xs : List XV) (a : Addr) : Prop := ∃ j i : Nat, xs[j]? = some (.slot i) ∧ (ρ.at i).isOwn = true ∧ σ[i]? = some (some (.ref a))
open Classical in
noncomputable def callFm (C : Cst) (W : Fm) (σ : St) (ρ : Env) (xs : List XV) (vs : List V) (H G : Hp) : Fm where
  Z := fun a => if Passed σ ρ xs a ∨ a ∈ C.T.map Prod.fst then none else H a
  N := fun a => ¬ Passed σ ρ xs a ∧ G a = none ∧ ∃ o, H a = some o
  B := fun j b => ∃ i : Nat, xs[j]? = some (.slot i) ∧ W.B i b
  pin := pinsOf ρ 0 xs vs
  ex := none
  S := W.S
theorem own_of {s : SV} (h : s.isOwn = true) : ∃ d, s = .own d := by
  cases s with
  | own d => exact ⟨d, rfl⟩
  | _ => cases h
theorem Rel.own (r : Rel C W σ ρ H G) {i : Nat} {d : D} (h : ρ.at i = .own d) : ∃ a, σ[i]? = some (some (.ref a)) ∧ Own C H G a d ∧ G a = none ∧ W.Z a = none ∧ ¬ W.N a := by
  have := r.at_ i
  rw [h] at this
  exact this
theorem Passed.z (r : Rel C W σ ρ H G) {a : Addr} (p : Passed σ ρ xs a) : W.Z a = none ∧ ¬ W.N a := by
  obtain ⟨j, i, _, ho, hs⟩ := p
  obtain ⟨d, hd⟩ := own_of ho
  obtain ⟨b, h1, _, _, h4, h5⟩ := r.own hd
  rw [hs] at h1; cases h1
  exact ⟨h4, h5⟩
theorem at_get {l : List SV} {j : Nat} {s : SV} (h : l[j]? = some s) : Env.at l j = s := by unfold Env.at; rw [h]; rfl
theorem call_in (r : Rel C W σ ρ H G) (w : Waits C σ G vs xs) (ha : argsOf ρ xs = some args) (hn : noTwice (slotsOf xs) = true) :
    Rel C (callFm C W σ ρ xs vs H G) (vs.map some) args H G ∧ (∀ p ∈ (callFm C W σ ρ xs vs H G).pin, (Env.at args p.1).isOwn = true) ∧ (∀ j a, (Env.at args j).isOwn = true → vs[j]? = some (.ref a) → (j, a) ∈ (callFm C W σ ρ xs vs H G).pin) := by
  obtain ⟨hl, hx⟩ := argsOf_get ha
  obtain ⟨wl, wx⟩ := w.get
  have slotAt : ∀ j, (Env.at args j).isOwn = true → ∃ i d v, xs[j]? = some (.slot i) ∧ ρ.at i = .own d ∧ vs[j]? = some v ∧ σ[i]? = some (some v) := fun j hj => by
    cases e : xs[j]? with
    | none =>
      have : args[j]? = none := List.getElem?_eq_none (by have := List.getElem?_eq_none_iff.mp e; omega)
      unfold Env.at at hj; rw [this] at hj; cases hj
    | some x =>
      obtain ⟨v, h1, h2⟩ := wx j x e
      rcases hx j x e with ⟨d, rfl, h3⟩ | ⟨i, d, rfl, h3, h4⟩ | ⟨i, d, rfl, h3, h4⟩ | ⟨i, _, d, rfl, h3, h4⟩
      · rw [at_get h3] at hj; cases hj
      · exact ⟨i, d, v, rfl, h3, h1, h2⟩
      · rw [at_get h4] at hj; cases hj
      · rw [at_get h4] at hj; cases hj
  have pz : ∀ {a : Addr}, Passed σ ρ xs a → (callFm C W σ ρ xs vs H G).Z a = none := fun p => if_pos (.inl p)
  have pt : ∀ {a : Addr}, a ∈ C.T.map Prod.fst → (callFm C W σ ρ xs vs H G).Z a = none := fun p => if_pos (.inr p)
  have pnz : ∀ {a : Addr}, ¬ Passed σ ρ xs a → a ∉ C.T.map Prod.fst → (callFm C W σ ρ xs vs H G).Z a = H a := fun p q => if_neg fun z => z.elim p q
  have tN : ∀ a, a ∈ C.T.map Prod.fst → W.N a ∧ W.Z a = none := fun a ha => by
    obtain ⟨p, hp, rfl⟩ := List.mem_map.mp ha
    exact ⟨(r.tb p hp).1, (r.tb p hp).2.1⟩
  refine ⟨⟨r.gh, fun a o e => ?_, fun a q => ⟨q.2.1, q.2.2⟩, fun j a q => ?_, fun p hp => ?_, by rw [List.length_map, wl, hl], fun j => ?_, fun j k a jk h1 h2 e1 e2 => ?_, fun p hp => ⟨⟨fun z => (z.z r).2 (r.sx p hp).1, (r.nn _ (r.sx p hp).1).1, _, (r.sx p hp).2⟩, (r.sx p hp).2⟩, fun p hp => ⟨⟨fun z => (z.z r).2 (r.tb p hp).1, (r.nn _ (r.tb p hp).1).1, (r.nn _ (r.tb p hp).1).2⟩, pt (List.mem_map_of_mem hp), (r.tb p hp).2.2⟩⟩, fun p hp => ?_, fun j a hj hv => ?_⟩
  · by_cases p : Passed σ ρ xs a
    · rw [pz p] at e; cases e
    · by_cases t : a ∈ C.T.map Prod.fst
      · rw [pt t] at e; cases e
      · rw [pnz p t] at e; exact e
  · obtain ⟨i, _, q⟩ := q
    obtain ⟨o, ho⟩ := r.bz i a q
    have np : ¬ Passed σ ρ xs a := fun p => by rw [(p.z r).1] at ho; cases ho
    have nt : a ∉ C.T.map Prod.fst := fun t => by rw [(tN a t).2] at ho; cases ho
    exact ⟨o, by rw [pnz np nt]; exact r.zh _ _ ho⟩
  · obtain ⟨j, i, h0, h1, h2, h3⟩ := pinsOf_mem hp
    rw [h0, Nat.zero_add, List.getElem?_map, h2]; rfl
  · cases e : xs[j]? with
    | none =>
      have : args[j]? = none := List.getElem?_eq_none (by have := List.getElem?_eq_none_iff.mp e; omega)
      unfold Env.at; rw [this]; trivial
    | some x =>
      obtain ⟨v, h1, h2⟩ := wx j x e
      have hv : (vs.map some)[j]? = some (some v) := by rw [List.getElem?_map, h1]; rfl
      rw [hv]
      rcases hx j x e with ⟨d, rfl, h3⟩ | ⟨i, d, rfl, h3, h4⟩ | ⟨i, d, rfl, h3, h4⟩ | ⟨i, id, ds, rfl, h3, h4⟩
      · rw [at_get h3]; exact ⟨v, rfl, h2⟩
      · rw [at_get h4]
        obtain ⟨a, q1, q2, q3, q4, q5⟩ := r.own h3
        have : σ[i]? = some (some v) := h2
        rw [q1] at this; cases this
        have p : Passed σ ρ xs a := ⟨j, i, e, by rw [h3]; rfl, q1⟩
        exact ⟨a, rfl, q2, q3, pz p, fun z => z.1 p⟩
      · rw [at_get h4]
        have q := r.at_ i
        rw [h3] at q
        obtain ⟨a, q1, q2, q3⟩ := q
        have : σ[i]? = some (some v) := h2
        rw [q1] at this; cases this
        refine ⟨a, rfl, q2.move (fun o z => ?_) (Ge.refl _), i, e, q3⟩
        have np : ¬ Passed σ ρ xs a := fun p => by rw [(p.z r).1] at z; cases z
        have nt : a ∉ C.T.map Prod.fst := fun t => by rw [(tN a t).2] at z; cases z
        rw [pnz np nt]; exact r.zh _ _ z
      · rw [at_get h4]
        have q := r.at_ i
        rw [h3] at q
        obtain ⟨a, cl, ws, q1, q2⟩ := q
        have : σ[i]? = some (some v) := h2
        rw [q1] at this; cases this
        exact ⟨a, cl, ws, rfl, q2⟩
  · obtain ⟨i, d, v, s1, s2, s3, s4⟩ := slotAt j h1
    obtain ⟨i', d', v', t1, t2, t3, t4⟩ := slotAt k h2
    rw [List.getElem?_map, s3] at e1
    rw [List.getElem?_map, t3] at e2
    cases e1; cases e2
    by_cases z : i = i'
    · subst z; exact jk (slot_once hn s1 t1)
    · exact r.ne i i' a z (by rw [s2]; rfl) (by rw [t2]; rfl) s4 t4
  · obtain ⟨j, i, h0, h1, h2, h3⟩ := pinsOf_mem hp
    rw [h0, Nat.zero_add]
    obtain ⟨d, hd⟩ := own_of h3
    rcases hx j _ h1 with ⟨_, e, _⟩ | ⟨i', d', e, h4, h5⟩ | ⟨i', d', e, h4, _⟩ | ⟨i', _, d', e, h4, _⟩
    · cases e
    · rw [at_get h5]; rfl
    · cases e; rw [hd] at h4; cases h4
    · cases e; rw [hd] at h4; cases h4
  · obtain ⟨i, d, v, s1, s2, s3, s4⟩ := slotAt j hj
    have := mem_pinsOf (ρ := ρ) (n := 0) s1 hv (by rw [s2]; rfl)
    rwa [Nat.zero_add] at this
/-- what a slot that was handed over holds now -/
theorem putBack_cases (hl : xs.length = outs.length) (i : Nat) : (∃ (d : D) (o : SV) (j : Nat), ρ.at i = .own d ∧ xs[j]? = some (.slot i) ∧ outs[j]? = some o ∧ Env.at (putBack xs outs ρ) i = backSV o) ∨
    ((∀ d, ρ.at i = .own d → ∀ j : Nat, xs[j]? ≠ some (.slot i)) ∧ Env.at (putBack xs outs ρ) i = ρ.at i) := by
  rw [putBack_at]
  unfold putBack1
  cases s : ρ.at i with
  | own d =>
    dsimp only
    cases z : findSlot xs outs i with
    | none => exact .inr ⟨fun _ _ => findSlot_no hl z, rfl⟩
    | some o =>
      obtain ⟨j, h1, h2⟩ := findSlot_some z
      exact .inl ⟨d, o, j, rfl, h1, h2, rfl⟩
  | un => exact .inr ⟨fun _ e => (by cases e), rfl⟩
  | dat d => exact .inr ⟨fun _ e => (by cases e), rfl⟩
  | brw d => exact .inr ⟨fun _ e => (by cases e), rfl⟩
  | exv _ _ _ => exact .inr ⟨fun _ e => (by cases e), rfl⟩
  | clo _ _ => exact .inr ⟨fun _ e => (by cases e), rfl⟩
theorem call_out (r : Rel C W σ ρ H G) (w : Waits C σ G vs xs) (g : Ge G G') (r' : Rel C (callFm C W σ ρ xs vs H G) (vs.map some) outs H' G') :
    Rel C W σ (putBack xs outs ρ) H' G' ∧ ∀ v x, (∀ i, x ≠ .slot i) → VOk C (callFm C W σ ρ xs vs H G) (vs.map some) outs H' G' v x → VOk C W σ (putBack xs outs ρ) H' G' v x := by
  obtain ⟨wl, wx⟩ := w.get
  have hl : xs.length = outs.length := by rw [← wl, ← r'.ln, List.length_map]
  have pz : ∀ {a : Addr}, Passed σ ρ xs a → (callFm C W σ ρ xs vs H G).Z a = none := fun p => if_pos (.inl p)
  have pt : ∀ {a : Addr}, a ∈ C.T.map Prod.fst → (callFm C W σ ρ xs vs H G).Z a = none := fun p => if_pos (.inr p)
  have pnz : ∀ {a : Addr}, ¬ Passed σ ρ xs a → a ∉ C.T.map Prod.fst → (callFm C W σ ρ xs vs H G).Z a = H a := fun p q => if_neg fun z => z.elim p q
  have tN : ∀ a, a ∈ C.T.map Prod.fst → W.N a ∧ W.Z a = none := fun a ha => by
    obtain ⟨p, hp, rfl⟩ := List.mem_map.mp ha
    exact ⟨(r.tb p hp).1, (r.tb p hp).2.1⟩
  have keep : ∀ a o, ¬ Passed σ ρ xs a → a ∉ C.T.map Prod.fst → H a = some o → H' a = some o := fun a o np nt e => r'.zh a o (by rw [pnz np nt]; exact e)
  have handed : ∀ {i j : Nat}, xs[j]? = some (.slot i) → ∃ v, vs[j]? = some v ∧ σ[i]? = some (some v) := fun {i j} h => by
    obtain ⟨v, h1, h2⟩ := wx j _ h
    exact ⟨v, h1, h2⟩
  have ownOf : ∀ i, (Env.at (putBack xs outs ρ) i).isOwn = true → (ρ.at i).isOwn = true := fun i h => by
    rcases putBack_cases (ρ := ρ) hl i with ⟨d, o, j, h1, _⟩ | ⟨_, h1⟩
    · rw [h1]; rfl
    · rw [h1] at h; exact h
  have rel : Rel C W σ (putBack xs outs ρ) H' G' := by
    refine ⟨r'.gh, fun a o e => keep a o (fun p => by rw [(p.z r).1] at e; cases e) (fun t => by rw [(tN a t).2] at e; cases e) (r.zh _ _ e), fun a q => ?_, r.bz, r.pn, by rw [putBack_len]; exact r.ln, fun i => ?_, fun i k a ik h1 h2 e1 e2 => r.ne i k a ik (ownOf i h1) (ownOf k h2) e1 e2, fun p hp => ⟨(r.sx p hp).1, (r'.sx p hp).2⟩, fun p hp => ⟨(r.tb p hp).1, (r.tb p hp).2.1, (r'.tb p hp).2.2⟩⟩
    · have np : ¬ Passed σ ρ xs a := fun p => (p.z r).2 q
      exact r'.nn a ⟨np, (r.nn a q).1, (r.nn a q).2⟩
    · rcases putBack_cases (ρ := ρ) hl i with ⟨d, o, j, h1, h2, h3, h4⟩ | ⟨h1, h2⟩
      · rw [h4]
        obtain ⟨v, v1, v2⟩ := handed h2
        have q := r'.at_ j
        rw [at_get h3, List.getElem?_map, v1] at q
        cases o with
        | un => trivial
        | brw _ => trivial
        | exv _ _ _ => trivial
        | clo _ _ => trivial
        | dat d' => obtain ⟨v', e, q⟩ := q; cases e; exact ⟨v, v2, q⟩
        | own d' =>
          obtain ⟨a, e, q1, q2, _, _⟩ := q
          cases e
          obtain ⟨b, b1, _, _, b4, b5⟩ := r.own h1
          rw [v2] at b1; cases b1
          exact ⟨a, v2, q1, q2, b4, b5⟩
      · rw [h2]
        have q := r.at_ i
        cases s : ρ.at i with
        | un => trivial
        | dat d => rw [s] at q; obtain ⟨v, q1, q2⟩ := q; exact ⟨v, q1, q2.ge g⟩
        | brw d => rw [s] at q; obtain ⟨a, q1, q2, q3⟩ := q; exact ⟨a, q1, q2.move (fun _ z => z) g, q3⟩
        | exv c ns vs => rw [s] at q; obtain ⟨a, dx, fs, q1, q2, q3, q4, q5⟩ := q; exact ⟨a, dx, fs, q1, q2, g _ _ q3, q4, q5.ge g⟩
        | clo id ds => rw [s] at q; obtain ⟨f, cl, ws, h1, h2, h3, h4⟩ := q; exact ⟨f, cl, ws, h1, h2.ge g, h3, h4.ge g⟩
        | own d =>
          obtain ⟨a, q1, q2, q3, q4, q5⟩ := r.own s
          have np : ¬ Passed σ ρ xs a := fun ⟨j, k, p1, p2, p3⟩ => by
            by_cases z : k = i
            · subst z; exact h1 d s j p1
            · exact r.ne k i a z p2 (by rw [s]; rfl) p3 q1
          exact ⟨a, q1, q2.move (fun o z => keep a o np (fun t => q5 (tN a t).1) z) g, (r'.nn a ⟨np, q3, q2.there⟩).1, q4, q5⟩
  refine ⟨rel, fun v x hx h => ?_⟩
  cases x with
  | dat d => exact h
  | slot i => exact absurd rfl (hx i)
  | own d =>
    obtain ⟨a, rfl, h1, h2, h3, h4, h5⟩ := h
    have pass : ∀ o, H a = some o → Passed σ ρ xs a := fun o e => by
      by_cases p : Passed σ ρ xs a
      · exact p
      · rw [pnz p (fun t => h4 ⟨p, (r.nn a (tN a t).1).1, o, e⟩), e] at h3; cases h3
    refine ⟨a, rfl, h1, h2, ?_, fun q => ?_, fun i hi e => ?_⟩
    · cases z : W.Z a with
      | none => rfl
      | some o => rw [((pass o (r.zh _ _ z)).z r).1] at z; cases z
    · obtain ⟨o, ho⟩ := (r.nn a q).2
      exact ((pass o ho).z r).2 q
    · have ho := ownOf i hi
      obtain ⟨d', hd⟩ := own_of ho
      obtain ⟨b, b1, b2, _⟩ := r.own hd
      rw [e] at b1; cases b1
      obtain ⟨o, hoo⟩ := b2.there
      obtain ⟨j, k, p1, p2, p3⟩ := pass o hoo
      have z : k = i := by
        by_cases z : k = i
        · exact z
        · exact (r.ne k i a z p2 ho p3 e).elim
      subst z
      obtain ⟨v, v1, v2⟩ := handed p1
      rw [e] at v2; cases v2
      rcases putBack_cases (ρ := ρ) hl k with ⟨d2, o2, j2, q1, q2, q3, q4⟩ | ⟨q1, _⟩
      · obtain ⟨v, w1, w2⟩ := handed q2
        rw [e] at w2; cases w2
        rw [q4] at hi
        refine h5 j2 ?_ (by rw [List.getElem?_map, w1]; rfl)
        rw [at_get q3]
        cases o2 with
        | own _ => rfl
        | _ => cases hi
      · exact q1 d' hd j p1
end
section
variable {ι : Type} {J : Jd} {Xs : ι → Cx} {e : Expr} {es : List Expr} {fs : Env → R (List XV)} {g : FnM} {x : Str} {p pos : Pos} {f : Addr} {fd : FuncData} {ps : List Str}
theorem callF_ok {W : Fm} {σ : St} {ρ : Env} {H G : Hp} {vs : List V} {xs : List XV} {Q : VK} (n : Nat) (hnl : xs.length = n) (r : Rel J.C W σ ρ H G) (w : Waits J.C σ G vs xs)
    (h : Got J W σ G (callF g xs ρ) (fun x ρ' H' G' => ∀ v, VOk J.C W σ ρ' H' G' v x → Q v H')) : spF J.C n g vs H Q (WE J.EW σ) := by
  unfold callF at h
  cases z : argsOf ρ xs with
  | none => rw [z] at h; exact h.elim
  | some args =>
    rw [z] at h
    dsimp only at h
    split at h
    · rename_i hn
      obtain ⟨c1, c2, c3⟩ := call_in r w z hn
      refine ⟨_, G, args, by rw [w.get.1, hnl], rfl, c1, c2, c3, ?_⟩
      cases zg : g args with
      | stuck => rw [zg] at h; exact h.elim
      | ok x outs =>
        rw [zg] at h
        intro v H' G' ge r' vk hx
        obtain ⟨o1, o2⟩ := call_out r w ge r'
        exact h H' G' ge o1 v (o2 v x hx vk)
      | exc c ns ds outs =>
        rw [zg] at h
        intro d H' G' ge r' ex
        obtain ⟨o1, o2⟩ := call_out r w ge r'
        exact h d H' G' ge o1 ex
    · exact h.elim
theorem ev_fn {ta : TA} (n : Nat) (ha : EvA J ta fs) (hn : ∀ ρ xs ρ', fs ρ = .ok xs ρ' → xs.length = n) : EvE J (tCallSD (spF J.C n g) [] (fun σ => WE J.EW σ) ta) (fnS g fs) := by
  intro W σ ρ H G Q pk rl h
  refine ha W σ ρ H G _ pk rl ?_
  unfold fnS at h
  cases z : fs ρ with
  | stuck => rw [z] at h; exact h.elim
  | exc c ns ds ρ' => rw [z] at h; exact h
  | ok xs ρ1 =>
    rw [z] at h
    have h := Got.bind h
    intro H' G' ge r' vs wk
    rw [List.append_nil]
    exact callF_ok n (hn ρ xs ρ1 z) r' wk (h H' G' ge r')
/-- f(e, ..), f a def of the text -/
theorem ce_fn (F : ∀ i, FnOk (Xs i).prog (Xs i).w (Xs i).K (Xs i).mg (Xs i).base (L2.CX (Xs i).prog (Xs i).w) J.k f fd ps (spF J.C ps.length g)) (hm : ∀ i, (Xs i).mg x = some (.ref f)) (hk : PySem.W.keepIn J.C.K (.ref f) = true) (hb : Binds J.C.K fd ps []) (ha : CA_ J Xs (e :: es) fs)
    (hn : ∀ ρ xs ρ', fs ρ = .ok xs ρ' → xs.length = ps.length)
    (hg : ∀ i, Gl (Xs i) x := by intro _; rfl) (hdb : (x == ("__debug__" : Str)) = false := by decide) (he : ∀ i, starEach (e :: es) (Xs i).env = (false, eval e (Xs i).env) :: starEach es (Xs i).env := by intro _; rfl)
    (hpl : ∀ i, (backTo pos (starEach es (Xs i).env)).any (·.1) = false := by intro _; rfl) : CE J Xs (.Call (.Name x p) (e :: es) [] pos) (fnS g fs) := by
  obtain ⟨t, h1, h2⟩ := ha
  refine ⟨_, fun i G => pe_callSD (F i) G.hr (hg i) (hm i) (by rw [G.hK]; exact hk) (by rw [G.hK]; exact hb) .nil (fun σ => passAt G.tk σ) (h1 i G) hdb (he i) (hpl i), ev_fn _ h2 hn⟩
end
end DL
namespace DL
open PySem L2

/-! ## a new object that waits -/
open Classical in
noncomputable def Fm.hold (W : Fm) (a : Addr) (o : HO) : Fm := { W with Z := upd W.Z a o, N := fun b => b = a ∨ W.N b }
section
variable {C : Cst} {W : Fm} {σ : St} {ρ ρ' : Env} {H G H' G' : Hp}
theorem Rel.hold (r : Rel C W σ ρ H G) {a : Addr} {o : HO} {d : D} (v : VOk C W σ ρ H G (.ref a) (.own d)) (ho : H a = some o) : Rel C (W.hold a o) σ ρ H G := by
  obtain ⟨b, e, h1, h2, h3, h4, h5⟩ := v
  cases e
  refine ⟨r.gh, fun b u e => ?_, fun b q => ?_, fun j b q => ?_, r.pn, r.ln, fun i => ?_, r.ne, fun p hp => ⟨.inr (r.sx p hp).1, (r.sx p hp).2⟩, fun p hp => ⟨.inr (r.tb p hp).1, (show upd W.Z a o p.1 = none by rw [upd_ne (fun z : p.1 = a => h4 (z ▸ (r.tb p hp).1))]; exact (r.tb p hp).2.1), (r.tb p hp).2.2⟩⟩
  · by_cases z : b = a
    · subst z; rw [show (W.hold b o).Z b = some o from upd_same] at e; cases e; exact ho
    · rw [show (W.hold a o).Z b = W.Z b from upd_ne z] at e; exact r.zh _ _ e
  · rcases q with rfl | q
    · exact ⟨h2, _, ho⟩
    · exact r.nn b q
  · obtain ⟨u, hu⟩ := r.bz j b q
    have z : b ≠ a := fun z => by subst z; rw [h3] at hu; cases hu
    exact ⟨u, by rw [show (W.hold a o).Z b = W.Z b from upd_ne z]; exact hu⟩
  · have q := r.at_ i
    cases s : ρ.at i with
    | un => trivial
    | dat d => rw [s] at q; exact q
    | own d' =>
      rw [s] at q
      obtain ⟨b, q1, q2, q3, q4, q5⟩ := q
      have z : b ≠ a := fun z => h5 i (by rw [s]; rfl) (z ▸ q1)
      exact ⟨b, q1, q2, q3, by rw [show (W.hold a o).Z b = W.Z b from upd_ne z]; exact q4, fun y => y.elim z q5⟩
    | exv _ _ _ => rw [s] at q; exact q
    | clo _ _ => rw [s] at q; exact q
    | brw d' =>
      rw [s] at q
      obtain ⟨b, q1, q2, q3⟩ := q
      refine ⟨b, q1, q2.move (fun u e => ?_) (Ge.refl _), q3⟩
      have z : b ≠ a := fun z => by subst z; rw [h3] at e; cases e
      rw [show (W.hold a o).Z b = W.Z b from upd_ne z]; exact e
theorem Rel.unhold (r : Rel C W σ ρ H G) {a : Addr} {o : HO} {d : D} (v : VOk C W σ ρ H G (.ref a) (.own d)) (ho : H a = some o) (g : Ge G G') (r' : Rel C (W.hold a o) σ ρ' H' G') :
    Rel C W σ ρ' H' G' ∧ VOk C W σ ρ' H' G' (.ref a) (.own d) := by
  obtain ⟨b, e, h1, h2, h3, h4, h5⟩ := v
  cases e
  have hz : ∀ b, b ≠ a → (W.hold a o).Z b = W.Z b := fun b z => upd_ne z
  have ha : H' a = some o := r'.zh a o upd_same
  refine ⟨⟨r'.gh, fun b u e => r'.zh b u ?_, fun b q => r'.nn b (.inr q), r.bz, r'.pn, r'.ln, fun i => ?_, r'.ne, fun p hp => ⟨(r.sx p hp).1, (r'.sx p hp).2⟩, fun p hp => ⟨(r.tb p hp).1, (r.tb p hp).2.1, (r'.tb p hp).2.2⟩⟩, a, rfl, h1.move (fun u q => by rw [ho] at q; cases q; exact ha) g, (r'.nn a (.inl rfl)).1, h3, h4, fun i hi e => ?_⟩
  · have z : b ≠ a := fun z => by subst z; rw [h3] at e; cases e
    rw [hz b z]; exact e
  · have q := r'.at_ i
    cases s : ρ'.at i with
    | un => trivial
    | dat d => rw [s] at q; exact q
    | own d' =>
      rw [s] at q
      obtain ⟨b, q1, q2, q3, q4, q5⟩ := q
      have z : b ≠ a := fun z => q5 (.inl z)
      exact ⟨b, q1, q2, q3, by rw [← hz b z]; exact q4, fun y => q5 (.inr y)⟩
    | exv _ _ _ => rw [s] at q; exact q
    | clo _ _ => rw [s] at q; exact q
    | brw d' =>
      rw [s] at q
      obtain ⟨b, q1, q2, q3⟩ := q
      refine ⟨b, q1, q2.move (fun u e => ?_) (Ge.refl _), q3⟩
      have z : b ≠ a := fun z => by subst z; obtain ⟨u, hu⟩ := r.bz i b q3; rw [h3] at hu; cases hu
      rw [← hz b z]; exact e
  · obtain ⟨d', hd⟩ := own_of hi
    obtain ⟨b, q1, _, _, _, q5⟩ := r'.own hd
    rw [e] at q1; cases q1
    exact q5 (.inl rfl)
end

/-! ## statements -/
inductive Out where
  | nx | ret (x : XV) | brk | cont
def GotS (J : Jd) (W : Fm) (G : Hp) (r : R Out) (E : Ends) : Prop := match r with
  | .ok .nx ρ => ∀ σ H' G', Ge G G' → Rel J.C W σ ρ H' G' → E.nx σ H'
  | .ok (.ret x) ρ => ∀ v σ H' G', Ge G G' → Rel J.C W σ ρ H' G' → VOk J.C W σ ρ H' G' v x → E.rt v H'
  | .ok .brk ρ => ∀ σ H' G', Ge G G' → Rel J.C W σ ρ H' G' → E.bk σ H'
  | .ok .cont ρ => ∀ σ H' G', Ge G G' → Rel J.C W σ ρ H' G' → E.ct σ H'
  | .exc c ns vs ρ => ∀ d σ H' G', Ge G G' → Rel J.C W σ ρ H' G' → ExcAt J.C H' G' d ns vs → J.EW (.ref (J.C.CA c)) d σ H'
  | .stuck => False
def EvS (J : Jd) (ts : TS) (f : Env → R Out) : Prop := ∀ W σ ρ H G E, PinOk W J.P J.ex → Rel J.C W σ ρ H G → GotS J W G (f ρ) E → ts E σ H
section
variable {ι : Type}
def CS (J : Jd) (Xs : ι → Cx) (st : Stmt) (f : Env → R Out) : Prop := ∃ ts, (∀ i, Good J (Xs i) → PS (Xs i) st ts) ∧ EvS J ts f
def CSs (J : Jd) (Xs : ι → Cx) (st : List Stmt) (f : Env → R Out) : Prop := ∃ ts, (∀ i, Good J (Xs i) → PSs (Xs i) st ts) ∧ EvS J ts f
end
section
variable {J : Jd} {W : Fm} {σ : St} {ρ : Env} {H G G' : Hp} {E : Ends}
theorem GotS.later {r : R Out} (g : GotS J W G r E) (e : Ge G G') : GotS J W G' r E := by
  cases r with
  | ok a ρ => cases a with
    | nx => exact fun σ H' G'' e' r => g σ H' G'' (e.trans e') r
    | ret x => exact fun v σ H' G'' e' r => g v σ H' G'' (e.trans e') r
    | brk => exact fun σ H' G'' e' r => g σ H' G'' (e.trans e') r
    | cont => exact fun σ H' G'' e' r => g σ H' G'' (e.trans e') r
  | exc c ns vs ρ => exact fun d σ H' G'' e' r x => g d σ H' G'' (e.trans e') r x
  | stuck => exact g
theorem GotS.bind {α : Type} {r : R α} {g : α → Env → R Out} (h : GotS J W G (r.bind g) E) : Got J W σ G r (fun a ρ _ G' => GotS J W G' (g a ρ) E) := by
  cases r with
  | ok a ρ => exact fun H' G' e r => h.later e
  | exc c ns vs ρ => exact fun d H' G' e r x => h d σ H' G' e r x
  | stuck => exact h
end
def seqS (f g : Env → R Out) : Env → R Out := fun ρ => match f ρ with
  | .ok .nx ρ => g ρ
  | r => r
def nextS : Env → R Out := fun ρ => .ok .nx ρ
theorem GotS.seq {J : Jd} {W : Fm} {G : Hp} {f g : Env → R Out} {u : TS} {E : Ends} {ρ : Env} (hg : EvS J u g) (pk : PinOk W J.P J.ex) (h : GotS J W G (seqS f g ρ) E) : GotS J W G (f ρ) { E with nx := u E } := by
  unfold seqS at h
  cases z : f ρ with
  | ok a ρ' =>
    rw [z] at h
    cases a with
    | nx => exact fun σ H' G' e r => hg W σ ρ' H' G' E pk r (h.later e)
    | ret x => exact h
    | brk => exact h
    | cont => exact h
  | exc c ns vs ρ' => rw [z] at h; exact h
  | stuck => rw [z] at h; exact h
section
variable {ι : Type} {J : Jd} {Xs : ι → Cx} {st : Stmt} {rest : List Stmt} {a b c e : Expr} {es : List Expr} {f g : Env → R Out} {fe ge : Env → R XV} {fs : Env → R (List XV)} {ft : Env → R Bool} {pos : Pos}
theorem css_nil : CSs J Xs [] nextS := ⟨_, fun i _ => pss_nil, fun W σ ρ H G E pk r h => h σ H G (Ge.refl _) r⟩
theorem css_cons (h : CS J Xs st f) (h' : CSs J Xs rest g) : CSs J Xs (st :: rest) (seqS f g) := by
  obtain ⟨t, h1, h2⟩ := h
  obtain ⟨u, k1, k2⟩ := h'
  exact ⟨_, fun i G => pss_cons (h1 i G) (k1 i G), fun W σ ρ H G E pk r h => h2 W σ ρ H G _ pk r (GotS.seq k2 pk h)⟩
theorem css_one (h : CS J Xs st f) : CSs J Xs [st] f := by
  obtain ⟨t, h1, h2⟩ := h
  exact ⟨_, fun i G => pss_one (h1 i G), h2⟩
theorem cs_pass : CS J Xs (.Pass pos) nextS := ⟨_, fun i _ => ps_pass, fun W σ ρ H G E pk r h => h σ H G (Ge.refl _) r⟩
def brkS : Env → R Out := fun ρ => .ok .brk ρ
def contS : Env → R Out := fun ρ => .ok .cont ρ
theorem cs_break : CS J Xs (.Break pos) brkS := ⟨_, fun i _ => ps_break, fun W σ ρ H G E pk r h => h σ H G (Ge.refl _) r⟩
theorem cs_continue : CS J Xs (.Continue pos) contS := ⟨_, fun i _ => ps_continue, fun W σ ρ H G E pk r h => h σ H G (Ge.refl _) r⟩
theorem cs_doc {x : Str} {j p} : CS J Xs (.Expr (.Constant (.str x) j p) pos) nextS := ⟨_, fun i _ => ps_doc, fun W σ ρ H G E pk r h => h σ H G (Ge.refl _) r⟩
/-- what is never reached -/
def neverS : Env → R Out := fun _ => .stuck
theorem cs_never : CS J Xs st neverS := ⟨_, fun i _ => ps_never, fun W σ ρ H G E pk r h => h⟩
theorem css_never {sts : List Stmt} : CSs J Xs sts neverS := ⟨_, fun i _ => pss_never, fun W σ ρ H G E pk r h => h⟩
/-- return e -/
def retS (f : Env → R XV) : Env → R Out := fun ρ => (f ρ).bind fun x ρ => .ok (.ret x) ρ
theorem cs_ret (h : CE J Xs e fe) : CS J Xs (.Return (some e) pos) (retS fe) := by
  obtain ⟨t, h1, h2⟩ := h
  refine ⟨_, fun i G => ps_ret (h1 i G), fun W σ ρ H G E pk r h => ?_⟩
  refine h2 W σ ρ H G _ pk r ((GotS.bind h).imp fun x ρ1 H1 G1 e1 r1 k v vk => k v σ H1 G1 (Ge.refl _) r1 vk)
def retN : Env → R Out := fun ρ => .ok (.ret (.dat .non)) ρ
theorem cs_retN : CS J Xs (.Return none pos) retN := ⟨_, fun i _ => ps_retN, fun W σ ρ H G E pk r h => h .non σ H G (Ge.refl _) r .non⟩
/-- an expression, its value dropped -/
def dropS (f : Env → R XV) : Env → R Out := fun ρ => (f ρ).bind fun _ ρ => .ok .nx ρ
theorem cs_expr (h : CE J Xs e fe) (hs : ∀ i, swapsWith e none pos.line (Xs i).env = pure false := by intro _; rfl) : CS J Xs (.Expr e pos) (dropS fe) := by
  obtain ⟨t, h1, h2⟩ := h
  refine ⟨_, fun i G => ps_expr (h1 i G) (hs i), fun W σ ρ H G E pk r h => ?_⟩
  refine h2 W σ ρ H G _ pk r ((GotS.bind h).imp fun x ρ1 H1 G1 e1 r1 k v vk => k σ H1 G1 (Ge.refl _) r1)
/-- if -/
def iteS (t : Env → R Bool) (f g : Env → R Out) : Env → R Out := fun ρ => (t ρ).bind fun b ρ => if b = true then f ρ else g ρ
theorem cs_if {xs ys : List Stmt} (hc : CT J Xs c ft) (ha : CSs J Xs xs f) (hb : CSs J Xs ys g) : CS J Xs (.If c xs ys pos) (iteS ft f g) := by
  obtain ⟨t, h1, h2⟩ := hc
  obtain ⟨u, k1, k2⟩ := ha
  obtain ⟨w, l1, l2⟩ := hb
  refine ⟨_, fun i G => ps_if (h1 i G) (k1 i G) (l1 i G), fun W σ ρ H G E pk r h => ?_⟩
  refine h2 W σ ρ H G _ pk r ((GotS.bind h).imp fun bb ρ1 H1 G1 e1 r1 k => ?_)
  cases bb
  · rw [if_neg (by decide)] at k ⊢; exact l2 W σ ρ1 H1 G1 _ pk r1 k
  · rw [if_pos rfl] at k ⊢; exact k2 W σ ρ1 H1 G1 _ pk r1 k
/-! ### a name stored -/
/-- a value that a name takes over: new, or frozen -/
def takeX (x : XV) (ρ : Env) : R XV := match x with
  | .slot i => match ρ.at i with
    | .own d => .ok (.dat d) (ρ.set i (.dat d))
    | _ => .stuck
  | x => .ok x ρ
def svOf : XV → SV
  | .dat d => .dat d
  | .own d => .own d
  | .slot _ => .un
theorem take_ok {W : Fm} {σ : St} {ρ : Env} {H G : Hp} {v : V} {x : XV} {K : XV → Env → Hp → Hp → Prop} (rl : Rel J.C W σ ρ H G) (vk : VOk J.C W σ ρ H G v x) (h : Got J W σ G (takeX x ρ) K) :
    ∃ x' ρ' G', Ge G G' ∧ Rel J.C W σ ρ' H G' ∧ VOk J.C W σ ρ' H G' v x' ∧ (∀ i, x' ≠ .slot i) ∧ K x' ρ' H G' := by
  cases x with
  | dat d => exact ⟨_, ρ, G, Ge.refl _, rl, vk, fun i e => (by cases e), h H G (Ge.refl _) rl⟩
  | own d => exact ⟨_, ρ, G, Ge.refl _, rl, vk, fun i e => (by cases e), h H G (Ge.refl _) rl⟩
  | slot i =>
    unfold takeX at h
    dsimp only at h
    rcases vk with ⟨h1, ⟨d, h2⟩ | ⟨d, h2⟩ | ⟨_, _, h2⟩⟩
    · rw [h2] at h
      obtain ⟨w, G2, e1, e2, r2, i2⟩ := rl.frzSlot h2
      rw [h1] at e1; cases e1
      exact ⟨.dat d, _, G2, e2, r2, i2, fun i e => (by cases e), h H G2 e2 r2⟩
    · rw [h2] at h; exact h.elim
    · rw [h2] at h; exact h.elim
theorem Rel.setX {C : Cst} {W : Fm} {σ : St} {ρ : Env} {H G : Hp} (r : Rel C W σ ρ H G) {i : Nat} {v : V} {x : XV} (h : VOk C W σ ρ H G v x) (hx : ∀ i, x ≠ .slot i) (hp : ∀ p ∈ W.pin, p.1 ≠ i) : Rel C W (σ.set i (some v)) (ρ.set i (svOf x)) H G := by
  by_cases hi : i < ρ.length
  · cases x with
    | dat d => exact r.setDat h hp hi
    | own d => exact r.setOwn h hp hi
    | slot i => exact absurd rfl (hx i)
  · rw [List.set_eq_of_length_le (by rw [r.ln]; omega), List.set_eq_of_length_le (by omega)]
    exact r
def storeS (i : Nat) (x : XV) (ρ : Env) : R Out := (takeX x ρ).bind fun x ρ => .ok .nx (ρ.set i (svOf x))
def asgS (i : Nat) (f : Env → R XV) : Env → R Out := fun ρ => (f ρ).bind (storeS i)
theorem ev_asg {te : TE} {i : Nat} (h : EvE J te fe) (hp : i ∉ J.P) : EvS J (tAsg te (gName i)) (asgS i fe) := by
  intro W σ ρ H G E pk r k
  refine h W σ ρ H G _ pk r ((GotS.bind k).imp fun x ρ1 H1 G1 e1 r1 k v vk => ?_)
  obtain ⟨x', ρ', G', g1, g2, g3, g4, g5⟩ := take_ok r1 vk (GotS.bind k)
  exact g5 (σ.set i (some v)) H1 G' (Ge.refl _) (g2.setX g3 g4 fun p hp' e => hp (e ▸ pk.1 p hp'))
theorem cs_set {i : Nat} {x : Str} {p : Pos} (h : CE J Xs e fe) (hp : i ∉ J.P) (hi : ∀ j, (Xs j).N[i]? = some x := by intro _; rfl) (hx : ∀ j, Loc (Xs j).env.scope x := by first | exact fun _ => Or.inl rfl | exact fun _ => Or.inr rfl)
    (hs : ∀ j, swapsWith e (some (.Name x p)) pos.line (Xs j).env = pure false := by intro _; rfl) (hf : ∀ j, (Xs j).fn x = true ∨ (Xs j).env.scope.names.lookup x = some .local := by first | exact fun _ => Or.inl rfl | exact fun _ => Or.inr rfl) :
    CS J Xs (.Assign [.Name x p] e pos) (asgS i fe) := by
  obtain ⟨t, h1, h2⟩ := h
  exact ⟨_, fun j G => ps_set G.nd (hi j) (hx j) (h1 j G) (hs j) (hf j), ev_asg h2 hp⟩
/-! ### a, b = x, y -/
def pairS (f g : Env → R XV) : Env → R (XV × XV) := fun ρ => (f ρ).bind fun x ρ => (takeX x ρ).bind fun x ρ => (g ρ).bind fun y ρ => (takeX y ρ).bind fun y ρ => .ok (x, y) ρ
def par2S (i j : Nat) (f g : Env → R XV) : Env → R Out := fun ρ => (pairS f g ρ).bind fun p ρ => .ok .nx ((ρ.set i (svOf p.1)).set j (svOf p.2))
theorem ev_par2 {ta tb : TE} {i j : Nat} (h : EvE J ta fe) (h' : EvE J tb ge) (hi : i ∉ J.P) (hj : j ∉ J.P) : EvS J (tPar i j (tCons ta (tCons tb tNil))) (par2S i j fe ge) := by
  intro W σ ρ H G E pk r k
  have k := GotS.bind (σ := σ) k
  refine h W σ ρ H G _ pk r ((Got.bind k).imp fun x ρ1 H1 G1 e1 r1 k v vk => ?_)
  obtain ⟨x', ρ2, G2, g1, r2, v2, nx, k⟩ := take_ok r1 vk (Got.bind k)
  have fin : ∀ (y : XV) (ρ3 : Env) (H3 G3 : Hp) (w : V), Rel J.C W σ ρ3 H3 G3 → VOk J.C W σ ρ3 H3 G3 v x' → VOk J.C W σ ρ3 H3 G3 w y → (∀ i, y ≠ .slot i) → (∀ d e, x' = .own d → y = .own e → v ≠ w) →
      GotS J W G3 (.ok .nx ((ρ3.set i (svOf x')).set j (svOf y))) E → ∃ v' w', [v, w] = [v', w'] ∧ E.nx ((σ.set i (some v')).set j (some w')) H3 := by
    intro y ρ3 H3 G3 w r3 v3 w3 ny nn k
    refine ⟨v, w, rfl, k _ H3 G3 (Ge.refl _) ?_⟩
    have ra := r3.setX (i := i) v3 nx fun p hp e => hi (e ▸ pk.1 p hp)
    refine ra.setX (i := j) ?_ ny fun p hp e => hj (e ▸ pk.1 p hp)
    cases y with
    | dat d => exact w3
    | slot n => exact absurd rfl (ny n)
    | own d =>
      obtain ⟨b, e, q1, q2, q3, q4, q5⟩ := w3
      refine ⟨b, e, q1, q2, q3, q4, fun n hn en => ?_⟩
      by_cases z : n = i
      · subst z
        by_cases hl : n < ρ3.length
        · rw [Env.at_set hl, if_pos rfl] at hn
          cases x' with
          | dat d' => cases hn
          | slot m => cases hn
          | own d' =>
            refine nn d' d rfl rfl ?_
            have hl' : n < σ.length := by rw [r3.ln]; exact hl
            simp [hl'] at en
            exact en
        · rw [List.set_eq_of_length_le (by omega)] at hn
          rw [Env.at_out (by omega)] at hn
          cases hn
      · rw [Env.at_set_ne z] at hn
        rw [List.getElem?_set_ne (Ne.symm z)] at en
        exact q5 n hn en
  cases x' with
  | slot n => exact absurd rfl (nx n)
  | dat d =>
    refine h' W σ ρ2 H1 G2 _ pk r2 ((Got.bind k).imp fun y ρ3 H3 G3 e3 r3 k w wk => ?_)
    obtain ⟨y', ρ4, G4, g4, r4, w4, ny, k⟩ := take_ok r3 wk (Got.bind k)
    exact fin y' ρ4 H3 G4 w r4 (IsD.ge v2 (e3.trans g4)) w4 ny (fun d e z => by cases z) (k H3 G4 (Ge.refl _) r4)
  | own d =>
    obtain ⟨a, rfl, ow, _⟩ := id v2
    obtain ⟨o, ho⟩ := ow.there
    have rh := r2.hold v2 ho
    have pk' : PinOk (W.hold a o) J.P J.ex := pk
    -- the second part runs while the first object is held
    have k2 : Got J (W.hold a o) σ G2 ((ge ρ2).bind fun y ρ => (takeX y ρ).bind fun y ρ => .ok (XV.own d, y) ρ) (fun p ρ _ G' => GotS J W G' (.ok .nx ((ρ.set i (svOf p.1)).set j (svOf p.2))) E) := by
      cases z : (ge ρ2).bind fun y ρ => (takeX y ρ).bind fun y ρ => .ok (XV.own d, y) ρ with
      | stuck => rw [z] at k; exact k
      | ok p ρ' => rw [z] at k; exact fun H' G' e r => k H' G' e (r2.unhold v2 ho e r).1
      | exc c ns vs ρ' => rw [z] at k; exact fun dd H' G' e r x => k dd H' G' e (r2.unhold v2 ho e r).1 x
    refine h' (W.hold a o) σ ρ2 H1 G2 _ pk' rh ((Got.bind k2).imp fun y ρ3 H3 G3 e3 r3 k w wk => ?_)
    obtain ⟨y', ρ4, G4, g4, r4, w4, ny, k⟩ := take_ok r3 wk (Got.bind k)
    obtain ⟨rw, vw⟩ := r2.unhold v2 ho (e3.trans g4) r4
    refine fin y' ρ4 H3 G4 w rw vw ?_ ny (fun d1 e1 _ z => ?_) (k H3 G4 (Ge.refl _) r4)
    · cases y' with
      | dat d => exact w4
      | slot n => exact absurd rfl (ny n)
      | own d' =>
        obtain ⟨b, e, q1, q2, q3, q4, q5⟩ := w4
        have z : b ≠ a := fun z => q4 (.inl z)
        exact ⟨b, e, q1, q2, by rw [← show (W.hold a o).Z b = W.Z b from upd_ne z]; exact q3, fun y => q4 (.inr y), q5⟩
    · subst z
      intro e
      obtain ⟨b, e', _, _, _, q4, _⟩ := w4
      rw [← e] at e'; cases e'
      exact q4 (.inl rfl)
theorem cs_par2 {i j : Nat} {x y : Str} {px py pt : Pos} {kt k2 pt2} (h : CE J Xs a fe) (h' : CE J Xs b ge) (hpi : i ∉ J.P) (hpj : j ∉ J.P) (hij : i ≠ j) (hi : ∀ n, (Xs n).N[i]? = some x := by intro _; rfl) (hj : ∀ n, (Xs n).N[j]? = some y := by intro _; rfl)
    (hx : ∀ n, (Xs n).env.scope.names.lookup x = some .local := by intro _; rfl) (hy : ∀ n, (Xs n).env.scope.names.lookup y = some .local := by intro _; rfl)
    (he : ∀ n, starEach [a, b] (Xs n).env = (false, eval a (Xs n).env) :: starEach [b] (Xs n).env := by intro _; rfl) (he2 : ∀ n, starEach [b] (Xs n).env = (false, eval b (Xs n).env) :: starEach [] (Xs n).env := by intro _; rfl)
    (hw : ∀ n, swappedStores [.Tuple [.Name x px, .Name y py] kt pt] (.Tuple [a, b] k2 pt2) (Xs n).env = pure (some [x, y]) := by intro _; rfl)
    (hs : ∀ n, swapsWithSole [.Tuple [.Name x px, .Name y py] kt pt] (.Tuple [a, b] k2 pt2) pos.line (Xs n).env = pure false := by intro _; rfl) :
    CS J Xs (.Assign [.Tuple [.Name x px, .Name y py] kt pt] (.Tuple [a, b] k2 pt2) pos) (par2S i j fe ge) := by
  obtain ⟨t, h1, h2⟩ := h
  obtain ⟨u, k1, k2⟩ := h'
  exact ⟨_, fun n G => ps_par G.calm G.nd (hi n) (hj n) hij (hx n) (hy n) (pa_cons (h1 n G) (pa_cons (k1 n G) pa_nil (he2 n)) (he n)) (hw n) (hs n), ev_par2 h2 k2 hpi hpj⟩
end

/-! ## a def by its body -/
def outsOf : List SV → Env → List SV
  | [], _ => []
  | .own _ :: l, ρ => backSV (ρ.at 0) :: outsOf l ρ.tail
  | s :: l, ρ => s :: outsOf l ρ.tail
def ownIn (P : List Nat) : Nat → List SV → Bool
  | _, [] => true
  | j, .own _ :: l => P.contains j && ownIn P (j + 1) l
  | j, _ :: l => ownIn P (j + 1) l
/-- what a body's end hands back -/
def endF (n : Nat) (args : List SV) : R Out → FR
  | .ok .nx ρ => .ok (.dat .non) (outsOf args ρ)
  | .ok (.ret (.dat d)) ρ => .ok (.dat d) (outsOf args ρ)
  | .ok (.ret (.own d)) ρ => .ok (.own d) (outsOf args ρ)
  | .ok (.ret (.slot i)) ρ => if n ≤ i then match ρ.at i with
      | .own d => .ok (.own d) (outsOf args ρ)
      | _ => .stuck
    else .stuck
  | .exc c ns vs ρ => .exc c ns vs (outsOf args ρ)
  | _ => .stuck
def runF (n m : Nat) (P : List Nat) (b : Env → R Out) : FnM := fun args => if ownIn P 0 args = true then endF n args (b (args ++ List.replicate m .un)) else .stuck
theorem outsOf_len : ∀ (l : List SV) (ρ : Env), (outsOf l ρ).length = l.length
  | [], _ => rfl
  | s :: l, ρ => by cases s <;> simp [outsOf, outsOf_len l ρ.tail]
theorem at_tail (ρ : Env) (i : Nat) : Env.at ρ.tail i = Env.at ρ (i + 1) := by
  unfold Env.at
  cases ρ with
  | nil => simp
  | cons s ρ => simp
theorem at_cons (s : SV) (ρ : List SV) (i : Nat) : Env.at (s :: ρ) (i + 1) = Env.at ρ i := by unfold Env.at; simp
theorem outsOf_at : ∀ (l : List SV) (ρ : Env) (i : Nat), i < l.length → Env.at (outsOf l ρ) i = if (Env.at l i).isOwn = true then backSV (ρ.at i) else Env.at l i
  | [], _, _, h => by simp at h
  | s :: l, ρ, 0, _ => by cases s <;> rfl
  | s :: l, ρ, i + 1, h => by
    have ih := outsOf_at l ρ.tail i (by simpa using h)
    rw [at_cons, ← at_tail ρ]
    cases s <;> (simp only [outsOf]; rw [at_cons]; exact ih)
theorem ownIn_mem {P : List Nat} : ∀ {n : Nat} {l : List SV} {i : Nat}, ownIn P n l = true → (Env.at l i).isOwn = true → n + i ∈ P
  | n, [], i, _, h => by simp [Env.at] at h; cases h
  | n, s :: l, 0, h, h' => by
    have : s.isOwn = true := h'
    obtain ⟨d, rfl⟩ := own_of this
    simp [ownIn] at h
    simpa using h.1
  | n, s :: l, i + 1, h, h' => by
    rw [at_cons] at h'
    have : ownIn P (n + 1) l = true := by
      cases s <;> first | (simp [ownIn] at h; exact h.2) | (simp only [ownIn] at h; exact h)
    have := ownIn_mem this h'
    rwa [show n + (i + 1) = n + 1 + i by omega]
section
variable {C : Cst} {W : Fm} {σ : St} {ρ : Env} {H G H' G' : Hp}
theorem Rel.more (r : Rel C W σ ρ H G) (m : Nat) : Rel C W (σ ++ List.replicate m none) (ρ ++ List.replicate m .un) H G := by
  have atL : ∀ i, Env.at (ρ ++ List.replicate m .un) i = ρ.at i := fun i => by
    unfold Env.at
    by_cases h : i < ρ.length
    · rw [List.getElem?_append_left h]
    · rw [List.getElem?_append_right (by omega), List.getElem?_eq_none (l := ρ) (by omega), List.getElem?_replicate]
      split <;> rfl
  have own : ∀ i, (ρ.at i).isOwn = true → i < σ.length := fun i h => by
    rw [r.ln]
    exact own_lt fun z => by rw [z] at h; cases h
  have slot : ∀ i, i < σ.length → (σ ++ List.replicate m none)[i]? = σ[i]? := fun i h => List.getElem?_append_left h
  refine ⟨r.gh, r.zh, r.nn, r.bz, fun p hp => ?_, by rw [List.length_append, List.length_append, List.length_replicate, List.length_replicate, r.ln], fun i => ?_, fun i j a ij h1 h2 e1 e2 => ?_, r.sx, r.tb⟩
  · have := r.pn p hp
    rw [slot _ (List.getElem?_eq_some_iff.mp this).1]; exact this
  · rw [atL]
    have q := r.at_ i
    by_cases h : i < σ.length
    · rw [slot i h]; exact q
    · rw [Env.at_out (by rw [← r.ln]; omega)]; trivial
  · rw [atL] at h1 h2
    rw [slot i (own i h1)] at e1
    rw [slot j (own j h2)] at e2
    exact r.ne i j a ij h1 h2 e1 e2
/-- a slot that was handed over and is held still -/
theorem own_out {vs : List V} {args : List SV} {σ' : St} {ρ' : Env} (r : Rel C W (vs.map some) args H G) (hp : ∀ j a, (Env.at args j).isOwn = true → vs[j]? = some (.ref a) → (j, a) ∈ W.pin) (r' : Rel C W σ' ρ' H' G') :
    (∀ j, (Env.at args j).isOwn = true → ∃ a, (vs.map some)[j]? = some (some (.ref a)) ∧ σ'[j]? = some (some (.ref a)) ∧ W.Z a = none ∧ ¬ W.N a) ∧
    ∀ i, (Env.at (outsOf args ρ') i).isOwn = true → i < args.length ∧ (Env.at args i).isOwn = true ∧ (ρ'.at i).isOwn = true ∧ Env.at (outsOf args ρ') i = ρ'.at i := by
  have slotV : ∀ j, (Env.at args j).isOwn = true → ∃ a, (vs.map some)[j]? = some (some (.ref a)) ∧ σ'[j]? = some (some (.ref a)) ∧ W.Z a = none ∧ ¬ W.N a := fun j hj => by
    obtain ⟨d, hd⟩ := own_of hj
    obtain ⟨a, h1, _, _, h4, h5⟩ := r.own hd
    have hv : vs[j]? = some (.ref a) := by
      rw [List.getElem?_map] at h1
      cases e : vs[j]? with
      | none => rw [e] at h1; cases h1
      | some v => rw [e] at h1; cases h1; rfl
    exact ⟨a, h1, r'.pn _ (hp j a hj hv), h4, h5⟩
  have ownOut : ∀ i, (Env.at (outsOf args ρ') i).isOwn = true → i < args.length ∧ (Env.at args i).isOwn = true ∧ (ρ'.at i).isOwn = true ∧ Env.at (outsOf args ρ') i = ρ'.at i := fun i h => by
    have hi : i < args.length := by
      have := own_lt (ρ := outsOf args ρ') (i := i) fun z => by rw [z] at h; cases h
      rwa [outsOf_len] at this
    have e := outsOf_at args ρ' i hi
    by_cases ho : (Env.at args i).isOwn = true
    · rw [if_pos ho] at e
      cases s : ρ'.at i with
      | own d => exact ⟨hi, ho, rfl, by rw [e, s]; rfl⟩
      | un => rw [e, s] at h; cases h
      | dat d => rw [e, s] at h; cases h
      | brw d => rw [e, s] at h; cases h
      | exv _ _ _ => rw [e, s] at h; cases h
      | clo _ _ => rw [e, s] at h; cases h
    · rw [if_neg ho] at e; rw [e] at h; exact absurd h ho
  exact ⟨slotV, ownOut⟩
/-- back from the body to the arguments -/
theorem body_rel {vs : List V} {args : List SV} {σ' : St} {ρ' : Env} (r : Rel C W (vs.map some) args H G) (g : Ge G G') (hp : ∀ j a, (Env.at args j).isOwn = true → vs[j]? = some (.ref a) → (j, a) ∈ W.pin)
    (r' : Rel C W σ' ρ' H' G') : Rel C W (vs.map some) (outsOf args ρ') H' G' := by
  obtain ⟨slotV, ownOut⟩ := own_out r hp r'
  refine ⟨r'.gh, r'.zh, r'.nn, r.bz, r.pn, by rw [outsOf_len]; exact r.ln, fun i => ?_, fun i j a ij h1 h2 e1 e2 => ?_, r'.sx, r'.tb⟩
  · by_cases hi : i < args.length
    · rw [outsOf_at args ρ' i hi]
      by_cases ho : (Env.at args i).isOwn = true
      · rw [if_pos ho]
        obtain ⟨a, h1, h2, _⟩ := slotV i ho
        have q := r'.at_ i
        rw [h2] at q
        rw [h1]
        cases s : ρ'.at i with
        | un => trivial
        | brw d => trivial
        | exv _ _ _ => trivial
        | clo _ _ => trivial
        | dat d => rw [s] at q; exact q
        | own d => rw [s] at q; exact q
      · rw [if_neg ho]
        have q := r.at_ i
        cases s : Env.at args i with
        | un => trivial
        | dat d => rw [s] at q; obtain ⟨v, q1, q2⟩ := q; exact ⟨v, q1, q2.ge g⟩
        | own d => rw [s] at ho; exact absurd rfl ho
        | brw d => rw [s] at q; obtain ⟨a, q1, q2, q3⟩ := q; exact ⟨a, q1, q2.move (fun _ z => z) g, q3⟩
        | exv c ns vs => rw [s] at q; obtain ⟨a, dx, fs, q1, q2, q3, q4, q5⟩ := q; exact ⟨a, dx, fs, q1, q2, g _ _ q3, q4, q5.ge g⟩
        | clo id ds => rw [s] at q; obtain ⟨f, cl, ws, h1, h2, h3, h4⟩ := q; exact ⟨f, cl, ws, h1, h2.ge g, h3, h4.ge g⟩
    · rw [Env.at_out (by rw [outsOf_len]; omega)]; trivial
  · obtain ⟨_, o1, p1, _⟩ := ownOut i h1
    obtain ⟨_, o2, p2, _⟩ := ownOut j h2
    obtain ⟨b, b1, b2, _⟩ := slotV i o1
    obtain ⟨c, c1, c2, _⟩ := slotV j o2
    rw [b1] at e1; cases e1
    rw [c1] at e2; cases e2
    exact r'.ne i j a ij p1 p2 b2 c2
theorem body_own {vs : List V} {args : List SV} {σ' : St} {ρ' : Env} (r : Rel C W (vs.map some) args H G) (hp : ∀ j a, (Env.at args j).isOwn = true → vs[j]? = some (.ref a) → (j, a) ∈ W.pin)
    (r' : Rel C W σ' ρ' H' G') {v : V} {d : D} (h : VOk C W σ' ρ' H' G' v (.own d)) : VOk C W (vs.map some) (outsOf args ρ') H' G' v (.own d) := by
  obtain ⟨slotV, ownOut⟩ := own_out r hp r'
  obtain ⟨a, rfl, h1, h2, h3, h4, h5⟩ := h
  refine ⟨a, rfl, h1, h2, h3, h4, fun i hi e => ?_⟩
  obtain ⟨_, o1, p1, _⟩ := ownOut i hi
  obtain ⟨b, b1, b2, _⟩ := slotV i o1
  rw [b1] at e; cases e
  exact h5 i p1 b2
theorem body_slot {vs : List V} {args : List SV} {σ' : St} {ρ' : Env} (r : Rel C W (vs.map some) args H G) (hp : ∀ j a, (Env.at args j).isOwn = true → vs[j]? = some (.ref a) → (j, a) ∈ W.pin)
    (r' : Rel C W σ' ρ' H' G') {v : V} {d : D} {n : Nat} (hn : args.length ≤ n) (h : ρ'.at n = .own d) (hv : σ'[n]? = some (some v)) : VOk C W (vs.map some) (outsOf args ρ') H' G' v (.own d) := by
  obtain ⟨slotV, ownOut⟩ := own_out r hp r'
  obtain ⟨a, q1, q2, q3, q4, q5⟩ := r'.own h
  rw [hv] at q1; cases q1
  refine ⟨a, rfl, q2, q3, q4, q5, fun i hi e => ?_⟩
  obtain ⟨l, o1, p1, _⟩ := ownOut i hi
  obtain ⟨b, b1, b2, _⟩ := slotV i o1
  rw [b1] at e; cases e
  exact r'.ne i n a (by omega) p1 (by rw [h]; rfl) b2 hv
end
section
variable {P : Program} {w : World} {C : Cst} {mg : Str → Option Value} {base : Heap}
/-- a def's body keeps what its mirror tells -/
theorem fn_core {qual : Str} {st : Stmt} {f : Addr} {N ps : List Str} {k n m : Nat} {Pn : List Nat} {b : Env → R Out} {cdv : Value} {A : Around} {outer : List PySem.Env} {s : Shared} {H : Hp} {vs : List V} {Q : VK} {E : XK} (S : FnScope N ps (defScope st)) (hm : N.length = n + m)
    (hb : CSs ⟨C, k, fun c d _ H => E c d H, Pn, none⟩ (fun _ : Unit => cxOf (L2.CX P w) P w C.K mg base N qual (defScope st) f cdv A outer s H E) (defBody st) b) (hr : Room k (A.deeper (PyProof.Rows.envOfC qual (defScope st) s.heap.objs.size f cdv))) (h : spF C n (runF n m Pn b) vs H Q E) :
    ∃ t, PSs (cxOf (L2.CX P w) P w C.K mg base N qual (defScope st) f cdv A outer s H E) (defBody st) t ∧ t { nx := fun _ H' => Q .non H', rt := Q } (L2.start N vs) H := by
  obtain ⟨W, G, args, h1, hx, h2, h3, h4, h5⟩ := h
  obtain ⟨t, t1, t2⟩ := hb
  refine ⟨t, t1 () ⟨rfl, rfl, S.nd, hr, takes_of rfl rfl rfl rfl, passes_of rfl⟩, ?_⟩
  have hal : args.length = n := by rw [← h2.ln, List.length_map, h1]
  have hst : L2.start N vs = vs.map some ++ List.replicate m none := by
    unfold L2.start
    rw [h1, hm, show n + m - n = m by omega]
  rw [hst]
  unfold runF at h5
  by_cases ho : ownIn Pn 0 args = true
  · rw [if_pos ho] at h5
    refine t2 W _ _ H G _ ⟨fun p hp => ?_, hx⟩ (h2.more m) ?_
    · have := ownIn_mem (n := 0) ho (h3 p hp)
      rwa [Nat.zero_add] at this
    · have fin : ∀ {σ' : St} {ρ' : Env} {H' G' : Hp}, Ge G G' → Rel C W σ' ρ' H' G' → Rel C W (vs.map some) (outsOf args ρ') H' G' := fun g r' => body_rel h2 g h4 r'
      cases z : b (args ++ List.replicate m .un) with
      | stuck => rw [z] at h5; exact h5
      | exc c ns ds ρ' =>
        rw [z] at h5
        exact fun d σ' H' G' g r' ex => h5 d H' G' g (fin g r') ex
      | ok o ρ' =>
        rw [z] at h5
        cases o with
        | brk => exact h5.elim
        | cont => exact h5.elim
        | nx => exact fun σ' H' G' g r' => h5 .non H' G' g (fin g r') .non fun i e => (by cases e)
        | ret y =>
          intro v σ' H' G' g r' vk
          cases y with
          | dat d => exact h5 v H' G' g (fin g r') vk fun i e => (by cases e)
          | own d => exact h5 v H' G' g (fin g r') (body_own h2 h4 r' vk) fun i e => (by cases e)
          | slot i =>
            unfold endF at h5
            dsimp only at h5
            by_cases hni : n ≤ i
            · rw [if_pos hni] at h5
              rcases vk with ⟨v1, ⟨d, v2⟩ | ⟨d, v2⟩ | ⟨_, _, v2⟩⟩
              · rw [v2] at h5
                exact h5 v H' G' g (fin g r') (body_slot h2 h4 r' (by omega) v2 v1) fun i e => (by cases e)
              · rw [v2] at h5; exact h5.elim
              · rw [v2] at h5; exact h5.elim
            · rw [if_neg hni] at h5; exact h5.elim
  · rw [if_neg ho] at h5
    exact h5.elim
/-- THE RULE of a def -/
theorem fn_ok {x qual : Str} {st : Stmt} {f : Addr} {fd : FuncData} {N ps : List Str} {k n m : Nat} {Pn : List Nat} {b : Env → R Out} (F : Fun C.K x qual st f fd) (S : FnScope N ps (defScope st)) (hn : ps.length = n) (hm : N.length = n + m)
    (hb : ∀ (cdv : Value) (A : Around) (outer : List PySem.Env) (s : Shared) (H : Hp) (E : XK), CSs ⟨C, k, fun c d _ H => E c d H, Pn, none⟩ (fun _ : Unit => cxOf (L2.CX P w) P w C.K mg base N qual (defScope st) f cdv A outer s H E) (defBody st) b) :
    FnOk P w C.K mg base (L2.CX P w) (k + 1) f fd ps (spF C n (runF n m Pn b)) :=
  F.okX S (fun vs H Q E h => by obtain ⟨W, G, args, h1, _⟩ := h; rw [h1, hn]) fun cdv A outer s H vs Q E hr h => fn_core S hm (hb cdv A outer s H E) hr h
/-- .. whose code object is known -/
theorem fn_okC {x qual : Str} {st : Stmt} {f c : Addr} {fd : FuncData} {N ps : List Str} {k n m : Nat} {Pn : List Nat} {b : Env → R Out} (F : Fun C.K x qual st f fd) (hc : fd.code = .ref c) (S : FnScope N ps (defScope st)) (hn : ps.length = n) (hm : N.length = n + m)
    (hb : ∀ (A : Around) (outer : List PySem.Env) (s : Shared) (H : Hp) (E : XK), CSs ⟨C, k, fun c d _ H => E c d H, Pn, none⟩ (fun _ : Unit => cxOf (L2.CX P w) P w C.K mg base N qual (defScope st) f (.ref c) A outer s H E) (defBody st) b) :
    FnOk P w C.K mg base (L2.CX P w) (k + 1) f fd ps (spF C n (runF n m Pn b)) := by
  obtain ⟨oc, od, kV, doc, pm, an, cdv, ct, osl, rfl, lk, hcd⟩ := F.ex
  have e : cdv = .ref c := hc
  subst e
  exact fn_of lk hcd S (fun vs H Q E h => by obtain ⟨W, G, args, h1, _⟩ := h; rw [h1, hn]) fun A outer s H vs Q E hr h => fn_core S hm (hb A outer s H E) hr h
end
end DL
namespace DL
open PySem L2

/-! ## what is walked -/
/-- a walk over these items, wherever W's frame stands and G is frozen -/
def WalkOk (C : Cst) (W : Fm) (G : Hp) (It : It) (items : List D) : Prop := ∃ (Gd : Hp → Prop) (Y : Nat → Hp → V → Hp → Prop), Walk It items.length Gd Y ∧
  (∀ σ ρ H G', Ge G G' → Rel C W σ ρ H G' → Gd H) ∧
  ∀ i d, items[i]? = some d → ∀ W' σ ρ H G' x H', Rel C W' σ ρ H G' → Ge G G' → Y i H x H' → (∀ a o, W.Z a = some o → W'.Z a = some o) → ∃ G2, Ge G' G2 ∧ Rel C W' σ ρ H' G2 ∧ IsD C G2 x d
def EvI (J : Jd) (wi : TI) (fi : Env → R (List D)) : Prop := ∀ W σ ρ H G (K : It → Hp → Prop), PinOk W J.P J.ex → Rel J.C W σ ρ H G →
  Got J W σ G (fi ρ) (fun items _ H' G' => ∀ It, WalkOk J.C W G' It items → K It H') → wi σ H K
def CI {ι : Type} (J : Jd) (Xs : ι → Cx) (tg iter : Expr) (fi : Env → R (List D)) : Prop := ∃ wi, (∀ i, Good J (Xs i) → PI (Xs i) tg iter wi) ∧ EvI J wi fi

/-! ## targets -/
def EvG (J : Jd) (g : TG) (ts : List Nat) (ft : D → Env → Option Env) : Prop := ∀ W σ ρ H G v d ρ' (Q : St → Hp → Prop), PinOk W J.P J.ex → Rel J.C W σ ρ H G → IsD J.C G v d → ft d ρ = some ρ' →
  (∀ σ', (∀ vs : List Nat, (∀ j ∈ ts, j ∈ vs) → wipe σ' vs = wipe σ vs) → Rel J.C W σ' ρ' H G → Q σ' H) → g v σ H Q
def EvGs (J : Jd) (g : TGs) (ts : List Nat) (ft : List D → Env → Option Env) : Prop := ∀ W σ ρ H G vs ds ρ' (Q : St → Hp → Prop), PinOk W J.P J.ex → Rel J.C W σ ρ H G → IsDs J.C G vs ds → ft ds ρ = some ρ' →
  (∀ σ', (∀ vs : List Nat, (∀ j ∈ ts, j ∈ vs) → wipe σ' vs = wipe σ vs) → Rel J.C W σ' ρ' H G → Q σ' H) → g vs σ H Q
section
variable {ι : Type}
def CG (J : Jd) (Xs : ι → Cx) (tg : Expr) (ts : List Nat) (ft : D → Env → Option Env) : Prop := ∃ g, (∀ i, Good J (Xs i) → PG (Xs i) tg g) ∧ EvG J g ts ft
def CGs (J : Jd) (Xs : ι → Cx) (tg : List Expr) (ts : List Nat) (ft : List D → Env → Option Env) : Prop := ∃ g, (∀ i, Good J (Xs i) → PGs (Xs i) tg g) ∧ EvGs J g ts ft
end
theorem wipe_set {σ : St} {j : Nat} {o : Option V} : ∀ {vs : List Nat}, j ∈ vs → wipe (σ.set j o) vs = wipe σ vs
  | [], h => by cases h
  | v :: vs, h => by
    simp only [wipe]
    by_cases e : j ∈ vs
    · rw [wipe_set e]
    · have : j = v := by simpa [e] using h
      subst this
      rw [wipe_setc σ vs j o]
where
  wipe_setc (σ : St) : ∀ (vs : List Nat) (j : Nat) (o : Option V), (wipe (σ.set j o) vs).set j none = (wipe σ vs).set j none
    | [], j, o => by simp [wipe]
    | v :: vs, j, o => by
      simp only [wipe]
      by_cases e : v = j
      · subst e; rw [List.set_set, List.set_set, wipe_setc σ vs v o]
      · rw [List.set_comm _ _ e, List.set_comm _ _ e, wipe_setc σ vs j o]
theorem wipe_at {σ : St} {i : Nat} : ∀ {vs : List Nat}, i ∉ vs → (wipe σ vs)[i]? = σ[i]? := fun h => wipe_out h
def nameT (j : Nat) (d : D) (ρ : Env) : Option Env := some (ρ.set j (.dat d))
def nilT : List D → Env → Option Env
  | [], ρ => some ρ
  | _, _ => none
def consT (f : D → Env → Option Env) (g : List D → Env → Option Env) : List D → Env → Option Env
  | d :: ds, ρ => (f d ρ).bind (g ds)
  | _, _ => none
def tupT (n : Nat) (g : List D → Env → Option Env) : D → Env → Option Env
  | .tup ds, ρ => if ds.length = n then g ds ρ else none
  | _, _ => none
section
variable {ι : Type} {J : Jd} {Xs : ι → Cx} {e : Expr} {es : List Expr} {pos : Pos} {ts us : List Nat} {f : D → Env → Option Env} {fs : List D → Env → Option Env}
theorem cg_name {j : Nat} {x : Str} (hp : j ∉ J.P) (hj : ∀ i, (Xs i).N[j]? = some x := by intro _; rfl) (hx : ∀ i, Loc (Xs i).env.scope x := by first | exact fun _ => Or.inl rfl | exact fun _ => Or.inr rfl)
    (hf : ∀ i, (Xs i).fn x = true ∨ (Xs i).env.scope.names.lookup x = some .local := by first | exact fun _ => Or.inl rfl | exact fun _ => Or.inr rfl) : CG J Xs (.Name x pos) [j] (nameT j) := by
  refine ⟨gName j, fun i G => pg_name G.nd (hj i) (hx i) (hf i), fun W σ ρ H G v d ρ' Q pk r hd e k => ?_⟩
  cases e
  refine k (σ.set j (some v)) (fun vs h => wipe_set (h j (List.mem_singleton.mpr rfl))) ?_
  exact r.setX (x := .dat d) hd (fun i e => by cases e) fun p hp' e => hp (e ▸ pk.1 p hp')
theorem cgs_nil : CGs J Xs [] [] nilT := by
  refine ⟨gNil, fun i G => pgs_nil, fun W σ ρ H G vs ds ρ' Q pk r hd e k => ?_⟩
  cases hd with
  | nil => cases e; exact ⟨rfl, k σ (fun _ _ => rfl) r⟩
  | cons _ _ => cases e
theorem cgs_cons (h : CG J Xs e ts f) (h' : CGs J Xs es us fs) (hs : ∀ i, (assignEach (e :: es) (Xs i).env).map (·.2) = assign e (Xs i).env :: (assignEach es (Xs i).env).map (·.2) := by intro _; rfl) : CGs J Xs (e :: es) (ts ++ us) (consT f fs) := by
  obtain ⟨g, g1, g2⟩ := h
  obtain ⟨u, u1, u2⟩ := h'
  refine ⟨_, fun i G => pgs_cons (g1 i G) (u1 i G) (hs i), fun W σ ρ H G vs ds ρ' Q pk r hd e k => ?_⟩
  cases hd with
  | nil => cases e
  | cons h1 h2 =>
    rename_i v vs d ds
    simp only [consT] at e
    cases z : f d ρ with
    | none => rw [z] at e; cases e
    | some ρ1 =>
      rw [z] at e
      refine ⟨v, vs, rfl, g2 W σ ρ H G v d ρ1 _ pk r h1 z fun σ1 w1 r1 => ?_⟩
      refine u2 W σ1 ρ1 H G vs ds ρ' _ pk r1 h2 e fun σ2 w2 r2 => ?_
      refine k σ2 (fun vs h => ?_) r2
      rw [w2 vs fun j hj => h j (List.mem_append_right _ hj), w1 vs fun j hj => h j (List.mem_append_left _ hj)]
theorem cg_tup {k n : Nat} (h : CGs J Xs es ts fs) (hn : ∀ i, (assignEach es (Xs i).env).length = n := by intro _; rfl) (hst : ∀ i, (assignEach es (Xs i).env).findIdx? (·.1) = none := by intro _; rfl) : CG J Xs (.Tuple es k pos) ts (tupT n fs) := by
  obtain ⟨g, g1, g2⟩ := h
  refine ⟨gTup J.C.K n g, fun i G => ?_, fun W σ ρ H G v d ρ' Q pk r hd e k => ?_⟩
  · have := pg_tup (pos := pos) (k := k) G.calm (g1 i G) (hn i) (hst i)
    rw [G.hK] at this
    exact this
  · cases d <;> first | (cases e; done) | skip
    rename_i ds
    simp only [tupT] at e
    split at e
    · rename_i hl
      cases hd with
      | tup h1 h2 => exact ⟨_, _, rfl, r.gh.sqT h1, by rw [h2.length]; exact hl, g2 W σ ρ H G _ ds ρ' Q pk r h2 e k⟩
    · cases e
end

/-! ## for -/
def forget : List Nat → Env → Env
  | [], ρ => ρ
  | i :: l, ρ => forget l (ρ.set i .un)
theorem Rel.forget {C : Cst} {W : Fm} {σ : St} {H G : Hp} : ∀ {l : List Nat} {ρ : Env}, Rel C W σ ρ H G → Rel C W σ (forget l ρ) H G
  | [], _, r => r
  | i :: l, _, r => Rel.forget (l := l) (r.un i)
def forL (fg : List Nat) (ft : D → Env → Option Env) (fb : Env → R Out) : List D → Env → R Out
  | [], ρ => .ok .nx (forget fg ρ)
  | d :: ds, ρ => match ft d (forget fg ρ) with
    | none => .stuck
    | some ρ1 => match fb ρ1 with
      | .ok .nx ρ2 => forL fg ft fb ds ρ2
      | .ok .cont ρ2 => forL fg ft fb ds ρ2
      | .ok .brk ρ2 => .ok .nx ρ2
      | r => r
section
variable {J : Jd} {W : Fm} {σ : St} {ρ : Env} {H G : Hp} {E : Ends} {g : TG} {tb : TS} {ts fg : List Nat} {ft : D → Env → Option Env} {fb : Env → R Out}
theorem for_core {It : It} {items : List D} (w : WalkOk J.C W G It items) (r : Rel J.C W σ ρ H G) (pk : PinOk W J.P J.ex) (hg : EvG J g ts ft) (hb : EvS J tb fb) (h : GotS J W G (forL fg ft fb items ρ) E) :
    ∃ W' : Nat → Nat → St → Hp → Prop, (∃ m, W' 0 m σ H) ∧ ∀ i m σ H, W' i m σ H →
      (It.stop i H ∧ E.nx σ H) ∨ (It.go i H ∧ ∃ N : St → Hp → Prop, (∀ σ' H', N σ' H' → ∃ m', m' < m ∧ W' (i + 1) m' σ' H') ∧ ∀ x H', It.yld i H x H' → g x σ H' fun σ2 H2 => tb { E with nx := N, ct := N, bk := E.nx } σ2 H2) := by
  obtain ⟨Gd, Y, wk, hG, hY⟩ := w
  refine for_it wk (fun i σ H => ∃ ρ G', Ge G G' ∧ Rel J.C W σ ρ H G' ∧ GotS J W G' (forL fg ft fb (items.drop i) ρ) E) ⟨ρ, G, Ge.refl _, r, h⟩ (fun i σ H _ ⟨ρ, G', e, r, _⟩ => hG σ ρ H G' e r) ?_ ?_
  · rintro i x σ H H' hi ⟨ρ, G1, e1, r1, h1⟩ y
    have hd : items.drop i = items[i] :: items.drop (i + 1) := List.drop_eq_getElem_cons hi
    rw [hd, forL] at h1
    obtain ⟨G2, e2, r2, d2⟩ := hY i items[i] (List.getElem?_eq_getElem hi) W σ (forget fg ρ) H G1 x H' r1.forget e1 y fun _ _ z => z
    cases z : ft items[i] (forget fg ρ) with
    | none => rw [z] at h1; exact h1.elim
    | some ρ1 =>
      rw [z] at h1
      dsimp only at h1
      refine hg W σ _ H' G2 x _ ρ1 _ pk r2 d2 z fun σ1 _ r3 => ?_
      refine hb W σ1 ρ1 H' G2 _ pk r3 ?_
      have h1 := h1.later e2
      cases zb : fb ρ1 with
      | stuck => rw [zb] at h1; exact h1
      | exc c ns vs ρ2 => rw [zb] at h1; exact h1
      | ok o ρ2 =>
        rw [zb] at h1
        cases o with
        | nx => exact fun σ H G' e r => ⟨ρ2, G', e1.trans (e2.trans e), r, h1.later e⟩
        | cont => exact fun σ H G' e r => ⟨ρ2, G', e1.trans (e2.trans e), r, h1.later e⟩
        | brk => exact h1
        | ret x => exact h1
  · rintro σ H ⟨ρ, G1, e1, r1, h1⟩
    rw [List.drop_length] at h1
    exact h1 σ H G1 (Ge.refl _) r1.forget
end
def forS (fg : List Nat) (fi : Env → R (List D)) (ft : D → Env → Option Env) (fb : Env → R Out) : Env → R Out := fun ρ => (fi ρ).bind fun items ρ => forL fg ft fb items ρ
theorem ev_for {J : Jd} {wi : TI} {g : TG} {tb : TS} {ts fg : List Nat} {fi : Env → R (List D)} {ft : D → Env → Option Env} {fb : Env → R Out} (hi : EvI J wi fi) (hg : EvG J g ts ft) (hb : EvS J tb fb) : EvS J (tFor wi g tb) (forS fg fi ft fb) := by
  intro W σ ρ H G E pk r h
  refine hi W σ ρ H G _ pk r ((GotS.bind h).imp fun items ρ1 H1 G1 e1 r1 k It w => ?_)
  exact for_core w r1 pk hg hb k
section
variable {ι : Type} {J : Jd} {Xs : ι → Cx} {tg iter : Expr} {body : List Stmt} {pos : Pos} {ts : List Nat} {fi : Env → R (List D)} {ft : D → Env → Option Env} {fb : Env → R Out}
theorem cs_for (fg : List Nat) (hi : CI J Xs tg iter fi) (hg : CG J Xs tg ts ft) (hb : CSs J Xs body fb) (hs : ∀ i x, foldedSetIterable iter (Xs i).env x = pure x := by intro _ _; rfl) : CS J Xs (.For tg iter body [] pos) (forS fg fi ft fb) := by
  obtain ⟨wi, i1, i2⟩ := hi
  obtain ⟨g, g1, g2⟩ := hg
  obtain ⟨tb, b1, b2⟩ := hb
  exact ⟨_, fun i G => ps_for G.po G.calm (i1 i G) (g1 i G) (b1 i G) (hs i), ev_for i2 g2 b2⟩
end

/-! ## sources -/
theorem WalkOk.of {C : Cst} {W : Fm} {G : Hp} {It : It} {items : List D} {xs : List V} {Gd : Hp → Prop} (w : Walk It xs.length Gd (YAt xs)) (hs : IsDs C G xs items) (hG : ∀ σ ρ H G', Ge G G' → Rel C W σ ρ H G' → Gd H) : WalkOk C W G It items := by
  refine ⟨Gd, YAt xs, by rw [← hs.length]; exact w, hG, fun i d e W' σ ρ H G' x H' r g y _ => ?_⟩
  obtain ⟨rfl, y2⟩ := y
  obtain ⟨v, h1, h2⟩ := hs.get e
  rw [h1] at y2; cases y2
  exact ⟨G', Ge.refl _, r, h2.ge g⟩
theorem walk_lstD {C : Cst} {W : Fm} {G : Hp} {a : Addr} {xs : List V} {items : List D} (h : SqL C.K G a xs) (hs : IsDs C G xs items) : WalkOk C W G (Itl C.K a) items :=
  WalkOk.of walk_list hs fun σ ρ H G' g r => (g.trans r.gh).sqL h
theorem walk_tupD {C : Cst} {W : Fm} {G : Hp} {a : Addr} {xs : List V} {items : List D} (h : SqT C.K G a xs) (hs : IsDs C G xs items) : WalkOk C W G (Itt C.K a) items :=
  WalkOk.of walk_tup hs fun σ ρ H G' g r => (g.trans r.gh).sqT h
/-- the items of a frozen list or tuple -/
def itL (d : D) (ρ : Env) : R (List D) := match lstD d with
  | some l => .ok l ρ
  | none => .stuck
def itT (d : D) (ρ : Env) : R (List D) := match d with
  | .tup l => .ok l ρ
  | _ => .stuck
def itV (d : D) (ρ : Env) : R (List D) := match seqD d with
  | some l => .ok l ρ
  | none => .stuck
def inV_ (f : Env → R XV) (it : D → Env → R (List D)) : Env → R (List D) := fun ρ => (valS f ρ).bind it
section
variable {J : Jd} {te : TE} {f : Env → R XV}
theorem ev_inL (h : EvE J te f) : EvI J (iList J.C.K te) (inV_ f itL) := by
  intro W σ ρ H G K pk r k
  refine h.val W σ ρ H G _ pk r ((Got.bind k).imp fun d ρ1 H1 G1 e1 r1 k v vk => ?_)
  unfold itL at k
  cases z : lstD d with
  | none => rw [z] at k; exact k.elim
  | some l =>
    rw [z] at k
    cases d <;> cases z
    · cases vk with
      | lst h1 h2 => exact ⟨_, rfl, ⟨_, SqL.of (r1.gh _ _ h1)⟩, k H1 G1 (Ge.refl _) r1 _ (walk_lstD (SqL.of h1) h2)⟩
    · cases vk with
      | rol h1 h2 => exact ⟨_, rfl, ⟨_, r1.gh.sqL h1⟩, k H1 G1 (Ge.refl _) r1 _ (walk_lstD h1 h2)⟩
theorem ev_inT (h : EvE J te f) : EvI J (iTup J.C.K te) (inV_ f itT) := by
  intro W σ ρ H G K pk r k
  refine h.val W σ ρ H G _ pk r ((Got.bind k).imp fun d ρ1 H1 G1 e1 r1 k v vk => ?_)
  cases d <;> first | (exact k.elim) | skip
  cases vk with
  | tup h1 h2 => exact ⟨_, rfl, ⟨_, r1.gh.sqT h1⟩, k H1 G1 (Ge.refl _) r1 _ (walk_tupD h1 h2)⟩
theorem EvI.or {t u : TI} {f f1 f2 : Env → R (List D)} (h1 : EvI J t f1) (h2 : EvI J u f2) (h : ∀ ρ, f ρ = f1 ρ ∨ f ρ = f2 ρ) : EvI J (fun σ H Q => t σ H Q ∨ u σ H Q) f := by
  intro W σ ρ H G Q pk rl g
  rcases h ρ with e | e
  · rw [e] at g; exact .inl (h1 W σ ρ H G Q pk rl g)
  · rw [e] at g; exact .inr (h2 W σ ρ H G Q pk rl g)
theorem PI.or {X : Cx} {tg e : Expr} {t u : TI} (h : PI X tg e t) (h' : PI X tg e u) : PI X tg e (fun σ H Q => t σ H Q ∨ u σ H Q) :=
  ⟨fun pins s σ H Q I q => q.elim (h.run pins s σ H Q I) (h'.run pins s σ H Q I)⟩
theorem inV_or (ρ : Env) : inV_ f itV ρ = inV_ f itL ρ ∨ inV_ f itV ρ = inV_ f itT ρ := by
  unfold inV_
  cases valS f ρ with
  | stuck => exact .inl rfl
  | exc _ _ _ _ => exact .inl rfl
  | ok d ρ1 => cases d <;> first | exact .inl rfl | exact .inr rfl
end
section
variable {ι : Type} {J : Jd} {Xs : ι → Cx} {tg e a b : Expr} {es : List Expr} {f g h : Env → R XV} {p pos : Pos}
/-- over a list or tuple, its value frozen -/
theorem ci_val (h : CE J Xs e f) : CI J Xs tg e (inV_ f itV) := by
  obtain ⟨te, h1, h2⟩ := h
  refine ⟨_, fun i G => ?_, EvI.or (ev_inL h2) (ev_inT h2) inV_or⟩
  have := PI.or (pi_list (tg := tg) (h1 i G)) (pi_tup (tg := tg) (h1 i G))
  rw [G.hK] at this
  exact this
/-- ints from lo on, n of them -/
def rangeD (lo : Int) : Nat → List D
  | 0 => []
  | n + 1 => .int lo :: rangeD (lo + 1) n
theorem rangeD_len : ∀ (lo : Int) (n : Nat), (rangeD lo n).length = n
  | _, 0 => rfl
  | lo, n + 1 => by simp [rangeD, rangeD_len (lo + 1) n]
theorem rangeD_get : ∀ (lo : Int) (n i : Nat), i < n → (rangeD lo n)[i]? = some (.int (lo + i))
  | _, 0, _, h => by omega
  | lo, n + 1, 0, _ => by simp [rangeD]
  | lo, n + 1, i + 1, h => by
    simp only [rangeD, List.getElem?_cons_succ]
    rw [rangeD_get (lo + 1) n i (by omega)]
    congr 2
    omega
theorem walk_rangeD {C : Cst} {W : Fm} {G : Hp} {lo : Int} {n : Nat} : WalkOk C W G (Itr lo n) (rangeD lo n) := by
  refine ⟨_, _, by rw [rangeD_len]; exact walk_range, fun _ _ _ _ _ _ => trivial, fun i d e W' σ ρ H G' x H' r g y _ => ?_⟩
  obtain ⟨rfl, rfl⟩ := y
  have hi : i < n := by have := (List.getElem?_eq_some_iff.mp e).1; rwa [rangeD_len] at this
  rw [rangeD_get lo n i hi] at e
  cases e
  exact ⟨G', Ge.refl _, r, .int _⟩
def rg1 (xs : List XV) (ρ : Env) : R (List D) := match xs with
  | [.dat (.int j)] => if j.natAbs < 4611686018427387904 then .ok (rangeD 0 j.toNat) ρ else .stuck
  | _ => .stuck
def rg2 (xs : List XV) (ρ : Env) : R (List D) := match xs with
  | [.dat (.int i), .dat (.int j)] => if i.natAbs < 4611686018427387904 ∧ j.natAbs < 4611686018427387904 then .ok (rangeD i (j - i).toNat) ρ else .stuck
  | _ => .stuck
def rangeI (rg : List XV → Env → R (List D)) (fs : Env → R (List XV)) : Env → R (List D) := fun ρ => (fs ρ).bind rg
theorem Waits.one {C : Cst} {σ : St} {G : Hp} {vs : List V} {x : XV} (h : Waits C σ G vs [x]) : ∃ v, vs = [v] ∧ Wait C σ G v x := by
  cases vs with
  | nil => exact h.elim
  | cons v l => cases l with
    | nil => exact ⟨v, rfl, h.1⟩
    | cons _ _ => exact h.2.elim
theorem Waits.two {C : Cst} {σ : St} {G : Hp} {vs : List V} {x y : XV} (h : Waits C σ G vs [x, y]) : ∃ v w, vs = [v, w] ∧ Wait C σ G v x ∧ Wait C σ G w y := by
  cases vs with
  | nil => exact h.elim
  | cons v l =>
    obtain ⟨w, rfl, hw⟩ := Waits.one h.2
    exact ⟨v, w, rfl, h.1, hw⟩
variable {fs : Env → R (List XV)}
theorem ci_range1 (hm : ∀ i, (Xs i).mg "range" = none) (ha : CA_ J Xs [a] fs) (hg : ∀ i, Gl (Xs i) "range" := by intro _; rfl) (hs : ∀ i, starEach [a] (Xs i).env = [(false, eval a (Xs i).env)] := by intro _; rfl) : CI J Xs tg (.Call (.Name "range" p) [a] [] pos) (rangeI rg1 fs) := by
  obtain ⟨ta, a1, a2⟩ := ha
  refine ⟨_, fun i G => pi_range1 (hg i) (hm i) (a1 i G) (hs i), fun W σ ρ H G K pk r k => ?_⟩
  refine a2 W σ ρ H G _ pk r ((Got.bind k).imp fun xs ρ1 H1 G1 e1 r1 k vs vk => ?_)
  unfold rg1 at k
  split at k
  · split at k
    · rename_i j hj
      obtain ⟨v, rfl, hv⟩ := Waits.one vk
      cases hv
      exact ⟨j, rfl, by omega, by omega, k H1 G1 (Ge.refl _) r1 _ walk_rangeD⟩
    · exact k.elim
  · exact k.elim
theorem ci_range2 (hm : ∀ i, (Xs i).mg "range" = none) (ha : CA_ J Xs [a, b] fs) (hg : ∀ i, Gl (Xs i) "range" := by intro _; rfl) (hs : ∀ i, starEach [a, b] (Xs i).env = [(false, eval a (Xs i).env), (false, eval b (Xs i).env)] := by intro _; rfl)
    (hs2 : ∀ i, starEach [b] (Xs i).env = [(false, eval b (Xs i).env)] := by intro _; rfl) : CI J Xs tg (.Call (.Name "range" p) [a, b] [] pos) (rangeI rg2 fs) := by
  obtain ⟨ta, a1, a2⟩ := ha
  refine ⟨_, fun i G => pi_range2 (hg i) (hm i) (a1 i G) (hs i) (hs2 i), fun W σ ρ H G K pk r k => ?_⟩
  refine a2 W σ ρ H G _ pk r ((Got.bind k).imp fun xs ρ1 H1 G1 e1 r1 k vs vk => ?_)
  unfold rg2 at k
  split at k
  · split at k
    · rename_i i j hj
      obtain ⟨v, w, rfl, hv, hw⟩ := Waits.two vk
      cases hv
      cases hw
      exact ⟨i, j, rfl, by omega, k H1 G1 (Ge.refl _) r1 _ walk_rangeD⟩
    · exact k.elim
  · exact k.elim
/-- range(a, b, -1) -/
def downD (lo : Int) : Nat → List D
  | 0 => []
  | n + 1 => .int lo :: downD (lo - 1) n
theorem downD_len : ∀ (lo : Int) (n : Nat), (downD lo n).length = n
  | _, 0 => rfl
  | lo, n + 1 => by simp [downD, downD_len (lo - 1) n]
theorem downD_get : ∀ (lo : Int) (n i : Nat), i < n → (downD lo n)[i]? = some (.int (lo + (i : Nat) * (-1)))
  | _, 0, _, h => by omega
  | lo, n + 1, 0, _ => by simp [downD]
  | lo, n + 1, i + 1, h => by
    simp only [downD, List.getElem?_cons_succ]
    rw [downD_get (lo - 1) n i (by omega)]
    congr 2
    omega
theorem walk_downD {C : Cst} {W : Fm} {G : Hp} {lo : Int} {n : Nat} : WalkOk C W G (Itc lo (-1) n) (downD lo n) := by
  refine ⟨_, _, by rw [downD_len]; exact walk_rangeC, fun _ _ _ _ _ _ => trivial, fun i d e W' σ ρ H G' x H' r g y _ => ?_⟩
  obtain ⟨rfl, rfl⟩ := y
  have hi : i < n := by have := (List.getElem?_eq_some_iff.mp e).1; rwa [downD_len] at this
  rw [downD_get lo n i hi] at e
  cases e
  exact ⟨G', Ge.refl _, r, .int _⟩
def rg3 (xs : List XV) (ρ : Env) : R (List D) := match xs with
  | [.dat (.int i), .dat (.int j), .dat (.int c)] => if c = -1 ∧ i.natAbs < 4611686018427387904 ∧ j.natAbs < 4611686018427387904 then .ok (downD i (i - j).toNat) ρ else .stuck
  | _ => .stuck
theorem ci_range3 {c : Expr} (hm : ∀ i, (Xs i).mg "range" = none) (ha : CA_ J Xs [a, b, c] fs) (hg : ∀ i, Gl (Xs i) "range" := by intro _; rfl) (hs : ∀ i, starEach [a, b, c] (Xs i).env = (false, eval a (Xs i).env) :: starEach [b, c] (Xs i).env := by intro _; rfl)
    (hpl : ∀ i, (backTo pos (starEach [b, c] (Xs i).env)).any (·.1) = false := by intro _; rfl) : CI J Xs tg (.Call (.Name "range" p) [a, b, c] [] pos) (rangeI rg3 fs) := by
  obtain ⟨ta, a1, a2⟩ := ha
  refine ⟨_, fun i G => pi_range3 (hg i) (hm i) (a1 i G) (hs i) (hpl i), fun W σ ρ H G K pk r k => ?_⟩
  refine a2 W σ ρ H G _ pk r ((Got.bind k).imp fun xs ρ1 H1 G1 e1 r1 k vs vk => ?_)
  unfold rg3 at k
  split at k
  · split at k
    · rename_i i j c hj
      cases vs with
      | nil => exact vk.elim
      | cons u l =>
        obtain ⟨v, w, rfl, hv, hw⟩ := Waits.two vk.2
        have h0 := vk.1
        cases h0
        cases hv
        cases hw
        obtain ⟨rfl, q1, q2⟩ := hj
        exact ⟨i, j, -1, (i - j).toNat, rfl, RgC.neg (by omega) (by omega) (by omega) (by omega), k H1 G1 (Ge.refl _) r1 _ walk_downD⟩
    · exact k.elim
  · exact k.elim
/-! ### enumerate, zip: new pairs -/
def enumD (n : Nat) : List D → List D
  | [] => []
  | d :: ds => .tup [.int (n : Int), d] :: enumD (n + 1) ds
theorem enumD_len : ∀ (n : Nat) (l : List D), (enumD n l).length = l.length
  | _, [] => rfl
  | n, d :: ds => by simp [enumD, enumD_len (n + 1) ds]
theorem enumD_get : ∀ (n : Nat) (l : List D) (i : Nat) (d : D), (enumD n l)[i]? = some d → ∃ e, l[i]? = some e ∧ d = .tup [.int ((n + i : Nat) : Int), e]
  | _, [], _, _, h => by simp [enumD] at h
  | n, d :: ds, 0, _, h => by simp [enumD] at h; subst h; exact ⟨d, rfl, by simp⟩
  | n, d :: ds, i + 1, _, h => by
    simp only [enumD, List.getElem?_cons_succ] at h
    obtain ⟨e, h1, h2⟩ := enumD_get (n + 1) ds i _ h
    exact ⟨e, by simpa using h1, by rw [h2, show n + 1 + i = n + (i + 1) by omega]⟩
def zipD : List D → List D → List D
  | d :: ds, e :: es => .tup [d, e] :: zipD ds es
  | _, _ => []
theorem zipD_len : ∀ l m : List D, (zipD l m).length = min l.length m.length
  | [], _ => by simp [zipD]
  | _ :: _, [] => by simp [zipD]
  | d :: ds, e :: es => by simp [zipD, zipD_len ds es]
theorem zipD_get : ∀ (l m : List D) (i : Nat) (d : D), (zipD l m)[i]? = some d → ∃ e f, l[i]? = some e ∧ m[i]? = some f ∧ d = .tup [e, f]
  | [], _, _, _, h => by simp [zipD] at h
  | _ :: _, [], _, _, h => by simp [zipD] at h
  | d :: ds, e :: es, 0, _, h => by simp [zipD] at h; subst h; exact ⟨d, e, rfl, rfl, rfl⟩
  | d :: ds, e :: es, i + 1, _, h => by
    simp only [zipD, List.getElem?_cons_succ] at h
    obtain ⟨e, f, h1, h2, h3⟩ := zipD_get ds es i _ h
    exact ⟨e, f, by simpa using h1, by simpa using h2, h3⟩
/-- a pair just made -/
theorem pair_new {C : Cst} {W : Fm} {σ : St} {ρ : Env} {H G : Hp} {T : Addr} {x y : V} {d e : D} (r : Rel C W σ ρ H G) (hT : H T = none) (hx : IsD C G x d) (hy : IsD C G y e) : ∃ G2, Ge G G2 ∧ Rel C W σ ρ (upd H T (.tup [x, y])) G2 ∧ IsD C G2 (.ref T) (.tup [d, e]) := by
  have g : Ge G (upd G T (.tup [x, y])) := Ge.upd (r.gNone hT)
  exact ⟨_, g, r.frz hT, .tup (SqT.of upd_same) (.cons (hx.ge g) (.cons (hy.ge g) .nil))⟩
theorem walk_enumD {C : Cst} {W : Fm} {G : Hp} {a : Addr} {xs : List V} {items : List D} (h : SqL C.K G a xs) (hs : IsDs C G xs items) : WalkOk C W G (Ite C.K a) (enumD 0 items) := by
  refine ⟨_, _, by rw [enumD_len, ← hs.length]; exact walk_enum, fun σ ρ H G' g r => (g.trans r.gh).sqL h, fun i d e W' σ ρ H G' x H' r g y _ => ?_⟩
  obtain ⟨T, u, v, rfl, hT, rfl, h1, h2⟩ := y
  obtain ⟨d', e1, rfl⟩ := enumD_get 0 items i d e
  dsimp only at h1 h2
  obtain ⟨w, w1, w2⟩ := hs.get e1
  rw [w1] at h2; cases h2
  cases h1
  rw [Nat.zero_add]
  exact pair_new r hT (.int _) (w2.ge g)
theorem walk_zipD {C : Cst} {W : Fm} {G : Hp} {a b : Addr} {xs ys : List V} {l m : List D} (h : SqL C.K G a xs) (h' : SqL C.K G b ys) (hs : IsDs C G xs l) (hs' : IsDs C G ys m) : WalkOk C W G (Itz C.K a b) (zipD l m) := by
  refine ⟨_, _, walk_zip (by rw [zipD_len, hs.length, hs'.length]), fun σ ρ H G' g r => ⟨(g.trans r.gh).sqL h, (g.trans r.gh).sqL h'⟩, fun i d e W' σ ρ H G' x H' r g y _ => ?_⟩
  obtain ⟨T, u, v, rfl, hT, rfl, h1, h2⟩ := y
  obtain ⟨d1, d2, e1, e2, rfl⟩ := zipD_get l m i d e
  dsimp only at h1 h2
  obtain ⟨w, w1, w2⟩ := hs.get e1
  obtain ⟨z, z1, z2⟩ := hs'.get e2
  rw [w1] at h1; cases h1
  rw [z1] at h2; cases h2
  exact pair_new r hT (w2.ge g) (z2.ge g)
theorem walk_zipTD {C : Cst} {W : Fm} {G : Hp} {a b : Addr} {xs ys : List V} {l m : List D} (h : SqT C.K G a xs) (h' : SqT C.K G b ys) (hs : IsDs C G xs l) (hs' : IsDs C G ys m) : WalkOk C W G (RZ.ItzT C.K a b) (zipD l m) := by
  have w : Walk (RZ.ItzT C.K a b) (min xs.length ys.length) (fun H => SqT C.K H a xs ∧ SqT C.K H b ys) (YPair (fun i => xs[i]?) (fun i => ys[i]?)) := by
    refine ⟨fun i _ hi q => ?_, fun _ q => ⟨xs, ys, q.1, q.2, by omega⟩, fun i H v H' _ q y => ?_⟩
    · have h1 : i < xs.length := by omega
      have h2 : i < ys.length := by omega
      exact ⟨xs, ys, xs[i], ys[i], q.1, q.2, by simp [h1], by simp [h2]⟩
    · obtain ⟨T, x, z, h1, h2, h3, h4, h5⟩ := y
      exact ⟨T, x, z, h1, h2, h3, h4 xs q.1, h5 ys q.2⟩
  have hl : min xs.length ys.length = (zipD l m).length := by rw [zipD_len, hs.length, hs'.length]
  rw [hl] at w
  refine ⟨_, _, w, fun σ ρ H G' g r => ⟨(g.trans r.gh).sqT h, (g.trans r.gh).sqT h'⟩, fun i d e W' σ ρ H G' x H' r g y _ => ?_⟩
  obtain ⟨T, u, v, rfl, hT, rfl, h1, h2⟩ := y
  obtain ⟨d1, d2, e1, e2, rfl⟩ := zipD_get l m i d e
  dsimp only at h1 h2
  obtain ⟨w, w1, w2⟩ := hs.get e1
  obtain ⟨z, z1, z2⟩ := hs'.get e2
  rw [w1] at h1; cases h1
  rw [z1] at h2; cases h2
  exact pair_new r hT (w2.ge g) (z2.ge g)
def enumL (xs : List XV) (ρ : Env) : R (List D) := match xs with
  | [.dat d] => match lstD d with
    | some l => .ok (enumD 0 l) ρ
    | none => .stuck
  | _ => .stuck
def zipL (xs : List XV) (ρ : Env) : R (List D) := match xs with
  | [.dat (.tup l), .dat (.tup m)] => .ok (zipD l m) ρ
  | [.dat d, .dat e] => match lstD d, lstD e with
    | some l, some m => .ok (zipD l m) ρ
    | _, _ => .stuck
  | _ => .stuck
theorem IsD.lstD {C : Cst} {G : Hp} {v : V} {d : D} {l : List D} (h : IsD C G v d) (e : lstD d = some l) : ∃ a xs, v = .ref a ∧ SqL C.K G a xs ∧ IsDs C G xs l := by
  cases d <;> cases e
  · cases h with
    | lst h1 h2 => exact ⟨_, _, rfl, SqL.of h1, h2⟩
  · cases h with
    | rol h1 h2 => exact ⟨_, _, rfl, h1, h2⟩
variable {elts : List Expr} {kk : Nat} {tpos : Pos}
theorem ci_enum (hm : ∀ i, (Xs i).mg "enumerate" = none) (ha : CA_ J Xs [a] fs) (hg : ∀ i, Gl (Xs i) "enumerate" := by intro _; rfl) (hs : ∀ i, starEach [a] (Xs i).env = [(false, eval a (Xs i).env)] := by intro _; rfl) :
    CI J Xs (.Tuple elts kk tpos) (.Call (.Name "enumerate" p) [a] [] pos) (rangeI enumL fs) := by
  obtain ⟨ta, a1, a2⟩ := ha
  refine ⟨iEnum J.C.K ta, fun i G => ?_, fun W σ ρ H G K pk r k => ?_⟩
  · have := pi_enum (elts := elts) (kk := kk) (tpos := tpos) (p := p) (pos := pos) (hg i) (hm i) (a1 i G) (hs i)
    rw [G.hK] at this
    exact this
  · refine a2 W σ ρ H G _ pk r ((Got.bind k).imp fun xs ρ1 H1 G1 e1 r1 k vs vk => ?_)
    unfold enumL at k
    split at k
    · split at k
      · rename_i d l z
        obtain ⟨v, rfl, hv⟩ := Waits.one vk
        obtain ⟨a, xs, rfl, q1, q2⟩ := IsD.lstD hv z
        exact ⟨a, xs, rfl, r1.gh.sqL q1, k H1 G1 (Ge.refl _) r1 _ (walk_enumD q1 q2)⟩
      · exact k.elim
    · exact k.elim
theorem ci_zip (hm : ∀ i, (Xs i).mg "zip" = none) (ha : CA_ J Xs [a, b] fs) (hg : ∀ i, Gl (Xs i) "zip" := by intro _; rfl) (hs : ∀ i, starEach [a, b] (Xs i).env = (false, eval a (Xs i).env) :: starEach [b] (Xs i).env := by intro _; rfl)
    (hpl : ∀ i, (backTo pos (starEach [b] (Xs i).env)).any (·.1) = false := by intro _; rfl) : CI J Xs (.Tuple elts kk tpos) (.Call (.Name "zip" p) [a, b] [] pos) (rangeI zipL fs) := by
  obtain ⟨ta, a1, a2⟩ := ha
  refine ⟨RZ.iZipA J.C.K ta, fun i G => ?_, fun W σ ρ H G K pk r k => ?_⟩
  · have := RZ.pi_zipA (elts := elts) (kk := kk) (tpos := tpos) (p := p) (pos := pos) (hg i) (hm i) (a1 i G) (hs i) (hpl i)
    rw [G.hK] at this
    exact this
  · refine a2 W σ ρ H G _ pk r ((Got.bind k).imp fun xs ρ1 H1 G1 e1 r1 k vs vk => ?_)
    unfold zipL at k
    split at k
    · obtain ⟨v, w, rfl, hv, hw⟩ := Waits.two vk
      cases hv with
      | tup p1 p2 => cases hw with
        | tup q1 q2 => exact ⟨_, _, _, _, rfl, .inr ⟨r1.gh.sqT p1, r1.gh.sqT q1, k H1 G1 (Ge.refl _) r1 _ (walk_zipTD p1 q1 p2 q2)⟩⟩
    · split at k
      · rename_i z1 z2
        obtain ⟨v, w, rfl, hv, hw⟩ := Waits.two vk
        obtain ⟨a, xs, rfl, p1, p2⟩ := IsD.lstD hv z1
        obtain ⟨b, ys, rfl, q1, q2⟩ := IsD.lstD hw z2
        exact ⟨_, _, _, _, rfl, .inl ⟨r1.gh.sqL p1, r1.gh.sqL q1, k H1 G1 (Ge.refl _) r1 _ (walk_zipD p1 q1 p2 q2)⟩⟩
      · exact k.elim
    · exact k.elim
end
end DL
namespace DL
open PySem L2

/-! ## a held object that changes, that is let go -/
section
variable {C : Cst} {W : Fm} {σ : St} {ρ ρ' : Env} {H G H' G' : Hp} {a : Addr} {o o' : HO}
theorem hold_ne {b : Addr} (z : b ≠ a) : (W.hold a o).Z b = W.Z b := upd_ne z
theorem hold_eq : (W.hold a o).Z a = some o := upd_same
theorem Rel.rehold (r : Rel C (W.hold a o) σ ρ H G) (hb : ∀ i, ¬ W.B i a) (ho : ∀ u, o ≠ .frz u xTrue := by intro _ z; cases z) (ht : ∀ ps, o ≠ .tbl ps := by intro _ z; cases z) : Rel C (W.hold a o') σ ρ (upd H a o') G := by
  have hg : G a = none := (r.nn a (.inl rfl)).1
  have keep : ∀ b u, b ≠ a → H b = some u → upd H a o' b = some u := fun b u z e => by rw [upd_ne z]; exact e
  have sn : ∀ p : Addr × Obj, W.S p.1 = some p.2 → p.1 ≠ a := fun p hp z => by
    have h1 := (r.sx p hp).2
    rw [z, r.zh a o hold_eq] at h1; cases h1; exact ho _ rfl
  have tn : ∀ p ∈ C.T, p.1 ≠ a := fun p hp z => by
    obtain ⟨ps, h1, _⟩ := (r.tb p hp).2.2
    rw [z, r.zh a o hold_eq] at h1; cases h1; exact ht _ rfl
  refine ⟨fun b u e => keep b u (ne_of_none e hg) (r.gh _ _ e), fun b u e => ?_, fun b q => ⟨(r.nn b q).1, ?_⟩, fun j b q => ?_, r.pn, r.ln, fun i => ?_, r.ne, fun p hp => ⟨(r.sx p hp).1, keep _ _ (sn p hp) (r.sx p hp).2⟩, fun p hp => ⟨(r.tb p hp).1, (by rw [hold_ne (tn p hp)]; have := (r.tb p hp).2.1; rw [hold_ne (tn p hp)] at this; exact this), (r.tb p hp).2.2.ge (fun _ q => keep _ _ (tn p hp) q) (Ge.refl _)⟩⟩
  · by_cases z : b = a
    · subst z; rw [hold_eq] at e; cases e; exact upd_same
    · rw [hold_ne z] at e; exact keep b u z (r.zh b u (by rw [hold_ne z]; exact e))
  · by_cases z : b = a
    · subst z; exact ⟨_, upd_same⟩
    · obtain ⟨u, hu⟩ := (r.nn b q).2; exact ⟨u, keep b u z hu⟩
  · have z : b ≠ a := fun z => hb j (z ▸ q)
    obtain ⟨u, hu⟩ := r.bz j b q
    rw [hold_ne z] at hu
    exact ⟨u, by rw [hold_ne z]; exact hu⟩
  · have q := r.at_ i
    cases s : ρ.at i with
    | un => trivial
    | dat d => rw [s] at q; exact q
    | own d' =>
      rw [s] at q
      obtain ⟨b, q1, q2, q3, q4, q5⟩ := q
      have z : b ≠ a := fun z => q5 (.inl z)
      rw [hold_ne z] at q4
      exact ⟨b, q1, q2.move (fun u q => keep b u z q) (Ge.refl _), q3, by rw [hold_ne z]; exact q4, q5⟩
    | exv _ _ _ => rw [s] at q; exact q
    | clo _ _ => rw [s] at q; exact q
    | brw d' =>
      rw [s] at q
      obtain ⟨b, q1, q2, q3⟩ := q
      have z : b ≠ a := fun z => hb i (z ▸ q3)
      exact ⟨b, q1, q2.move (fun u e => by rw [hold_ne z] at e ⊢; exact e) (Ge.refl _), q3⟩
theorem Rel.release (r : Rel C (W.hold a o) σ ρ H G) (hz : W.Z a = none) (hn : ¬ W.N a) (hb : ∀ i, ¬ W.B i a) (ho : ∀ u, o ≠ .frz u xTrue := by intro _ z; cases z) (ht : ∀ ps, o ≠ .tbl ps := by intro _ z; cases z) : Rel C W σ ρ H G ∧ ∀ d, Own C H G a d → VOk C W σ ρ H G (.ref a) (.own d) := by
  have sn : ∀ p : Addr × Obj, W.S p.1 = some p.2 → p.1 ≠ a := fun p hp z => by
    have h1 := (r.sx p hp).2
    rw [z, r.zh a o hold_eq] at h1; cases h1; exact ho _ rfl
  have tn : ∀ p ∈ C.T, p.1 ≠ a := fun p hp z => by
    obtain ⟨ps, h1, _⟩ := (r.tb p hp).2.2
    rw [z, r.zh a o hold_eq] at h1; cases h1; exact ht _ rfl
  refine ⟨⟨r.gh, fun b u e => r.zh b u ?_, fun b q => r.nn b (.inr q), fun j b q => ?_, r.pn, r.ln, fun i => ?_, r.ne, fun p hp => ⟨(r.sx p hp).1.elim (fun z => absurd z (sn p hp)) id, (r.sx p hp).2⟩, fun p hp => ⟨(r.tb p hp).1.elim (fun z => absurd z (tn p hp)) id, (by have := (r.tb p hp).2.1; rw [hold_ne (tn p hp)] at this; exact this), (r.tb p hp).2.2⟩⟩, fun d ow => ⟨a, rfl, ow, (r.nn a (.inl rfl)).1, hz, hn, fun i hi e => ?_⟩⟩
  · have z : b ≠ a := fun z => by subst z; rw [hz] at e; cases e
    rw [hold_ne z]; exact e
  · have z : b ≠ a := fun z => hb j (z ▸ q)
    obtain ⟨u, hu⟩ := r.bz j b q
    rw [hold_ne z] at hu
    exact ⟨u, hu⟩
  · have q := r.at_ i
    cases s : ρ.at i with
    | un => trivial
    | dat d => rw [s] at q; exact q
    | own d' =>
      rw [s] at q
      obtain ⟨b, q1, q2, q3, q4, q5⟩ := q
      have z : b ≠ a := fun z => q5 (.inl z)
      rw [hold_ne z] at q4
      exact ⟨b, q1, q2, q3, q4, fun y => q5 (.inr y)⟩
    | exv _ _ _ => rw [s] at q; exact q
    | clo _ _ => rw [s] at q; exact q
    | brw d' =>
      rw [s] at q
      obtain ⟨b, q1, q2, q3⟩ := q
      have z : b ≠ a := fun z => hb i (z ▸ q3)
      exact ⟨b, q1, q2.move (fun u e => by rw [hold_ne z] at e; exact e) (Ge.refl _), q3⟩
  · obtain ⟨d', hd⟩ := own_of hi
    obtain ⟨b, q1, _, _, _, q5⟩ := r.own hd
    rw [e] at q1; cases q1
    exact q5 (.inl rfl)
theorem Rel.noB (r : Rel C W σ ρ H G) (hz : W.Z a = none) : ∀ i, ¬ W.B i a := fun i q => by obtain ⟨u, hu⟩ := r.bz i a q; rw [hz] at hu; cases hu
end

/-! ## a slot's object lent for a while -/
open Classical in
noncomputable def Fm.lend (W : Fm) (i : Nat) (a : Addr) (o : HO) : Fm := { Z := upd W.Z a o, N := fun b => b = a ∨ W.N b, B := fun j b => (j = i ∧ b = a) ∨ W.B j b, pin := (i, a) :: W.pin, ex := W.ex, S := W.S }
section
variable {C : Cst} {W : Fm} {σ σ' : St} {ρ ρ' : Env} {H G H' G' : Hp} {a : Addr} {o : HO} {i : Nat} {d : D}
theorem lend_ne {b : Addr} (z : b ≠ a) : (W.lend i a o).Z b = W.Z b := upd_ne z
theorem Rel.lend (r : Rel C W σ ρ H G) (h : ρ.at i = .own d) (hs : σ[i]? = some (some (.ref a))) (ho : H a = some o) : Rel C (W.lend i a o) σ (ρ.set i (.brw d)) H G := by
  obtain ⟨b, e, h1, h2, h3, h4⟩ := r.own h
  rw [hs] at e; cases e
  have hl : i < ρ.length := own_lt (by rw [h]; intro z; cases z)
  refine ⟨r.gh, fun b u e => ?_, fun b q => ?_, fun j b q => ?_, fun p hp => ?_, by rw [List.length_set]; exact r.ln, fun j => ?_, fun j k b jk k1 k2 e1 e2 => ?_, fun p hp => ⟨.inr (r.sx p hp).1, (r.sx p hp).2⟩, fun p hp => ⟨.inr (r.tb p hp).1, (by rw [lend_ne (fun z : p.1 = a => h4 (z ▸ (r.tb p hp).1))]; exact (r.tb p hp).2.1), (r.tb p hp).2.2⟩⟩
  · by_cases z : b = a
    · subst z; rw [show (W.lend i b o).Z b = some o from upd_same] at e; cases e; exact ho
    · rw [lend_ne z] at e; exact r.zh _ _ e
  · rcases q with rfl | q
    · exact ⟨h2, _, ho⟩
    · exact r.nn b q
  · rcases q with ⟨_, rfl⟩ | q
    · exact ⟨_, upd_same⟩
    · obtain ⟨u, hu⟩ := r.bz j b q
      have z : b ≠ a := fun z => by subst z; rw [h3] at hu; cases hu
      exact ⟨u, by rw [lend_ne z]; exact hu⟩
  · rcases List.mem_cons.mp hp with rfl | hp
    · exact hs
    · exact r.pn p hp
  · rw [Env.at_set hl]
    split
    · rename_i e; subst e
      exact ⟨a, hs, h1.r.move (fun u q => by rw [ho] at q; cases q; exact upd_same) (Ge.refl _), .inl ⟨rfl, rfl⟩⟩
    · rename_i e
      have q := r.at_ j
      cases s : ρ.at j with
      | un => trivial
      | dat d => rw [s] at q; exact q
      | own d' =>
        rw [s] at q
        obtain ⟨b, q1, q2, q3, q4, q5⟩ := q
        have z : b ≠ a := fun z => r.ne j i a e (by rw [s]; rfl) (by rw [h]; rfl) (z ▸ q1) hs
        exact ⟨b, q1, q2, q3, by rw [lend_ne z]; exact q4, fun y => y.elim z q5⟩
      | exv _ _ _ => rw [s] at q; exact q
      | clo _ _ => rw [s] at q; exact q
      | brw d' =>
        rw [s] at q
        obtain ⟨b, q1, q2, q3⟩ := q
        refine ⟨b, q1, q2.move (fun u e => ?_) (Ge.refl _), .inr q3⟩
        have z : b ≠ a := fun z => by subst z; rw [h3] at e; cases e
        rw [lend_ne z]; exact e
  · rw [Env.at_set hl] at k1 k2
    refine r.ne j k b jk ?_ ?_ e1 e2
    · split at k1
      · cases k1
      · exact k1
    · split at k2
      · cases k2
      · exact k2
/-- given back -/
theorem Rel.unlend (r : Rel C W σ ρ H G) (h : ρ.at i = .own d) (hs : σ[i]? = some (some (.ref a))) (ho : H a = some o) (g : Ge G G') (r' : Rel C (W.lend i a o) σ' ρ' H' G') (hl : i < ρ'.length) :
    Rel C W σ' (ρ'.set i (.own d)) H' G' ∧ ∀ v x, VOk C (W.lend i a o) σ' ρ' H' G' v x → VOk C W σ' (ρ'.set i (.own d)) H' G' v x := by
  obtain ⟨b, e, h1, h2, h3, h4⟩ := r.own h
  rw [hs] at e; cases e
  have ha : H' a = some o := r'.zh a o upd_same
  have hs' : σ'[i]? = some (some (.ref a)) := r'.pn (i, a) List.mem_cons_self
  have ow : Own C H' G' a d := h1.move (fun u q => by rw [ho] at q; cases q; exact ha) g
  have hN := r'.nn a (.inl rfl)
  have hB := r.noB h3
  have oth : ∀ j d', j ≠ i → ρ'.at j = .own d' → ∃ b, σ'[j]? = some (some (.ref b)) ∧ b ≠ a ∧ Own C H' G' b d' ∧ G' b = none ∧ W.Z b = none ∧ ¬ W.N b := fun j d' ji s => by
    obtain ⟨b, q1, q2, q3, q4, q5⟩ := r'.own s
    have z : b ≠ a := fun z => q5 (.inl z)
    rw [lend_ne z] at q4
    exact ⟨b, q1, z, q2, q3, q4, fun y => q5 (.inr y)⟩
  have rel : Rel C W σ' (ρ'.set i (.own d)) H' G' := by
    refine ⟨r'.gh, fun b u e => r'.zh b u ?_, fun b q => r'.nn b (.inr q), r.bz, fun p hp => r'.pn p (List.mem_cons_of_mem _ hp), by rw [List.length_set]; exact r'.ln, fun j => ?_, fun j k b jk k1 k2 e1 e2 => ?_, fun p hp => ⟨(r.sx p hp).1, (r'.sx p hp).2⟩, fun p hp => ⟨(r.tb p hp).1, (r.tb p hp).2.1, (r'.tb p hp).2.2⟩⟩
    · have z : b ≠ a := fun z => by subst z; rw [h3] at e; cases e
      rw [lend_ne z]; exact e
    · rw [Env.at_set hl]
      split
      · rename_i e; subst e
        exact ⟨a, hs', ow, hN.1, h3, h4⟩
      · rename_i e
        have q := r'.at_ j
        cases s : ρ'.at j with
        | un => trivial
        | dat d => rw [s] at q; exact q
        | own d' =>
          obtain ⟨b, q1, _, q2, q3, q4, q5⟩ := oth j d' e s
          exact ⟨b, q1, q2, q3, q4, q5⟩
        | exv _ _ _ => rw [s] at q; exact q
        | clo _ _ => rw [s] at q; exact q
        | brw d' =>
          rw [s] at q
          obtain ⟨b, q1, q2, q3⟩ := q
          have q3 : W.B j b := q3.elim (fun y => absurd y.1 e) id
          have z : b ≠ a := fun z => hB j (z ▸ q3)
          exact ⟨b, q1, q2.move (fun u e => by rw [lend_ne z] at e; exact e) (Ge.refl _), q3⟩
    · rw [Env.at_set hl] at k1 k2
      by_cases zj : j = i
      · by_cases zk : k = i
        · exact jk (zj.trans zk.symm)
        · rw [if_neg zk] at k2
          obtain ⟨d', hd⟩ := own_of k2
          obtain ⟨b', q1, q2, _⟩ := oth k d' zk hd
          subst zj
          rw [hs'] at e1; cases e1
          rw [q1] at e2; cases e2
          exact q2 rfl
      · rw [if_neg zj] at k1
        obtain ⟨d', hd⟩ := own_of k1
        obtain ⟨b', q1, q2, _⟩ := oth j d' zj hd
        by_cases zk : k = i
        · subst zk
          rw [hs'] at e2; cases e2
          rw [q1] at e1; cases e1
          exact q2 rfl
        · rw [if_neg zk] at k2
          exact r'.ne j k b jk k1 k2 e1 e2
  refine ⟨rel, fun v x vk => ?_⟩
  cases x with
  | dat d' => exact vk
  | slot n =>
    obtain ⟨v1, v2⟩ := vk
    refine ⟨v1, ?_⟩
    by_cases z : n = i
    · subst z; rw [Env.at_set hl, if_pos rfl]; exact .inl ⟨d, rfl⟩
    · rw [Env.at_set_ne z]; exact v2
  | own d' =>
    obtain ⟨b, rfl, v1, v2, v3, v4, v5⟩ := vk
    have z : b ≠ a := fun z => v4 (.inl z)
    rw [lend_ne z] at v3
    refine ⟨b, rfl, v1, v2, v3, fun y => v4 (.inr y), fun n hn en => ?_⟩
    by_cases zn : n = i
    · subst zn; rw [hs'] at en; cases en; exact z rfl
    · rw [Env.at_set_ne zn] at hn
      exact v5 n hn en
end
end DL
namespace DL
open PySem L2

/-! ## list comprehensions -/
def lcL (vs : List Nat) (ft : D → Env → Option Env) (tt : Env → R Bool) (fe : Env → R XV) : List D → List D → Env → R (List D)
  | [], acc, ρ => .ok acc ρ
  | d :: ds, acc, ρ => match ft d ρ with
    | none => .stuck
    | some ρ1 => match tt ρ1 with
      | .ok true ρ2 => match valS fe ρ2 with
        | .ok y ρ3 => if acc.length < LIM then lcL vs ft tt fe ds (acc ++ [y]) (forget vs ρ3) else .stuck
        | _ => .stuck
      | .ok false ρ2 => lcL vs ft tt fe ds acc (forget vs ρ2)
      | _ => .stuck
def clear (vs : List Nat) (ρ : Env) : Bool := vs.all fun j => match ρ.at j with
  | .un => true
  | .dat _ => true
  | _ => false
def restore : List Nat → Env → Env → Env
  | [], _, ρ => ρ
  | j :: vs, ρ0, ρ => (restore vs ρ0 ρ).set j (ρ0.at j)
def lcR (vs : List Nat) (ft : D → Env → Option Env) (tt : Env → R Bool) (fe : Env → R XV) (items : List D) (ρ : Env) : R XV :=
  if clear vs ρ = true then match lcL vs ft tt fe items [] (forget vs ρ) with
    | .ok out ρ2 => .ok (.own (.lst out)) (restore vs ρ ρ2)
    | _ => .stuck
  else .stuck
def lcS (vs : List Nat) (fi : Env → R (List D)) (ft : D → Env → Option Env) (tt : Env → R Bool) (fe : Env → R XV) : Env → R XV := fun ρ => (fi ρ).bind (lcR vs ft tt fe)

theorem forget_at {j : Nat} : ∀ {l : List Nat} {ρ : Env}, Env.at (forget l ρ) j = if j ∈ l then .un else ρ.at j
  | [], ρ => by simp [forget]
  | i :: l, ρ => by
    rw [forget, forget_at (l := l)]
    by_cases h : j ∈ l
    · simp [h]
    · rw [if_neg h]
      by_cases e : j = i
      · subst e
        rw [if_pos List.mem_cons_self]
        by_cases hl : j < ρ.length
        · rw [Env.at_set hl, if_pos rfl]
        · rw [Env.at_out (by rw [List.length_set]; omega)]
      · rw [if_neg (by simp [e, h]), Env.at_set_ne e]
theorem forget_len : ∀ {l : List Nat} {ρ : Env}, (forget l ρ).length = ρ.length
  | [], _ => rfl
  | i :: l, ρ => by rw [forget, forget_len (l := l), List.length_set]
theorem restore_at {ρ0 ρ : Env} {j : Nat} (hl : ρ0.length = ρ.length) : ∀ {vs : List Nat}, Env.at (restore vs ρ0 ρ) j = if j ∈ vs then ρ0.at j else ρ.at j
  | [] => by simp [restore]
  | i :: vs => by
    rw [restore]
    have hlen : ∀ vs : List Nat, (restore vs ρ0 ρ).length = ρ.length := fun vs => by
      induction vs with
      | nil => rfl
      | cons i vs ih => rw [restore, List.length_set, ih]
    by_cases e : j = i
    · subst e
      rw [if_pos List.mem_cons_self]
      by_cases h : j < ρ.length
      · rw [Env.at_set (by rw [hlen]; exact h), if_pos rfl]
      · rw [Env.at_out (by rw [List.length_set, hlen]; omega), Env.at_out (by omega)]
    · rw [Env.at_set_ne e, restore_at hl (vs := vs)]
      by_cases h : j ∈ vs
      · rw [if_pos h, if_pos (List.mem_cons_of_mem _ h)]
      · rw [if_neg h, if_neg (by simp [e, h])]
theorem restore_len {ρ0 ρ : Env} : ∀ {vs : List Nat}, (restore vs ρ0 ρ).length = ρ.length
  | [] => rfl
  | i :: vs => by rw [restore, List.length_set, restore_len (vs := vs)]
theorem clear_at {vs : List Nat} {ρ : Env} (h : clear vs ρ = true) {j : Nat} (hj : j ∈ vs) : ρ.at j = .un ∨ ∃ d, ρ.at j = .dat d := by
  have := List.all_eq_true.mp h j hj
  cases s : ρ.at j with
  | un => exact .inl rfl
  | dat d => exact .inr ⟨d, rfl⟩
  | own d => rw [s] at this; cases this
  | brw d => rw [s] at this; cases this
  | exv _ _ _ => rw [s] at this; cases this
  | clo _ _ => rw [s] at this; cases this
section
variable {C : Cst} {W : Fm} {σ : St} {ρ ρ' : Env} {H G H' G' : Hp} {vs : List Nat}
/-- the block's own slots forgotten -/
theorem Rel.wiped (r : Rel C W σ ρ H G) (hu : ∀ j ∈ vs, ρ.at j = .un) (hp : ∀ p ∈ W.pin, p.1 ∉ vs) : Rel C W (wipe σ vs) ρ H G := by
  have own : ∀ i, (ρ.at i).isOwn = true → i ∉ vs := fun i h z => by rw [hu i z] at h; cases h
  refine ⟨r.gh, r.zh, r.nn, r.bz, fun p q => by rw [wipe_at (hp p q)]; exact r.pn p q, by rw [wipe_length]; exact r.ln, fun i => ?_, fun i j a ij h1 h2 e1 e2 => ?_, r.sx, r.tb⟩
  · by_cases z : i ∈ vs
    · rw [hu i z]; trivial
    · rw [wipe_at z]; exact r.at_ i
  · rw [wipe_at (own i h1)] at e1
    rw [wipe_at (own j h2)] at e2
    exact r.ne i j a ij h1 h2 e1 e2
/-- and back -/
theorem Rel.unwiped (r : Rel C W σ ρ H G) (g : Ge G G') (c : clear vs ρ = true) (hp : ∀ p ∈ W.pin, p.1 ∉ vs) (r' : Rel C W (wipe σ vs) ρ' H' G') :
    Rel C W σ (restore vs ρ ρ') H' G' ∧ ∀ v d, VOk C W (wipe σ vs) ρ' H' G' v (.own d) → VOk C W σ (restore vs ρ ρ') H' G' v (.own d) := by
  have hl : ρ.length = ρ'.length := by rw [← r.ln, ← r'.ln, wipe_length]
  have own : ∀ i, (Env.at (restore vs ρ ρ') i).isOwn = true → i ∉ vs ∧ (ρ'.at i).isOwn = true := fun i h => by
    rw [restore_at hl] at h
    by_cases z : i ∈ vs
    · rw [if_pos z] at h
      rcases clear_at c z with e | ⟨d, e⟩ <;> (rw [e] at h; cases h)
    · rw [if_neg z] at h; exact ⟨z, h⟩
  refine ⟨⟨r'.gh, r'.zh, r'.nn, r.bz, r.pn, by rw [restore_len, ← hl]; exact r.ln, fun i => ?_, fun i j a ij h1 h2 e1 e2 => ?_, r'.sx, r'.tb⟩, fun v d h => ?_⟩
  · rw [restore_at hl]
    by_cases z : i ∈ vs
    · rw [if_pos z]
      have q := r.at_ i
      rcases clear_at c z with e | ⟨d, e⟩
      · rw [e]; trivial
      · rw [e] at q ⊢
        obtain ⟨v, q1, q2⟩ := q
        exact ⟨v, q1, q2.ge g⟩
    · rw [if_neg z]
      have q := r'.at_ i
      rw [wipe_at z] at q
      exact q
  · obtain ⟨z1, o1⟩ := own i h1
    obtain ⟨z2, o2⟩ := own j h2
    exact r'.ne i j a ij o1 o2 (by rw [wipe_at z1]; exact e1) (by rw [wipe_at z2]; exact e2)
  · obtain ⟨a, rfl, h1, h2, h3, h4, h5⟩ := h
    refine ⟨a, rfl, h1, h2, h3, h4, fun i hi e => ?_⟩
    obtain ⟨z, o⟩ := own i hi
    exact h5 i o (by rw [wipe_at z]; exact e)
end
theorem wipe_wipe {σ : St} : ∀ {vs : List Nat}, wipe (wipe σ vs) vs = wipe σ vs := by
  intro vs
  apply List.ext_getElem?
  intro i
  by_cases h : i ∈ vs
  · have e : ∀ τ : St, τ.length = σ.length → (wipe τ vs)[i]? = if i < σ.length then some none else none := fun τ hτ => by
      cases z : (wipe τ vs)[i]? with
      | none =>
        have := List.getElem?_eq_none_iff.mp z
        rw [wipe_length] at this
        rw [if_neg (by omega)]
      | some o =>
        have hl := (List.getElem?_eq_some_iff.mp z).1
        rw [wipe_length] at hl
        rw [if_pos (by omega)]
        cases o with
        | none => rfl
        | some v => exact absurd h (wipe_some z).2
    rw [e _ (wipe_length _ _), e _ rfl]
  · rw [wipe_out h]
def Jd.blk (J : Jd) : Jd := { J with EW := fun _ _ _ _ => False }
theorem Good.blk {J : Jd} {X : Cx} (G : Good J X) {s : Shared} {H : Hp} {scope : Scope} {env : PySem.Env} {fp : List Addr} : Good J.blk (X.blk s H scope env fp) :=
  ⟨G.hK, G.calm, G.nd, G.hr, takes0, PassesOwn.never⟩
section
variable {J : Jd} {W : Fm} {σ : St} {ρ : Env} {H G : Hp} {Q : VK} {g : TG} {tt : TT} {te : TE} {ts vs : List Nat} {ft : D → Env → Option Env} {ftt : Env → R Bool} {fe : Env → R XV}
theorem lc_core {It : It} {items : List D} (w : WalkOk J.C W G It items) (r : Rel J.C W σ ρ H G) (pk : PinOk W J.P J.ex) (hP : ∀ j ∈ vs, j ∉ J.P) (hts : ∀ j ∈ ts, j ∈ vs) (hg : EvG J.blk g ts ft) (ht : EvT J.blk tt ftt) (he : EvE J.blk te fe)
    (h : Got J W σ G (lcR vs ft ftt fe items ρ) (fun x ρ' H' G' => ∀ v, VOk J.C W σ ρ' H' G' v x → Q v H')) : ∀ D, H D = none →
    ∃ W' : Nat → Nat → Hp → Prop, (∃ m, W' 0 m (upd H D (.lst []))) ∧ ∀ i m H, W' i m H →
      (It.stop i H ∧ Q (.ref D) H) ∨ (It.go i H ∧ ∃ Nx : Hp → Prop, (∀ H', Nx H' → ∃ m', m' < m ∧ W' (i + 1) m' H') ∧ ∀ x H', It.yld i H x H' → g x (wipe σ vs) H' fun σ2 H2 => wipe σ2 vs = wipe σ vs ∧ tt σ2 H2 fun b H3 =>
        if b = true then te σ2 H3 fun y H4 => ∃ acc, H4 D = some (.lst acc) ∧ acc.length < sizeLine ∧ Nx (upd H4 D (.lst (acc ++ [y]))) else Nx H3) := by
  intro D hD
  obtain ⟨Gd, Y, wk, hG, hY⟩ := w
  have hp : ∀ p ∈ W.pin, p.1 ∉ vs := fun p q z => hP p.1 z (pk.1 p q)
  have hzD : W.Z D = none := by
    cases z : W.Z D with
    | none => rfl
    | some u => have := r.zh _ _ z; rw [hD] at this; cases this
  have hnD : ¬ W.N D := fun q => by obtain ⟨u, hu⟩ := (r.nn D q).2; rw [hD] at hu; cases hu
  have hbD := r.noB hzD
  unfold lcR at h
  by_cases c : clear vs ρ = true
  case neg => rw [if_neg c] at h; exact h.elim
  rw [if_pos c] at h
  -- what is left at each turn
  let Rest (G' : Hp) (r : R (List DL.D)) : Prop := match r with
    | .ok out ρ2 => ∀ H2 G2, Ge G' G2 → Rel J.C W σ (restore vs ρ ρ2) H2 G2 → ∀ v, VOk J.C W σ (restore vs ρ ρ2) H2 G2 v (.own (.lst out)) → Q v H2
    | _ => False
  have later : ∀ {G1 G2 : Hp} {r : R (List DL.D)}, Ge G1 G2 → Rest G1 r → Rest G2 r := fun {G1 G2 r} e k => by
    cases r with
    | ok out ρ2 => exact fun H2 G2 e2 => k H2 G2 (e.trans e2)
    | exc _ _ _ _ => exact k
    | stuck => exact k
  have h0 : Rest G (lcL vs ft ftt fe items [] (forget vs ρ)) := by
    cases z : lcL vs ft ftt fe items [] (forget vs ρ) with
    | ok out ρ2 => rw [z] at h; exact h
    | exc _ _ _ _ => rw [z] at h; exact h
    | stuck => rw [z] at h; exact h
  have un : ∀ {ρ : Env}, ∀ j ∈ vs, (forget vs ρ).at j = .un := fun {ρ} j hj => by rw [forget_at, if_pos hj]
  refine lc_it wk (fun i H => ∃ ρi Gi accV accD, Ge G Gi ∧ H D = some (.lst accV) ∧ IsDs J.C Gi accV accD ∧ Rel J.C (W.hold D (.lst accV)) (wipe σ vs) ρi H Gi ∧ (∀ j ∈ vs, ρi.at j = .un) ∧ Rest Gi (lcL vs ft ftt fe (items.drop i) accD ρi)) ?_ ?_ ?_ ?_
  · have r1 : Rel J.C W (wipe σ vs) (forget vs ρ) H G := (r.forget (l := vs)).wiped un hp
    have r2 := (r1.new (o := .lst []) hD).hold (d := .lst []) (r1.newV hD ⟨[], upd_same, .nil⟩) upd_same
    exact ⟨forget vs ρ, G, [], [], Ge.refl _, upd_same, .nil, r2, un, h0⟩
  · rintro i H _ ⟨ρi, Gi, accV, accD, e, hD, ha, ri, _, _⟩
    exact hG (wipe σ vs) ρi H Gi e (ri.release hzD hnD hbD).1
  · rintro i x H H' hi ⟨ρi, Gi, accV, accD, e, hDi, ha, ri, hu, hr⟩ y
    have hd : items.drop i = items[i] :: items.drop (i + 1) := List.drop_eq_getElem_cons hi
    rw [hd, lcL] at hr
    obtain ⟨G2, e2, r2, d2⟩ := hY i items[i] (List.getElem?_eq_getElem hi) _ (wipe σ vs) ρi H Gi x H' ri e y fun a o z => by
      rw [hold_ne (fun q => by subst q; rw [hzD] at z; cases z)]; exact z
    cases z : ft items[i] ρi with
    | none => rw [z] at hr; exact hr.elim
    | some ρ1 =>
      rw [z] at hr
      dsimp only at hr
      refine hg (W.hold D (.lst accV)) (wipe σ vs) ρi H' G2 x _ ρ1 _ pk r2 d2 z fun σ1 w1 r3 => ⟨(w1 vs hts).trans wipe_wipe, ?_⟩
      have hw : wipe σ1 vs = wipe σ vs := (w1 vs hts).trans wipe_wipe
      refine ht (W.hold D (.lst accV)) σ1 ρ1 H' G2 _ pk r3 ?_
      cases zt : ftt ρ1 with
      | stuck => rw [zt] at hr; exact hr.elim
      | exc _ _ _ _ => rw [zt] at hr; exact hr.elim
      | ok b ρ2 =>
        rw [zt] at hr
        intro H3 G3 e3 r4
        cases b with
        | false =>
          rw [if_neg (by decide)]
          dsimp only at hr
          have r5 : Rel J.C (W.hold D (.lst accV)) (wipe σ vs) (forget vs ρ2) H3 G3 := by
            have := (r4.forget (l := vs)).wiped un (fun p q => hp p q)
            rwa [hw] at this
          exact ⟨forget vs ρ2, G3, accV, accD, e.trans (e2.trans e3), r4.zh D _ hold_eq, ha.ge (e2.trans e3), r5, un, later (e2.trans e3) hr⟩
        | true =>
          rw [if_pos rfl]
          dsimp only at hr
          refine he.val (W.hold D (.lst accV)) σ1 ρ2 H3 G3 _ pk r4 ?_
          cases zv : valS fe ρ2 with
          | stuck => rw [zv] at hr; exact hr.elim
          | exc _ _ _ _ => rw [zv] at hr; exact hr.elim
          | ok yd ρ3 =>
            rw [zv] at hr
            dsimp only at hr
            intro H4 G4 e4 r5 yv hy
            by_cases hlen : accD.length < LIM
            · rw [if_pos hlen] at hr
              have hD4 := r5.zh D _ hold_eq
              have r6 : Rel J.C (W.hold D (.lst accV)) (wipe σ vs) (forget vs ρ3) H4 G4 := by
                have := (r5.forget (l := vs)).wiped un (fun p q => hp p q)
                rwa [hw] at this
              have ee := e2.trans (e3.trans e4)
              refine ⟨accV, hD4, by rw [ha.length]; exact lim_lt hlen, forget vs ρ3, G4, accV ++ [yv], accD ++ [yd], e.trans ee, upd_same, (ha.ge ee).append (.cons hy .nil), r6.rehold hbD, un, later ee hr⟩
            · rw [if_neg hlen] at hr; exact hr.elim
  · rintro H ⟨ρi, Gi, accV, accD, e, hDi, ha, ri, hu, hr⟩
    rw [List.drop_length] at hr
    obtain ⟨r1, v1⟩ := ri.release hzD hnD hbD
    obtain ⟨r2, v2⟩ := r.unwiped e c hp r1
    exact hr H Gi (Ge.refl _) r2 _ (v2 _ _ (v1 (.lst accD) ⟨accV, hDi, ha⟩))
end
section
variable {ι : Type}
/-- the contexts of a comprehension's block -/
abbrev blkF (Xs : ι → Cx) (scope : Scope) : ι × (Shared × Hp × Addr × List (Str × Addr) × List Addr) → Cx := fun p => (Xs p.1).blk p.2.1 p.2.2.1 scope (compEnvC scope p.2.2.2.2.1 p.2.2.2.1 (Xs p.1).env) p.2.2.2.2.2
def CTs (J : Jd) (Xs : ι → Cx) (ifs : List Expr) (f : Env → R Bool) : Prop := ∃ t, (∀ i, Good J (Xs i) → PTs (Xs i) ifs t) ∧ EvT J t f
def yesT : Env → R Bool := fun ρ => .ok true ρ
variable {J : Jd} {Xs : ι → Cx} {tg iter elt c : Expr} {ifs : List Expr} {scope : Scope} {own : List (Str × Nat)} {pos : Pos} {ts vs : List Nat} {fi : Env → R (List D)} {ft : D → Env → Option Env} {tt : Env → R Bool} {fe : Env → R XV}
theorem cts_nil : CTs J Xs [] yesT := ⟨_, fun i _ => pts_nil, fun W σ ρ H G Q pk r k => k H G (Ge.refl _) r⟩
theorem cts_one (h : CT J Xs c tt) : CTs J Xs [c] tt := by
  obtain ⟨t, h1, h2⟩ := h
  exact ⟨t, fun i G => pts_one (h1 i G), h2⟩
theorem ev_lc {wi : TI} {g : TG} {t : TT} {te : TE} (hi : EvI J wi fi) (hP : ∀ j ∈ vs, j ∉ J.P) (hts : ∀ j ∈ ts, j ∈ vs) (hg : EvG J.blk g ts ft) (ht : EvT J.blk t tt) (he : EvE J.blk te fe) : EvE J (tLc wi g t te vs) (lcS vs fi ft tt fe) := by
  intro W σ ρ H G Q pk r h
  refine hi W σ ρ H G _ pk r ((Got.bind h).imp fun items ρ1 H1 G1 e1 r1 k It w => ?_)
  exact lc_core w r1 pk hP hts hg ht he k
/-- [elt for tg in iter if ..] -/
theorem ce_lc (hi : CI J Xs tg iter fi) (ok : ∀ i, BlkOk (Xs i).N (Xs i).env.scope scope own) (hg : CG J.blk (blkF Xs scope) tg ts ft) (ht : CTs J.blk (blkF Xs scope) ifs tt) (he : CE J.blk (blkF Xs scope) elt fe)
    (hvs : own.map (·.2) = vs) (hts : ∀ j ∈ ts, j ∈ vs) (hP : ∀ j ∈ vs, j ∉ J.P) (hs : ∀ i x, foldedSetIterable iter (Xs i).env x = pure x := by intro _ _; rfl) : CE J Xs (.ListComp elt [⟨tg, iter, ifs, 0⟩] scope pos) (lcS vs fi ft tt fe) := by
  obtain ⟨wi, i1, i2⟩ := hi
  obtain ⟨g, g1, g2⟩ := hg
  obtain ⟨t, t1, t2⟩ := ht
  obtain ⟨te, e1, e2⟩ := he
  subst hvs
  exact ⟨_, fun i G => pe_lc G.calm G.nd (i1 i G) (ok i) (fun s H C cl fp => g1 (i, s, H, C, cl, fp) G.blk) (fun s H C cl fp => t1 (i, s, H, C, cl, fp) G.blk) (fun s H C cl fp => e1 (i, s, H, C, cl, fp) G.blk) (hs i), ev_lc i2 hP hts g2 t2 e2⟩
/-- y = [..] on one line, y a local -/
theorem cs_setLc {j : Nat} {y : Str} {py spos : Pos} (hi : CI J Xs tg iter fi) (ok : ∀ i, BlkOk (Xs i).N (Xs i).env.scope scope own) (hg : CG J.blk (blkF Xs scope) tg ts ft) (ht : CTs J.blk (blkF Xs scope) ifs tt) (he : CE J.blk (blkF Xs scope) elt fe)
    (hvs : own.map (·.2) = vs) (hts : ∀ j ∈ ts, j ∈ vs) (hP : ∀ j ∈ vs, j ∉ J.P) (hp : j ∉ J.P) (hy : ∀ i, (Xs i).N[j]? = some y := by intro _; rfl) (hyl : ∀ i, (Xs i).env.scope.names.lookup y = some .local := by intro _; rfl)
    (hsw : ∀ i, swapsWith (.ListComp elt [⟨tg, iter, ifs, 0⟩] scope pos) (some (.Name y py)) spos.line (Xs i).env = pure true) (hs : ∀ i x, foldedSetIterable iter (Xs i).env x = pure x := by intro _ _; rfl) :
    CS J Xs (.Assign [.Name y py] (.ListComp elt [⟨tg, iter, ifs, 0⟩] scope pos) spos) (asgS j (lcS vs fi ft tt fe)) := by
  obtain ⟨wi, i1, i2⟩ := hi
  obtain ⟨g, g1, g2⟩ := hg
  obtain ⟨t, t1, t2⟩ := ht
  obtain ⟨te, e1, e2⟩ := he
  subst hvs
  exact ⟨_, fun i G => ps_setLc G.calm G.nd (hy i) (hyl i) (hsw i) (i1 i G) (ok i) (fun s H C cl fp => g1 (i, s, H, C, cl, fp) G.blk) (fun s H C cl fp => t1 (i, s, H, C, cl, fp) G.blk) (fun s H C cl fp => e1 (i, s, H, C, cl, fp) G.blk) (hs i), ev_asg (ev_lc i2 hP hts g2 t2 e2) hp⟩
end
end DL
namespace DL
open PySem L2

/-! ## loops over a slot's own list -/
def giveBack {α : Type} (i : Nat) (d : D) : R α → R α
  | .ok a ρ => .ok a (ρ.set i (.own d))
  | .exc c ns vs ρ => .exc c ns vs (ρ.set i (.own d))
  | .stuck => .stuck
def overS {α : Type} (i : Nat) (body : List D → Env → R α) : Env → R α := fun ρ => match ρ.at i with
  | .own (.lst l) => giveBack i (.lst l) (body l (ρ.set i (.brw (.lst l))))
  | .brw (.lst l) => body l ρ
  | .dat (.lst l) => body l ρ
  | .dat (.rol l) => body l ρ
  | .dat (.tup l) => body l ρ
  | _ => .stuck
def Jd.pin (J : Jd) (i : Nat) : Jd := { J with P := i :: J.P }
theorem Good.pin {J : Jd} {X : Cx} (G : Good J X) (i : Nat) : Good (J.pin i) X := ⟨G.hK, G.calm, G.nd, G.hr, G.tk, G.po⟩
theorem PinOk.pin {W : Fm} {J : Jd} (pk : PinOk W J.P J.ex) (i : Nat) : PinOk W (J.pin i).P (J.pin i).ex := ⟨fun p q => List.mem_cons_of_mem _ (pk.1 p q), pk.2⟩
section
variable {J : Jd} {W : Fm} {σ : St} {ρ : Env} {H G : Hp} {i : Nat}
/-- the reading of a walk over the i-th name, list or tuple -/
def iSlot (K : PySem.W.Frag) (i : Nat) : TI := fun σ H R => iList K (tVar i) σ H R ∨ iTup K (tVar i) σ H R
theorem lend_len {a : Addr} {o : HO} {C : Cst} {σ' : St} {ρ2 : Env} {H' G' : Hp} (r' : Rel C (W.lend i a o) σ' ρ2 H' G') : i < ρ2.length := by
  rw [← r'.ln]
  exact (List.getElem?_eq_some_iff.mp (r'.pn (i, a) List.mem_cons_self)).1
theorem GotS.lend {d : D} {a : Addr} {o : HO} {r0 : R Out} {E : Ends} (r : Rel J.C W σ ρ H G) (s : ρ.at i = .own d) (q1 : σ[i]? = some (some (.ref a))) (q6 : H a = some o) (h : GotS J W G (giveBack i d r0) E) : GotS (J.pin i) (W.lend i a o) G r0 E := by
  cases r0 with
  | stuck => exact h
  | exc c ns vs ρ2 => exact fun dd σ' H' G' g r' x => h dd σ' H' G' g (r.unlend s q1 q6 g r' (lend_len r')).1 x
  | ok b ρ2 =>
    cases b with
    | nx => exact fun σ' H' G' g r' => h σ' H' G' g (r.unlend s q1 q6 g r' (lend_len r')).1
    | brk => exact fun σ' H' G' g r' => h σ' H' G' g (r.unlend s q1 q6 g r' (lend_len r')).1
    | cont => exact fun σ' H' G' g r' => h σ' H' G' g (r.unlend s q1 q6 g r' (lend_len r')).1
    | ret x =>
      intro v σ' H' G' g r' vk
      obtain ⟨u1, u2⟩ := r.unlend s q1 q6 g r' (lend_len r')
      exact h v σ' H' G' g u1 (u2 v x vk)
theorem Got.lend {d : D} {a : Addr} {o : HO} {r0 : R XV} {Q : VK} (r : Rel J.C W σ ρ H G) (s : ρ.at i = .own d) (q1 : σ[i]? = some (some (.ref a))) (q6 : H a = some o)
    (h : Got J W σ G (giveBack i d r0) (fun x ρ' H' G' => ∀ v, VOk J.C W σ ρ' H' G' v x → Q v H')) : Got (J.pin i) (W.lend i a o) σ G r0 (fun x ρ' H' G' => ∀ v, VOk J.C (W.lend i a o) σ ρ' H' G' v x → Q v H') := by
  cases r0 with
  | stuck => exact h
  | exc c ns vs ρ2 => exact fun dd H' G' g r' x => h dd H' G' g (r.unlend s q1 q6 g r' (lend_len r')).1 x
  | ok b ρ2 =>
    intro H' G' g r' v vk
    obtain ⟨u1, u2⟩ := r.unlend s q1 q6 g r' (lend_len r')
    exact h H' G' g u1 v (u2 v b vk)
theorem lend_pk {a : Addr} {o : HO} (pk : PinOk W J.P J.ex) : PinOk (W.lend i a o) (J.pin i).P (J.pin i).ex := ⟨fun p q => by
  rcases List.mem_cons.mp q with rfl | q
  · exact List.mem_cons_self
  · exact List.mem_cons_of_mem _ (pk.1 p q), pk.2⟩
theorem ev_forB {g : TG} {tb : TS} {ts fg : List Nat} {ft : D → Env → Option Env} {fb : Env → R Out} (hg : EvG (J.pin i) g ts ft) (hb : EvS (J.pin i) tb fb) : EvS J (tFor (iSlot J.C.K i) g tb) (overS i (forL fg ft fb)) := by
  intro W σ ρ H G E pk r h
  unfold overS at h
  have q := r.at_ i
  cases s : ρ.at i with
  | un => rw [s] at h; exact h.elim
  | dat d =>
    rw [s] at q h
    obtain ⟨v, q1, q2⟩ := q
    cases d <;> first | (exact h.elim) | skip
    · cases q2 with
      | tup h1 h2 => exact .inr ⟨_, q1, _, rfl, ⟨_, r.gh.sqT h1⟩, for_core (J := J.pin i) (walk_tupD h1 h2) r (pk.pin i) hg hb h⟩
    · cases q2 with
      | lst h1 h2 => exact .inl ⟨_, q1, _, rfl, ⟨_, SqL.of (r.gh _ _ h1)⟩, for_core (J := J.pin i) (walk_lstD (SqL.of h1) h2) r (pk.pin i) hg hb h⟩
    · cases q2 with
      | rol h1 h2 => exact .inl ⟨_, q1, _, rfl, ⟨_, r.gh.sqL h1⟩, for_core (J := J.pin i) (walk_lstD h1 h2) r (pk.pin i) hg hb h⟩
  | exv _ _ _ => rw [s] at h; exact h.elim
  | clo _ _ => rw [s] at h; exact h.elim
  | brw d =>
    rw [s] at q h
    obtain ⟨a, q1, q2, q3⟩ := q
    cases d <;> first | (exact h.elim) | skip
    obtain ⟨xs, q4, q5⟩ := q2
    exact .inl ⟨_, q1, a, rfl, ⟨xs, SqL.of (r.zh _ _ q4)⟩, for_core (J := J.pin i) (WalkOk.of walk_list q5 fun σ ρ H G' g r => SqL.of (r.zh _ _ q4)) r (pk.pin i) hg hb h⟩
  | own d =>
    rw [s] at h
    obtain ⟨a, q1, q2, q3, q4, q5⟩ := r.own s
    cases d <;> first | (exact h.elim) | skip
    rename_i l
    obtain ⟨xs, q6, q7⟩ := q2
    exact .inl ⟨_, q1, a, rfl, ⟨xs, SqL.of q6⟩, for_core (J := J.pin i) (W := W.lend i a (.lst xs)) (WalkOk.of walk_list q7 fun σ ρ H G' g r => SqL.of (r.zh _ _ upd_same)) (r.lend s q1 q6) (lend_pk pk) hg hb (GotS.lend r s q1 q6 h)⟩
theorem ev_lcB {g : TG} {t : TT} {te : TE} {ts vs : List Nat} {ft : D → Env → Option Env} {tt : Env → R Bool} {fe : Env → R XV} (hP : ∀ j ∈ vs, j ∉ (J.pin i).P) (hts : ∀ j ∈ ts, j ∈ vs) (hg : EvG (J.pin i).blk g ts ft) (ht : EvT (J.pin i).blk t tt) (he : EvE (J.pin i).blk te fe) :
    EvE J (tLc (iSlot J.C.K i) g t te vs) (overS i (lcR vs ft tt fe)) := by
  intro W σ ρ H G Q pk r h
  unfold overS at h
  have q := r.at_ i
  cases s : ρ.at i with
  | un => rw [s] at h; exact h.elim
  | dat d =>
    rw [s] at q h
    obtain ⟨v, q1, q2⟩ := q
    cases d <;> first | (exact h.elim) | skip
    · cases q2 with
      | tup h1 h2 => exact .inr ⟨_, q1, _, rfl, ⟨_, r.gh.sqT h1⟩, lc_core (J := J.pin i) (walk_tupD h1 h2) r (pk.pin i) hP hts hg ht he h⟩
    · cases q2 with
      | lst h1 h2 => exact .inl ⟨_, q1, _, rfl, ⟨_, SqL.of (r.gh _ _ h1)⟩, lc_core (J := J.pin i) (walk_lstD (SqL.of h1) h2) r (pk.pin i) hP hts hg ht he h⟩
    · cases q2 with
      | rol h1 h2 => exact .inl ⟨_, q1, _, rfl, ⟨_, r.gh.sqL h1⟩, lc_core (J := J.pin i) (walk_lstD h1 h2) r (pk.pin i) hP hts hg ht he h⟩
  | exv _ _ _ => rw [s] at h; exact h.elim
  | clo _ _ => rw [s] at h; exact h.elim
  | brw d =>
    rw [s] at q h
    obtain ⟨a, q1, q2, q3⟩ := q
    cases d <;> first | (exact h.elim) | skip
    obtain ⟨xs, q4, q5⟩ := q2
    exact .inl ⟨_, q1, a, rfl, ⟨xs, SqL.of (r.zh _ _ q4)⟩, lc_core (J := J.pin i) (WalkOk.of walk_list q5 fun σ ρ H G' g r => SqL.of (r.zh _ _ q4)) r (pk.pin i) hP hts hg ht he h⟩
  | own d =>
    rw [s] at h
    obtain ⟨a, q1, q2, q3, q4, q5⟩ := r.own s
    cases d <;> first | (exact h.elim) | skip
    rename_i l
    obtain ⟨xs, q6, q7⟩ := q2
    exact .inl ⟨_, q1, a, rfl, ⟨xs, SqL.of q6⟩, lc_core (J := J.pin i) (W := W.lend i a (.lst xs)) (WalkOk.of walk_list q7 fun σ ρ H G' g r => SqL.of (r.zh _ _ upd_same)) (r.lend s q1 q6) (lend_pk pk) hP hts hg ht he (Got.lend r s q1 q6 h)⟩
end
section
variable {ι : Type} {J : Jd} {Xs : ι → Cx} {tg elt : Expr} {body : List Stmt} {ifs : List Expr} {scope : Scope} {own : List (Str × Nat)} {p pos : Pos} {ts vs : List Nat} {x : Str} {ft : D → Env → Option Env} {tt : Env → R Bool} {fe : Env → R XV} {fb : Env → R Out}
theorem pi_slot {X : Cx} {J : Jd} (i : Nat) (G : Good J X) (hN : X.N[i]? = some x) (hv : Vis X.env.scope x) (hd : (x == ("__debug__" : Str)) = false) (hcd : (x == ("__classdict__" : Str)) = false) : PI X tg (.Name x p) (iSlot J.C.K i) := by
  have h := pe_var (pos := p) hN hv hd hcd
  have := PI.or (pi_list (tg := tg) h) (pi_tup (tg := tg) h)
  rw [G.hK] at this
  exact this
variable (i : Nat) (hN : ∀ j, (Xs j).N[i]? = some x := by intro _; rfl) (hv : ∀ j, Vis (Xs j).env.scope x := by first | exact fun _ => Or.inl rfl | exact fun _ => Or.inr (Or.inl rfl) | exact fun _ => Or.inr (Or.inr rfl))
  (hd : (x == ("__debug__" : Str)) = false := by decide) (hcd : (x == ("__classdict__" : Str)) = false := by decide)
include hN hv hd hcd
theorem cs_forB (fg : List Nat) (hg : CG (J.pin i) Xs tg ts ft) (hb : CSs (J.pin i) Xs body fb) (hs : ∀ j y, foldedSetIterable (.Name x p) (Xs j).env y = pure y := by intro _ _; rfl) : CS J Xs (.For tg (.Name x p) body [] pos) (overS i (forL fg ft fb)) := by
  obtain ⟨g, g1, g2⟩ := hg
  obtain ⟨tb, b1, b2⟩ := hb
  exact ⟨_, fun j G => ps_for G.po G.calm (pi_slot i G (hN j) (hv j) hd hcd) (g1 j (G.pin i)) (b1 j (G.pin i)) (hs j), ev_forB g2 b2⟩
theorem ce_lcB (ok : ∀ j, BlkOk (Xs j).N (Xs j).env.scope scope own) (hg : CG (J.pin i).blk (blkF Xs scope) tg ts ft) (ht : CTs (J.pin i).blk (blkF Xs scope) ifs tt) (he : CE (J.pin i).blk (blkF Xs scope) elt fe)
    (hvs : own.map (·.2) = vs) (hts : ∀ j ∈ ts, j ∈ vs) (hP : ∀ j ∈ vs, j ∉ (J.pin i).P) (hs : ∀ j y, foldedSetIterable (.Name x p) (Xs j).env y = pure y := by intro _ _; rfl) : CE J Xs (.ListComp elt [⟨tg, (.Name x p), ifs, 0⟩] scope pos) (overS i (lcR vs ft tt fe)) := by
  obtain ⟨g, g1, g2⟩ := hg
  obtain ⟨t, t1, t2⟩ := ht
  obtain ⟨te, e1, e2⟩ := he
  subst hvs
  exact ⟨_, fun j G => pe_lc G.calm G.nd (pi_slot i G (hN j) (hv j) hd hcd) (ok j) (fun s H C cl fp => g1 (j, s, H, C, cl, fp) (G.pin i).blk) (fun s H C cl fp => t1 (j, s, H, C, cl, fp) (G.pin i).blk) (fun s H C cl fp => e1 (j, s, H, C, cl, fp) (G.pin i).blk) (hs j), ev_lcB hP hts g2 t2 e2⟩
theorem cs_setLcB {n : Nat} {y : Str} {py spos : Pos} (ok : ∀ j, BlkOk (Xs j).N (Xs j).env.scope scope own) (hg : CG (J.pin i).blk (blkF Xs scope) tg ts ft) (ht : CTs (J.pin i).blk (blkF Xs scope) ifs tt) (he : CE (J.pin i).blk (blkF Xs scope) elt fe)
    (hvs : own.map (·.2) = vs) (hts : ∀ j ∈ ts, j ∈ vs) (hP : ∀ j ∈ vs, j ∉ (J.pin i).P) (hp : n ∉ J.P) (hy : ∀ j, (Xs j).N[n]? = some y := by intro _; rfl) (hyl : ∀ j, (Xs j).env.scope.names.lookup y = some .local := by intro _; rfl)
    (hsw : ∀ j, swapsWith (.ListComp elt [⟨tg, (.Name x p), ifs, 0⟩] scope pos) (some (.Name y py)) spos.line (Xs j).env = pure true) (hs : ∀ j y, foldedSetIterable (.Name x p) (Xs j).env y = pure y := by intro _ _; rfl) :
    CS J Xs (.Assign [.Name y py] (.ListComp elt [⟨tg, (.Name x p), ifs, 0⟩] scope pos) spos) (asgS n (overS i (lcR vs ft tt fe))) := by
  obtain ⟨g, g1, g2⟩ := hg
  obtain ⟨t, t1, t2⟩ := ht
  obtain ⟨te, e1, e2⟩ := he
  subst hvs
  exact ⟨_, fun j G => ps_setLc G.calm G.nd (hy j) (hyl j) (hsw j) (pi_slot i G (hN j) (hv j) hd hcd) (ok j) (fun s H C cl fp => g1 (j, s, H, C, cl, fp) (G.pin i).blk) (fun s H C cl fp => t1 (j, s, H, C, cl, fp) (G.pin i).blk) (fun s H C cl fp => e1 (j, s, H, C, cl, fp) (G.pin i).blk) (hs j), ev_asg (ev_lcB hP hts g2 t2 e2) hp⟩
end

/-! ## while -/
def whileL (fg : List Nat) (tt : Env → R Bool) (fb : Env → R Out) : Nat → Env → R Out
  | 0, _ => .stuck
  | n + 1, ρ => match tt (forget fg ρ) with
    | .ok true ρ1 => match fb ρ1 with
      | .ok .nx ρ2 => whileL fg tt fb n ρ2
      | .ok .cont ρ2 => whileL fg tt fb n ρ2
      | .ok .brk ρ2 => .ok .nx ρ2
      | r => r
    | .ok false ρ1 => .ok .nx ρ1
    | .exc c ns vs ρ1 => .exc c ns vs ρ1
    | .stuck => .stuck
def whileS (fg : List Nat) (fuel : Env → Nat) (tt : Env → R Bool) (fb : Env → R Out) : Env → R Out := fun ρ => whileL fg tt fb (fuel ρ) ρ
theorem ev_while {J : Jd} {t : TT} {tb : TS} {fg : List Nat} {fuel : Env → Nat} {tt : Env → R Bool} {fb : Env → R Out} (ht : EvT J t tt) (hb : EvS J tb fb) : EvS J (tWhile t tb) (whileS fg fuel tt fb) := by
  intro W σ ρ H G E pk r h
  refine ⟨fun m σ H => ∃ ρ G', Ge G G' ∧ Rel J.C W σ ρ H G' ∧ GotS J W G' (whileL fg tt fb m ρ) E, ⟨fuel ρ, ρ, G, Ge.refl _, r, h⟩, ?_⟩
  rintro m σ H ⟨ρ, G1, e1, r1, h1⟩
  cases m with
  | zero => exact h1.elim
  | succ m =>
    rw [whileL] at h1
    refine ht W σ (forget fg ρ) H G1 _ pk r1.forget ?_
    cases z : tt (forget fg ρ) with
    | stuck => rw [z] at h1; exact h1
    | exc c ns vs ρ1 => rw [z] at h1; exact fun d H' G' e r x => h1 d σ H' G' e r x
    | ok b ρ1 =>
      rw [z] at h1
      intro H2 G2 e2 r2
      cases b with
      | false => rw [if_neg (by decide)]; exact h1 σ H2 G2 e2 r2
      | true =>
        rw [if_pos rfl]
        dsimp only at h1
        refine ⟨fun σ H => ∃ ρ G', Ge G G' ∧ Rel J.C W σ ρ H G' ∧ GotS J W G' (whileL fg tt fb m ρ) E, fun σ' H' k => ⟨m, Nat.lt_succ_self m, k⟩, ?_⟩
        refine hb W σ ρ1 H2 G2 _ pk r2 ?_
        have h1 : GotS J W G2 (match fb ρ1 with
          | .ok .nx ρ2 => whileL fg tt fb m ρ2
          | .ok .cont ρ2 => whileL fg tt fb m ρ2
          | .ok .brk ρ2 => .ok .nx ρ2
          | r => r) E := GotS.later h1 e2
        cases zb : fb ρ1 with
        | stuck => rw [zb] at h1; exact h1
        | exc c ns vs ρ2 => rw [zb] at h1; exact h1
        | ok o ρ2 =>
          rw [zb] at h1
          cases o with
          | nx => exact fun σ H G' e r => ⟨ρ2, G', e1.trans (e2.trans e), r, h1.later e⟩
          | cont => exact fun σ H G' e r => ⟨ρ2, G', e1.trans (e2.trans e), r, h1.later e⟩
          | brk => exact h1
          | ret x => exact h1
theorem cs_while {ι : Type} {J : Jd} {Xs : ι → Cx} {c : Expr} {body : List Stmt} {pos : Pos} {tt : Env → R Bool} {fb : Env → R Out} (fg : List Nat) (fuel : Env → Nat) (hc : CT J Xs c tt) (hb : CSs J Xs body fb) : CS J Xs (.While c body [] pos) (whileS fg fuel tt fb) := by
  obtain ⟨t, t1, t2⟩ := hc
  obtain ⟨tb, b1, b2⟩ := hb
  exact ⟨_, fun i G => ps_while G.po (t1 i G) (b1 i G), ev_while t2 b2⟩
end DL
namespace DL
open PySem L2

/-! ## displays -/
def datsOf : List XV → Option (List D)
  | [] => some []
  | .dat d :: xs => (datsOf xs).map (d :: ·)
  | _ :: _ => none
theorem dats_of {C : Cst} {σ : St} {G : Hp} : ∀ {vs : List V} {xs : List XV} {ds : List D}, Waits C σ G vs xs → datsOf xs = some ds → IsDs C G vs ds
  | [], [], _, _, e => by cases e; exact .nil
  | v :: vs, x :: xs, ds, h, e => by
    cases x <;> first | (cases e; done) | skip
    simp only [datsOf] at e
    cases z : datsOf xs with
    | none => rw [z] at e; cases e
    | some l => rw [z] at e; cases e; exact .cons h.1 (dats_of h.2 z)
  | [], _ :: _, _, h, _ => h.elim
  | _ :: _, [], _, h, _ => h.elim
def tupO (xs : List XV) (ρ : Env) : R XV := match datsOf xs with
  | some ds => if ds.length ≤ LIM then .ok (.dat (.tup ds)) ρ else .stuck
  | none => .stuck
def lstO (xs : List XV) (ρ : Env) : R XV := match datsOf xs with
  | some ds => if ds.length ≤ LIM then .ok (.own (.lst ds)) ρ else .stuck
  | none => .stuck
def tupS (fs : Env → R (List XV)) : Env → R XV := fun ρ => (fs ρ).bind tupO
def lstS (fs : Env → R (List XV)) : Env → R XV := fun ρ => (fs ρ).bind lstO
section
variable {ι : Type} {J : Jd} {Xs : ι → Cx} {e a b c : Expr} {es : List Expr} {f g h : Env → R XV} {fs : Env → R (List XV)} {p pos apos : Pos}
theorem ce_tup {k : Nat} (ha : CA_ J Xs es fs) : CE J Xs (.Tuple es k pos) (tupS fs) := by
  obtain ⟨t, h1, h2⟩ := ha
  refine ⟨_, fun i G => pe_tup (h1 i G), fun W σ ρ H G Q pk r h => ?_⟩
  refine h2 W σ ρ H G _ pk r ((Got.bind h).imp fun xs ρ1 H1 G1 e1 r1 k vs wk => ?_)
  unfold tupO at k
  cases z : datsOf xs with
  | none => rw [z] at k; exact k.elim
  | some ds =>
    rw [z] at k
    dsimp only at k
    have hd := dats_of wk z
    by_cases hl : ds.length ≤ LIM
    · rw [if_pos hl] at k
      exact ⟨by rw [hd.length]; exact lim_le hl, fun p hp => r1.backTup hd (fun v' H' G' a b c => k H' G' a b v' c) hp⟩
    · rw [if_neg hl] at k; exact k.elim
theorem ce_lst (ha : CA_ J Xs es fs) : CE J Xs (.List es pos) (lstS fs) := by
  obtain ⟨t, h1, h2⟩ := ha
  refine ⟨_, fun i G => pe_lst (h1 i G), fun W σ ρ H G Q pk r h => ?_⟩
  refine h2 W σ ρ H G _ pk r ((Got.bind h).imp fun xs ρ1 H1 G1 e1 r1 k vs wk => ?_)
  unfold lstO at k
  cases z : datsOf xs with
  | none => rw [z] at k; exact k.elim
  | some ds =>
    rw [z] at k
    dsimp only at k
    have hd := dats_of wk z
    by_cases hl : ds.length ≤ LIM
    · rw [if_pos hl] at k
      exact ⟨by rw [hd.length]; exact lim_le hl, fun p hp => r1.backLst hd (fun v' H' G' a b c => k H' G' a b v' c) hp⟩
    · rw [if_neg hl] at k; exact k.elim
/-- *xs -/
def starO (fs : Env → R (List XV)) (d : D) (ρ : Env) : R (List XV) := match seqD d with
  | some l => (fs ρ).bind fun xs ρ => .ok (l.map XV.dat ++ xs) ρ
  | none => .stuck
def starS (f : Env → R XV) (fs : Env → R (List XV)) : Env → R (List XV) := fun ρ => (valS f ρ).bind (starO fs)
theorem waits_dats {C : Cst} {σ : St} {G : Hp} : ∀ {vs : List V} {ds : List D} {ws : List V} {xs : List XV}, IsDs C G vs ds → Waits C σ G ws xs → Waits C σ G (vs ++ ws) (ds.map XV.dat ++ xs)
  | _, _, _, _, .nil, k => k
  | _, _, _, _, .cons h hs, k => ⟨h, waits_dats hs k⟩
theorem IsD.seq {C : Cst} {G : Hp} {v : V} {d : D} {l : List D} (h : IsD C G v d) (e : seqD d = some l) : ∃ a xs, v = .ref a ∧ (SqT C.K G a xs ∨ SqL C.K G a xs) ∧ IsDs C G xs l := by
  cases d <;> cases e
  · cases h with
    | tup h1 h2 => exact ⟨_, _, rfl, .inl h1, h2⟩
  · cases h with
    | lst h1 h2 => exact ⟨_, _, rfl, .inr (SqL.of h1), h2⟩
  · cases h with
    | rol h1 h2 => exact ⟨_, _, rfl, .inr h1, h2⟩
theorem ca_star (he : CE J Xs e f) (hr : CA_ J Xs es fs) (hs : ∀ i, starEach (.Starred e p :: es) (Xs i).env = (true, eval e (Xs i).env) :: starEach es (Xs i).env := by intro _; rfl) : CA_ J Xs (.Starred e p :: es) (starS f fs) := by
  obtain ⟨t, h1, h2⟩ := he
  obtain ⟨u, k1, k2⟩ := hr
  refine ⟨StX.tStar J.C.K t u, fun i G => ?_, fun W σ ρ H G Q pk r h => ?_⟩
  · have := StX.pa_star (p := p) (h1 i G) (k1 i G) (hs i)
    rw [G.hK] at this
    exact this
  · refine h2.val W σ ρ H G _ pk r ((Got.bind h).imp fun d ρ1 H1 G1 e1 r1 k v vk => ?_)
    unfold starO at k
    cases z : seqD d with
    | none => rw [z] at k; exact k.elim
    | some l =>
      rw [z] at k
      dsimp only at k
      obtain ⟨a, xs, rfl, q1, q2⟩ := IsD.seq vk z
      have q1' : SqT J.C.K H1 a xs ∨ SqL J.C.K H1 a xs := q1.imp r1.gh.sqT r1.gh.sqL
      refine ⟨a, xs, rfl, q1', ?_⟩
      refine k2 W σ ρ1 H1 G1 _ pk r1 ((Got.bind k).imp fun ys ρ2 H2 G2 e2 r2 k ws wk => ?_)
      exact k H2 G2 (Ge.refl _) r2 _ (waits_dats (q2.ge e2) wk)
/-! ## slices -/
def CP (J : Jd) (Xs : ι → Cx) (eo : Option Expr) (f : Env → R (Option Int)) : Prop := ∃ to, (∀ i, Good J (Xs i) → PO (Xs i) eo to) ∧
  ∀ W σ ρ H G Q, PinOk W J.P J.ex → Rel J.C W σ ρ H G → Got J W σ G (f ρ) (fun o _ H' _ => Q o H') → to σ H Q
def noP : Env → R (Option Int) := fun ρ => .ok none ρ
def someP (f : Env → R XV) : Env → R (Option Int) := fun ρ => (f ρ).bind fun x ρ => match x with
  | .dat (.int i) => .ok (some i) ρ
  | _ => .stuck
theorem cp_none : CP J Xs none noP := ⟨_, fun i _ => po_none, fun W σ ρ H G Q pk r k => k H G (Ge.refl _) r⟩
theorem cp_some (h : CE J Xs e f) : CP J Xs (some e) (someP f) := by
  obtain ⟨t, h1, h2⟩ := h
  refine ⟨_, fun i G => po_some (h1 i G), fun W σ ρ H G Q pk r k => ?_⟩
  refine h2 W σ ρ H G _ pk r ((Got.bind k).imp fun x ρ1 H1 G1 e1 r1 k v vk => ?_)
  cases x with
  | own d => exact k.elim
  | slot i => exact k.elim
  | dat d =>
    cases d <;> first | (exact k.elim) | skip
    cases vk
    exact ⟨_, rfl, k H1 G1 (Ge.refl _) r1⟩
def cutD (xs : List D) (lo hi : Option Int) : List D := (xs.drop (HT.sIx xs.length 0 lo)).take (HT.sIx xs.length xs.length hi - HT.sIx xs.length 0 lo)
theorem cut_of {C : Cst} {G : Hp} {xs : List V} {ds : List D} (h : IsDs C G xs ds) (lo hi : Option Int) : IsDs C G (cutV xs lo hi) (cutD ds lo hi) := by
  unfold cutV cutD
  rw [h.length]
  exact (h.drop _).take _
def slD (d : D) (lo hi : Option Int) : Option XV := match d with
  | .lst l => some (.own (.lst (cutD l lo hi)))
  | .rol l => some (.own (.lst (cutD l lo hi)))
  | .tup l => some (.dat (.tup (cutD l lo hi)))
  | .str z => if z.length ≤ LIM then some (.dat (.str (cutS z lo hi))) else none
  | _ => none
def slO (fl fh : Env → R (Option Int)) (x : XV) (ρ : Env) : R XV := (fl ρ).bind fun lo ρ => (fh ρ).bind fun hi ρ => match cont ρ x with
  | some d => match slD d lo hi with
    | some z => .ok z ρ
    | none => .stuck
  | none => .stuck
def sliceS (f : Env → R XV) (fl fh : Env → R (Option Int)) : Env → R XV := fun ρ => (opnd f ρ).bind (slO fl fh)
theorem ce_slice {lo hi : Option Expr} {fl fh : Env → R (Option Int)} {p2 : Pos} (he : CE J Xs e f) (hl : CP J Xs lo fl) (hh : CP J Xs hi fh) : CE J Xs (.Subscript e (.Slice lo hi none p2) pos) (sliceS f fl fh) := by
  obtain ⟨t, h1, h2⟩ := he
  obtain ⟨tl, l1, l2⟩ := hl
  obtain ⟨th, u1, u2⟩ := hh
  refine ⟨tSl (fun x lo hi H Q => rSlL J.C.K x lo hi H Q ∨ rSlA J.C.K x lo hi H Q ∨ rSlS x lo hi H Q) t tl th, fun i G => ?_, fun W σ ρ H G Q pk r h => ?_⟩
  · have := pe_slice (pos := pos) (p2 := p2) (SlR.or (sl_list (X := Xs i)) (SlR.or sl_tupA sl_str)) (h1 i G) (l1 i G) (u1 i G)
    rw [G.hK] at this
    exact this
  · refine h2.opnd W σ ρ H G _ pk r ((Got.bind h).imp fun x ρ1 H1 G1 e1 r1 k v vk => ?_)
    refine l2 W σ ρ1 H1 G1 _ pk r1 ((Got.bind k).imp fun lo ρ2 H2 G2 e2 r2 k => ?_)
    refine u2 W σ ρ2 H2 G2 _ pk r2 ((Got.bind k).imp fun hi ρ3 H3 G3 e3 r3 k => ?_)
    cases z : cont ρ3 x with
    | none => rw [z] at k; exact k.elim
    | some d =>
      rw [z] at k
      dsimp only at k
      have tp := (vk.ge (e2.trans e3)).top r3 z
      cases d <;> first | (exact k.elim) | skip
      · -- a text
        rename_i s
        unfold slD at k
        dsimp only at k
        by_cases hl : s.length ≤ LIM
        · rw [if_pos hl] at k
          rw [tp.str]
          exact .inr (.inr ⟨s, rfl, lim_le hl, k H3 G3 (Ge.refl _) r3 _ (.str _)⟩)
        · rw [if_neg hl] at k; exact k.elim
      · -- a tuple
        rename_i l
        rcases id tp with tp' | ⟨_, _, z⟩
        · obtain ⟨a, xs, rfl, q1, q2⟩ := tp.tup r3.gh
          refine .inr (.inl ⟨a, xs, rfl, q1, fun w => ?_, fun w p hp => r3.backTup (cut_of q2 lo hi) (fun v' H' G' a b c => k H' G' a b v' c) hp⟩)
          have e : cutD l lo hi = l := by
            unfold cutD
            rw [← q2.length, w.1, w.2, List.drop_zero, Nat.sub_zero, q2.length, List.take_length]
          have k := k H3 G3 (Ge.refl _) r3 (.ref a)
          rw [e] at k
          exact k tp'
        · exact z.elim
      · obtain ⟨a, xs, rfl, q1, q2⟩ := tp.lst r3.gh
        exact .inl ⟨a, xs, rfl, SqL.of q1, fun p hp => r3.backLst (cut_of q2 lo hi) (fun v' H' G' a b c => k H' G' a b v' c) hp⟩
      · obtain ⟨a, xs, rfl, q1, q2⟩ := tp.rol r3.gh
        exact .inl ⟨a, xs, rfl, q1, fun p hp => r3.backLst (cut_of q2 lo hi) (fun v' H' G' a b c => k H' G' a b v' c) hp⟩
/-! ## attributes -/
def lookD (f : Str) : List Str → List D → Option D
  | n :: ns, v :: vs => if n = f then some v else lookD f ns vs
  | _, _ => none
theorem look_of {C : Cst} {G : Hp} {f : Str} : ∀ {fs : List (Str × V)} {vs : List D} {d : D}, IsDs C G (fs.map Prod.snd) vs → lookD f (fs.map Prod.fst) vs = some d → ∃ v, fs.lookup f = some v ∧ IsD C G v d
  | [], _, _, .nil, e => by cases e
  | q :: fs, d :: ds, _, .cons h hs, e => by
    simp only [List.map_cons, lookD] at e
    by_cases z : q.1 = f
    · rw [if_pos z] at e
      cases e
      obtain ⟨n, v⟩ := q
      cases z
      exact ⟨v, by simp [List.lookup], h⟩
    · rw [if_neg z] at e
      obtain ⟨v, h1, h2⟩ := look_of hs e
      refine ⟨v, ?_, h2⟩
      obtain ⟨n, w⟩ := q
      rw [List.lookup, beq_eq_false_iff_ne.mpr (fun y => z y.symm)]
      exact h1
def fldD (cs : List String) (f : Str) (d : D) : Option XV := match d with
  | .ins c ns vs => if cs.contains c = true then (lookD f ns vs).map XV.dat else none
  | _ => none
def fldS (cs : List String) (f : Str) (g : Env → R XV) : Env → R XV := op1S (fldD cs f) g
def rFld (K : PySem.W.Frag) (f : Str) : V → Hp → VK → Prop := fun x H Q => ∃ a C dx fs v, x = .ref a ∧ H a = some (.ins C dx fs) ∧ Cls K C ∧ NoAttr K C f ∧ fs.lookup f = some v ∧ Q v H
theorem ce_fld {nm : Str} (cs : List String) (hcs : ∀ c ∈ cs, Cls J.C.K (J.C.CA c) ∧ NoAttr J.C.K (J.C.CA c) nm) (h : CE J Xs e f) (hb : ∀ i, attributeBase e nm (Xs i).env (eval e (Xs i).env) = eval e (Xs i).env := by intro _; rfl) : CE J Xs (.Attribute e nm pos) (fldS cs nm f) := by
  obtain ⟨t, h1, h2⟩ := h
  refine ⟨tUn (rFld J.C.K nm) t, fun i G => ?_, ev_op1 h2 ?_⟩
  · have := pe_fld (pos := pos) (h1 i G) (hb i)
    rw [G.hK] at this
    exact this
  · intro W σ ρ H G v d x Q rl tp eq k
    cases d <;> first | (cases eq; done) | skip
    rename_i c ns vs
    unfold fldD at eq
    dsimp only at eq
    by_cases hc : cs.contains c = true
    · rw [if_pos hc] at eq
      cases z : lookD nm ns vs with
      | none => rw [z] at eq; cases eq
      | some y =>
        rw [z] at eq; cases eq
        obtain ⟨a, dx, fs, rfl, q1, rfl, q2⟩ := tp.ins rl.gh
        obtain ⟨u, u1, u2⟩ := look_of q2 z
        obtain ⟨k1, k2⟩ := hcs c (by simpa using hc)
        exact ⟨a, _, dx, fs, u, rfl, q1, k1, k2, u1, rl.back u2 k⟩
    · rw [if_neg hc] at eq; cases eq
/-- self.f = e -/
def putNs (f : Str) : List Str → List Str
  | [] => [f]
  | g :: r => if g = f then g :: r else g :: putNs f r
def putVs (f : Str) (d : D) : List Str → List D → List D
  | g :: r, x :: xs => if g = f then d :: xs else x :: putVs f d r xs
  | _, _ => [d]
theorem put_of {C : Cst} {G : Hp} {f : Str} {v : V} {d : D} (h : IsD C G v d) : ∀ {fs : List (Str × V)} {vs : List D}, IsDs C G (fs.map Prod.snd) vs →
    (putF f v fs).map Prod.fst = putNs f (fs.map Prod.fst) ∧ IsDs C G ((putF f v fs).map Prod.snd) (putVs f d (fs.map Prod.fst) vs)
  | [], _, .nil => ⟨rfl, .cons h .nil⟩
  | q :: fs, e :: es, .cons k ks => by
    obtain ⟨n, w⟩ := q
    obtain ⟨i1, i2⟩ := put_of (f := f) h ks
    simp only [putF, List.map_cons, putNs, putVs]
    by_cases z : n = f
    · simp only [if_pos z, List.map_cons]; exact ⟨trivial, .cons h ks⟩
    · simp only [if_neg z, List.map_cons, i1]; exact ⟨trivial, .cons k i2⟩
def setFldO (cs : List String) (i : Nat) (f : Str) (d : D) (ρ : Env) : R Out := match ρ.at i with
  | .own (.ins c ns vs) => if cs.contains c = true ∧ ns.length < 1000 then .ok .nx (ρ.set i (.own (.ins c (putNs f ns) (putVs f d ns vs)))) else .stuck
  | _ => .stuck
def setFldS (cs : List String) (i : Nat) (nm : Str) (f : Env → R XV) : Env → R Out := fun ρ => (valS f ρ).bind (setFldO cs i nm)
theorem cs_fld {nm x : Str} {pos' p : Pos} (cs : List String) (i : Nat) (hcs : ∀ c ∈ cs, Cls J.C.K (J.C.CA c) ∧ NoAttr J.C.K (J.C.CA c) nm) (h : CE J Xs e f) (hN : ∀ j, (Xs j).N[i]? = some x := by intro _; rfl)
    (hv : ∀ j, Vis (Xs j).env.scope x := by first | exact fun _ => Or.inl rfl | exact fun _ => Or.inr (Or.inl rfl) | exact fun _ => Or.inr (Or.inr rfl)) (hd : (x == ("__debug__" : Str)) = false := by decide) (hcd : (x == ("__classdict__" : Str)) = false := by decide)
    (hs : ∀ j, swapsWith e (some (.Attribute (.Name x p) nm pos')) pos.line (Xs j).env = pure false := by intro _; rfl) : CS J Xs (.Assign [.Attribute (.Name x p) nm pos'] e pos) (setFldS cs i nm f) := by
  obtain ⟨t, h1, h2⟩ := h
  refine ⟨sFld J.C.K (tVar i) t nm, fun j G => ?_, fun W σ ρ H G E pk r h => ?_⟩
  · have := ps_fld (pos := pos) (pe_var (pos := p) (hN j) (hv j) hd hcd) (h1 j G) (hs j)
    rw [G.hK] at this
    exact this
  · refine h2.val W σ ρ H G _ pk r ((GotS.bind h).imp fun d ρ1 H1 G1 e1 r1 k v vk => ?_)
    unfold setFldO at k
    cases s : ρ1.at i with
    | un => rw [s] at k; exact k.elim
    | dat _ => rw [s] at k; exact k.elim
    | brw _ => rw [s] at k; exact k.elim
    | exv _ _ _ => rw [s] at k; exact k.elim
    | clo _ _ => rw [s] at k; exact k.elim
    | own o =>
      rw [s] at k
      obtain ⟨a, q1, q2, _⟩ := r1.own s
      cases o <;> first | (exact k.elim) | skip
      rename_i c ns vs
      dsimp only at k
      by_cases hc : cs.contains c = true ∧ ns.length < 1000
      · rw [if_pos hc] at k
        obtain ⟨dx, fs, q3, rfl, q4⟩ := q2
        obtain ⟨k1, k2⟩ := hcs c (by simpa using hc.1)
        refine ⟨_, q1, a, _, dx, fs, rfl, q3, k1, k2, by have := hc.2; rwa [List.length_map] at this, ?_⟩
        obtain ⟨p1, p2⟩ := put_of (f := nm) vk q4
        exact k σ _ G1 (Ge.refl _) (r1.write s q1 ⟨dx, putF nm v fs, upd_same, p1, p2⟩)
      · rw [if_neg hc] at k; exact k.elim
/-! ## isinstance -/
def tyD : D → Option String
  | .non => some "NoneType"
  | .bl _ => some "bool"
  | .int _ => some "int"
  | .str _ => some "str"
  | .tup _ => some "tuple"
  | .lst _ => some "list"
  | .rol _ => some "list"
  | .dct _ _ => none
  | .ins _ _ _ => none
  | .opq => none
theorem tyX_of {C : Cst} {H : Hp} {v : V} {d : D} {t : String} (h : IsD C H v d) (e : tyD d = some t) : TyX C.K H v (.type t) := by
  cases h <;> cases e
  · exact .base .non
  · exact .base (.bl _)
  · exact .base (.int _)
  · exact .base (.str _)
  · rename_i h _
    rcases h with (h | ⟨o, h⟩) | ⟨o, its, n, h1, h2, _⟩
    · exact .base (.tup h)
    · exact .fTuple h
    · exact .kTuple h1 h2
  · rename_i h _; exact .base (.lst h)
  · rename_i h _
    rcases h with (h | ⟨o, h⟩) | ⟨o, its, n, h1, h2, _⟩
    · exact .base (.lst h)
    · exact .base (.frz h)
    · exact .kList h1 h2
/-- what an instance's class must have to be asked for its type -/
structure InsF (K : PySem.W.Frag) (C : Addr) : Prop where
  cl : Cls K C
  ha : PySem.W.findIn K (.ref C) "__class__" = some (some (.builtin "object.__class__"))
  hn : PySem.W.specialIn K (.builtin "object.__class__") "__get__" = some (some (.builtin "getset_descriptor.__get__"))
  ht : PySem.W.takesIn K (.builtin "object.__class__") = some true
  hm : PySem.W.mroIn K C (.type "object") = some true
/-- of a class c (a value u of the model): which built-in types' values, which classes' instances are of it; none where it isn't known -/
structure IsiT where
  ty : String → Option Bool
  cl : String → Option Bool
def IsiOk (C : Cst) (T : IsiT) (u : Value) : Prop := (∀ t b, T.ty t = some b → PySem.W.kitOne C.K (.type t) u = some b) ∧ ∀ c b, T.cl c = some b → InsF C.K (C.CA c) ∧ PySem.W.kitOne C.K (.ref (C.CA c)) u = some b
def isiD (T : IsiT) (d : D) : Option Bool := match d with
  | .ins c _ _ => T.cl c
  | d => (tyD d).bind T.ty
theorem isi_of {C : Cst} {T : IsiT} {u : Value} (ok : IsiOk C T u) {H : Hp} {v : V} {d : D} {b : Bool} (h : IsD C H v d) (e : isiD T d = some b) : ∃ t, TyX C.K H v t ∧ PySem.W.kitOne C.K t u = some b := by
  have plain : ∀ t, tyD d = some t → T.ty t = some b → ∃ t, TyX C.K H v t ∧ PySem.W.kitOne C.K t u = some b := fun t e1 e2 => ⟨_, tyX_of h e1, ok.1 t b e2⟩
  cases d <;> first | exact plain _ rfl e | (cases (show (none : Option Bool) = some b from e)) | skip
  cases h with
  | ins h1 _ _ =>
    obtain ⟨q1, q2⟩ := ok.2 _ b e
    exact ⟨_, .base (.ins h1 q1.cl q1.ha q1.hn q1.ht q1.hm), q2⟩
def isiOp (T : IsiT) (d : D) : Option XV := (isiD T d).map xbl
def isiS (T : IsiT) (f : Env → R XV) : Env → R XV := op1S (isiOp T) f
/-- isinstance(e, c) -/
theorem ce_isi {c : Expr} {cv : V} {u : Value} (T : IsiT) (ok : IsiOk J.C T u) (kc : ClsV cv u) (hm : ∀ i, (Xs i).mg "isinstance" = none) (h : CE J Xs e f) (hc : ∀ i, Good J (Xs i) → PE (Xs i) c (tC cv))
    (hg : ∀ i, Gl (Xs i) "isinstance" := by intro _; rfl) (hs : ∀ i, starEach [e, c] (Xs i).env = (false, eval e (Xs i).env) :: starEach [c] (Xs i).env := by intro _; rfl) (hs2 : ∀ i, starEach [c] (Xs i).env = (false, eval c (Xs i).env) :: starEach [] (Xs i).env := by intro _; rfl)
    (hpl : ∀ i, (backTo pos (starEach [c] (Xs i).env)).any (·.1) = false := by intro _; rfl) : CE J Xs (.Call (.Name "isinstance" p) [e, c] [] pos) (isiS T f) := by
  obtain ⟨t, h1, h2⟩ := h
  refine ⟨tUn (fun x H Q => rIsi J.C.K [x, cv] H Q) t, fun i G => ?_, ev_op1 h2 ?_⟩
  · have := pe_callB (p := p) (pos := pos) call_isi (hg i) (hm i) PyProof.Rows.boot_isinstance (pa_cons (h1 i G) (pa_cons (hc i G) pa_nil (hs2 i)) (hs i)) (by decide) (by decide) (hs i) (hpl i)
    rw [G.hK] at this
    exact this
  · intro W σ ρ H G v d x Q rl tp eq k
    unfold isiOp at eq
    cases z : isiD T d with
    | none => rw [z] at eq; cases eq
    | some b =>
      rw [z] at eq; cases eq
      obtain ⟨t, t1, t2⟩ := isi_of ok (tp.isD rl.gh) z
      exact ⟨v, cv, t, u, b, rfl, kc, t1, t2, rl.back (.bl _) k⟩
/-- a built-in type as that class -/
def tyTab (l : List (String × Bool)) : IsiT := ⟨fun t => l.lookup t, fun _ => none⟩
theorem tyTab_ok {C : Cst} {T : String} {l : List (String × Bool)} (h : ∀ q ∈ l, kitB q.1 T = some q.2) : IsiOk C (tyTab l) (.type T) := by
  refine ⟨fun t b e => ?_, fun c b e => by cases e⟩
  have : ∀ l : List (String × Bool), l.lookup t = some b → (t, b) ∈ l := fun l => by
    induction l with
    | nil => intro e; cases e
    | cons q r ih =>
      obtain ⟨n, c⟩ := q
      intro e
      by_cases z : t = n
      · subst z
        simp [List.lookup] at e
        subst e
        exact List.mem_cons_self
      · simp only [List.lookup, beq_eq_false_iff_ne.mpr z] at e
        exact List.mem_cons_of_mem _ (ih e)
  exact kit_ty (h (t, b) (this l e))
/-- isinstance(e, (c1, c2)) : of one of them -/
def isi2D (T U : IsiT) (d : D) : Option XV := match isiD T d with
  | some true => some (xbl true)
  | some false => (isiD U d).map xbl
  | none => none
def isi2S (T U : IsiT) (f : Env → R XV) : Env → R XV := op1S (isi2D T U) f
theorem IsD.tyU {C : Cst} {H : Hp} {v : V} {d : D} {T U : IsiT} {u w : Value} {b b' : Bool} (ok : IsiOk C T u) (ok' : IsiOk C U w) (h : IsD C H v d) (e : isiD T d = some b) (e' : isiD U d = some b') : ∃ t, TyX C.K H v t ∧ PySem.W.kitOne C.K t u = some b ∧ PySem.W.kitOne C.K t w = some b' := by
  have plain : ∀ t, tyD d = some t → T.ty t = some b → U.ty t = some b' → ∃ t, TyX C.K H v t ∧ PySem.W.kitOne C.K t u = some b ∧ PySem.W.kitOne C.K t w = some b' := fun t e1 e2 e3 => ⟨_, tyX_of h e1, ok.1 t b e2, ok'.1 t b' e3⟩
  cases d <;> first | exact plain _ rfl e e' | (cases (show (none : Option Bool) = some b from e)) | skip
  cases h with
  | ins h1 _ _ =>
    obtain ⟨q1, q2⟩ := ok.2 _ b e
    exact ⟨_, .base (.ins h1 q1.cl q1.ha q1.hn q1.ht q1.hm), q2, (ok'.2 _ b' e').2⟩
theorem ce_isi2 {c c2 : Expr} {cv cw : V} {u w : Value} {kk : Nat} {tpos : Pos} (T U : IsiT) (ok : IsiOk J.C T u) (ok' : IsiOk J.C U w) (kc : ClsV cv u) (kw : ClsV cw w) (hm : ∀ i, (Xs i).mg "isinstance" = none) (h : CE J Xs e f)
    (hc : ∀ i, Good J (Xs i) → PE (Xs i) c (tC cv)) (hc2 : ∀ i, Good J (Xs i) → PE (Xs i) c2 (tC cw)) (hg : ∀ i, Gl (Xs i) "isinstance" := by intro _; rfl)
    (hs : ∀ i, starEach [e, .Tuple [c, c2] kk tpos] (Xs i).env = (false, eval e (Xs i).env) :: starEach [.Tuple [c, c2] kk tpos] (Xs i).env := by intro _; rfl)
    (hs1 : ∀ i, starEach [.Tuple [c, c2] kk tpos] (Xs i).env = (false, eval (.Tuple [c, c2] kk tpos) (Xs i).env) :: starEach [] (Xs i).env := by intro _; rfl)
    (hs2 : ∀ i, starEach [c, c2] (Xs i).env = (false, eval c (Xs i).env) :: starEach [c2] (Xs i).env := by intro _; rfl) (hs3 : ∀ i, starEach [c2] (Xs i).env = (false, eval c2 (Xs i).env) :: starEach [] (Xs i).env := by intro _; rfl)
    (hpl : ∀ i, (backTo pos (starEach [.Tuple [c, c2] kk tpos] (Xs i).env)).any (·.1) = false := by intro _; rfl) : CE J Xs (.Call (.Name "isinstance" p) [e, .Tuple [c, c2] kk tpos] [] pos) (isi2S T U f) := by
  obtain ⟨t, h1, h2⟩ := h
  refine ⟨tUn (fun x H Q => tTup (tCons (tC cv) (tCons (tC cw) tNil)) [] H fun y H2 => rIsiT J.C.K [x, y] H2 Q) t, fun i G => ?_, ev_op1 h2 ?_⟩
  · have := pe_callB (p := p) (pos := pos) call_isiT (hg i) (hm i) PyProof.Rows.boot_isinstance (pa_cons (h1 i G) (pa_cons (pe_tup (pa_cons (hc i G) (pa_cons (hc2 i G) pa_nil (hs3 i)) (hs2 i))) pa_nil (hs1 i)) (hs i)) (by decide) (by decide) (hs i) (hpl i)
    rw [G.hK] at this
    exact this
  · intro W σ ρ H G v d x Q rl tp eq k
    unfold isi2D at eq
    refine ⟨(by show 2 ≤ sizeLine; decide), fun q hq => ?_⟩
    have g : Ge H (upd H q (.tup [cv, cw])) := Ge.upd hq
    have vd : IsD J.C (upd H q (.tup [cv, cw])) v d := (tp.isD rl.gh).ge g
    cases z : isiD T d with
    | none => rw [z] at eq; cases eq
    | some b =>
      rw [z] at eq
      cases b with
      | true =>
        cases eq
        obtain ⟨t, t1, t2⟩ := isi_of ok vd z
        exact ⟨v, q, [cv, cw], t, [u, w], true, rfl, upd_same, .cons kc (.cons kw .nil), t1, kitAny_cons t2 (fun e => by cases e) (fun _ => rfl), k _ _ _ (Ge.refl _) (rl.new hq) (.bl _)⟩
      | false =>
        dsimp only at eq
        cases z' : isiD U d with
        | none => rw [z'] at eq; cases eq
        | some b' =>
          rw [z'] at eq; cases eq
          obtain ⟨t, t1, t2, t3⟩ := IsD.tyU ok ok' vd z z'
          exact ⟨v, q, [cv, cw], t, [u, w], b', rfl, upd_same, .cons kc (.cons kw .nil), t1, kitAny_cons t2 (fun _ => kitAny_cons t3 (fun e => by rw [e]; exact kitAny_nil) (fun e => e)) (fun e => by cases e), k _ _ _ (Ge.refl _) (rl.new hq) (.bl _)⟩
end
end DL
namespace DL
open PySem L2

/-! ## x[e] = v, x a name of ours -/
def hasK (q : Key) (ks : List Key) : Bool := ks.any fun k => decide (k = q)
def putKs (q : Key) (ks : List Key) : List Key := if hasK q ks = true then ks else ks ++ [q]
def repD1 (q : Key) (d : D) : List Key → List D → List D
  | k :: ks, v :: vs => (if k = q then d else v) :: repD1 q d ks vs
  | _, _ => []
def putDs (q : Key) (d : D) (ks : List Key) (vs : List D) : List D := if hasK q ks = true then repD1 q d ks vs else vs ++ [d]
theorem any_key {q : Key} (kvs : List (Key × V)) : (kvs.any fun kv => decide (kv.1 = q)) = hasK q (kvs.map Prod.fst) := by
  unfold hasK
  rw [List.any_map]; rfl
theorem putK_of {C : Cst} {G : Hp} {q : Key} {v : V} {d : D} (h : IsD C G v d) {kvs : List (Key × V)} {vs : List D} (hs : IsDs C G (kvs.map Prod.snd) vs) :
    (putK kvs q v).map Prod.fst = putKs q (kvs.map Prod.fst) ∧ IsDs C G ((putK kvs q v).map Prod.snd) (putDs q d (kvs.map Prod.fst) vs) := by
  unfold putK putKs putDs
  rw [any_key]
  by_cases e : hasK q (kvs.map Prod.fst) = true
  · rw [if_pos e, if_pos e, if_pos e]
    clear e
    induction kvs generalizing vs with
    | nil => cases hs; exact ⟨rfl, .nil⟩
    | cons p r ih =>
      cases hs with
      | cons h1 h2 =>
        obtain ⟨i1, i2⟩ := ih h2
        simp only [List.map_cons, repD1]
        by_cases z : p.1 = q
        · simp only [if_pos z]; exact ⟨by rw [← i1], .cons h i2⟩
        · simp only [if_neg z]; exact ⟨by rw [← i1], .cons h1 i2⟩
  · rw [if_neg e, if_neg e, if_neg e, List.map_append, List.map_append]
    exact ⟨rfl, hs.append (.cons h .nil)⟩
def setAt (i : Nat) (y : XV) (d : D) (ρ : Env) : R Out := match cont ρ y with
  | some k => match ρ.at i with
    | .own (.lst l) => match k with
      | .int n => match ixN l.length n with
        | some j => .ok .nx (ρ.set i (.own (.lst (l.set j d))))
        | none => .stuck
      | _ => .stuck
    | .own (.dct ks vs) => match keyD k with
      | some q => if ks.length < LIM then .ok .nx (ρ.set i (.own (.dct (putKs q ks) (putDs q d ks vs)))) else .stuck
      | none => .stuck
    | _ => .stuck
  | none => .stuck
def itemS (i : Nat) (f g : Env → R XV) : Env → R Out := fun ρ => (valS f ρ).bind fun d ρ => match ρ.at i with
  | .own _ => (opnd g ρ).bind fun y ρ => setAt i y d ρ
  | _ => .stuck
/-- by values -/
def rSetA : V → V → V → Hp → (Hp → Prop) → Prop := fun o i v H Q => rSetL o i v H Q ∨ ∃ a H', o = .ref a ∧ DPut H a i v H' ∧ Q H'
theorem set_any {X : Cx} (hu : X.A.units + 1 < cLine) : PSet X rSetA := by
  intro pins s σ H o i v ov iv u Q I ro ri rv h
  rcases h with h | ⟨a, H', e, g, q⟩
  · exact set_list pins s σ H o i v ov iv u Q I ro ri rv h
  · subst e
    cases ro
    exact d_setItem hu I g ri rv fun s2 I2 => ⟨H', I2, q⟩
section
variable {J : Jd} {W : Fm} {σ : St} {ρ : Env} {H G : Hp}
theorem setAt_ok {i : Nat} {a : Addr} {y : XV} {w v : V} {d : D} {E : Ends} (r : Rel J.C W σ ρ H G) (hs : σ[i]? = some (some (.ref a))) (hy : Wait J.C σ G w y) (hv : IsD J.C G v d) (h : GotS J W G (setAt i y d ρ) E) :
    rSetA (.ref a) w v H fun H' => E.nx σ H' := by
  unfold setAt at h
  cases z : cont ρ y with
  | none => rw [z] at h; exact h.elim
  | some k =>
    rw [z] at h
    dsimp only at h
    have tk := hy.top r z
    cases s : ρ.at i with
    | un => rw [s] at h; exact h.elim
    | dat d => rw [s] at h; exact h.elim
    | brw d => rw [s] at h; exact h.elim
    | exv _ _ _ => rw [s] at h; exact h.elim
    | clo _ _ => rw [s] at h; exact h.elim
    | own o =>
      rw [s] at h
      obtain ⟨b, e, ow, _⟩ := r.own s
      rw [hs] at e; cases e
      cases o <;> first | exact h.elim | skip
      · rename_i l
        cases k <;> first | exact h.elim | skip
        rename_i n
        dsimp only at h
        cases zj : ixN l.length n with
        | none => rw [zj] at h; exact h.elim
        | some j =>
          rw [zj] at h
          obtain ⟨xs, h1, h2⟩ := ow
          refine .inl ⟨a, xs, n, j, rfl, tk.int, h1, by rw [h2.length]; exact zj, ?_⟩
          exact h σ _ G (Ge.refl _) (r.write s hs ⟨_, upd_same, h2.set hv j⟩)
      · rename_i ks vs
        dsimp only at h
        cases zq : keyD k with
        | none => rw [zq] at h; exact h.elim
        | some q =>
          rw [zq] at h
          dsimp only at h
          split at h
          · rename_i hl
            obtain ⟨kvs, h1, h0, h2⟩ := ow
            subst h0
            obtain ⟨p1, p2⟩ := putK_of (q := q) hv h2
            have e := keyD_of tk zq
            subst e
            refine .inr ⟨a, _, rfl, DPut.k h1 (lim_lt (by rw [List.length_map] at hl; exact hl)), ?_⟩
            exact h σ _ G (Ge.refl _) (r.write s hs ⟨_, upd_same, p1, p2⟩)
          · exact h.elim
end
section
variable {ι : Type} {J : Jd} {Xs : ι → Cx} {e ix : Expr} {f g : Env → R XV} {pos : Pos}
theorem cs_item {x : Str} {pos' p : Pos} (i : Nat) (h : CE J Xs e f) (hi : CE J Xs ix g) (hN : ∀ j, (Xs j).N[i]? = some x := by intro _; rfl)
    (hv : ∀ j, Vis (Xs j).env.scope x := by first | exact fun _ => Or.inl rfl | exact fun _ => Or.inr (Or.inl rfl) | exact fun _ => Or.inr (Or.inr rfl)) (hd : (x == ("__debug__" : Str)) = false := by decide) (hcd : (x == ("__classdict__" : Str)) = false := by decide)
    (ha : ∀ j v, assign (.Subscript (.Name x p) ix pos') (Xs j).env v = (do
      let ov ← holding [v] (eval (.Name x p) (Xs j).env)
      let iv ← holding [v, ov] (eval ix (Xs j).env)
      standAt pos'
      holding [v, ov, iv] (setItem ov iv v)
      release [v, ov, iv] []) := by intro _ _; rfl)
    (hs : ∀ j, swapsWithSole [.Subscript (.Name x p) ix pos'] e pos.line (Xs j).env = pure false := by intro _; rfl) (hw : ∀ j, swappedStores [.Subscript (.Name x p) ix pos'] e (Xs j).env = pure none := by intro _; rfl)
    (h1 : ∀ j, (assignEach [.Subscript (.Name x p) ix pos'] (Xs j).env).map (·.2) = [assign (.Subscript (.Name x p) ix pos') (Xs j).env] := by intro _; rfl) : CS J Xs (.Assign [.Subscript (.Name x p) ix pos'] e pos) (itemS i f g) := by
  obtain ⟨t, t1, t2⟩ := h
  obtain ⟨u, u1, u2⟩ := hi
  refine ⟨tAsg t (gSub (tVar i) u rSetA), fun j G => ps_asg (t1 j G) (pg_sub (pe_var (hN j) (hv j) hd hcd) (u1 j G) (set_any (by have := G.units; omega)) (ha j)) (hs j) (hw j) (h1 j), fun W σ ρ H G E pk r h => ?_⟩
  refine t2.val W σ ρ H G _ pk r ((GotS.bind h).imp fun d ρ1 H1 G1 e1 r1 k v vk => ?_)
  cases s : ρ1.at i with
  | un => rw [s] at k; exact k.elim
  | dat d => rw [s] at k; exact k.elim
  | brw d => rw [s] at k; exact k.elim
  | exv _ _ _ => rw [s] at k; exact k.elim
  | clo _ _ => rw [s] at k; exact k.elim
  | own o =>
    rw [s] at k
    dsimp only at k
    obtain ⟨a, q1, _⟩ := r1.own s
    refine ⟨_, q1, u2.opnd W σ ρ1 H1 G1 _ pk r1 ((GotS.bind k).imp fun y ρ2 H2 G2 e2 r2 k w wk => ?_)⟩
    exact setAt_ok r2 q1 wk (vk.ge e2) k
end

/-! ## x.append(e), x.extend(e), x.pop(), x.pop(i): x a name of ours -/
/-- what a method does with a slot's own object -/
def MethOk (C : Cst) (r : V → List V → Hp → VK → Prop) (op : D → List D → Option (D × D)) : Prop := ∀ H G a d vs ds d' x (Q : VK), Ge G H → Own C H G a d → IsDs C G vs ds → op d ds = some (d', x) →
  (∀ o v, Own C (upd H a o) G a d' → IsD C G v x → Q v (upd H a o)) → r (.ref a) vs H Q
def methAt (op : D → List D → Option (D × D)) (i : Nat) (xs : List XV) (ρ : Env) : R XV := match ρ.at i, datsOf xs with
  | .own d, some ds => match op d ds with
    | some (d', x) => .ok (.dat x) (ρ.set i (.own d'))
    | none => .stuck
  | _, _ => .stuck
def methS (op : D → List D → Option (D × D)) (i : Nat) (fs : Env → R (List XV)) : Env → R XV := fun ρ => match ρ.at i with
  | .own (.lst _) => (fs ρ).bind (methAt op i)
  | _ => .stuck
def appendD : D → List D → Option (D × D)
  | .lst l, [d] => if l.length < LIM then some (.lst (l ++ [d]), .non) else none
  | _, _ => none
def extendD : D → List D → Option (D × D)
  | .lst l, [.lst m] => if l.length + m.length ≤ LIM then some (.lst (l ++ m), .non) else none
  | _, _ => none
def popD : D → List D → Option (D × D)
  | .lst l, [] => match l[l.length - 1]? with
    | some y => some (.lst l.dropLast, y)
    | none => none
  | _, _ => none
def popAtD : D → List D → Option (D × D)
  | .lst l, [.int i] => if l.length ≤ LIM then match ixN l.length i with
    | some j => match l[j]? with
      | some y => some (.lst (l.eraseIdx j), y)
      | none => none
    | none => none
    else none
  | _, _ => none
theorem IsDs.eraseIdx {C : Cst} {G : Hp} : ∀ {vs : List V} {ds : List D} (i : Nat), IsDs C G vs ds → IsDs C G (vs.eraseIdx i) (ds.eraseIdx i)
  | _, _, _, .nil => .nil
  | _, _, 0, .cons _ h => h
  | _, _, i + 1, .cons a h => .cons a (h.eraseIdx i)
theorem IsDs.dropLast {C : Cst} {G : Hp} : ∀ {vs : List V} {ds : List D}, IsDs C G vs ds → IsDs C G vs.dropLast ds.dropLast
  | _, _, .nil => .nil
  | _, _, .cons a .nil => .nil
  | _, _, .cons a (.cons b h) => .cons a (IsDs.dropLast (.cons b h))
section
variable {C : Cst}
theorem append_ok : MethOk C rAppend appendD := by
  intro H G a d vs ds d' x Q g ow t eq k
  cases d <;> first | (cases eq; done) | skip
  rename_i l
  unfold appendD at eq
  split at eq
  · rename_i l' m e
    cases e
    split at eq
    · rename_i hl
      cases eq
      cases t with
      | cons t0 t1 =>
        cases t1
        obtain ⟨xs, h1, h2⟩ := ow
        exact ⟨a, xs, _, rfl, rfl, h1, by rw [h2.length]; exact lim_lt hl, k _ _ ⟨_, upd_same, h2.append (.cons t0 .nil)⟩ .non⟩
    · cases eq
  · cases eq
theorem extend_ok : MethOk C rExtend extendD := by
  intro H G a d vs ds d' x Q g ow t eq k
  cases d <;> first | (cases eq; done) | skip
  rename_i l
  unfold extendD at eq
  split at eq
  · rename_i l' m e
    cases e
    split at eq
    · rename_i hl
      cases eq
      cases t with | cons t0 t1 => ?_
      cases t1
      obtain ⟨xs, h1, h2⟩ := ow
      cases t0 with | lst h3 h4 => ?_
      exact ⟨a, _, xs, _, rfl, rfl, h1, g _ _ h3, by rw [h2.length, h4.length]; exact lim_le hl, k _ _ ⟨_, upd_same, h2.append h4⟩ .non⟩
    · cases eq
  · cases eq
theorem pop_ok : MethOk C rPop popD := by
  intro H G a d vs ds d' x Q g ow t eq k
  cases d <;> first | (cases eq; done) | skip
  rename_i l
  unfold popD at eq
  split at eq
  · rename_i l' e
    cases e
    split at eq
    · rename_i y hy
      cases eq
      cases t
      obtain ⟨xs, h1, h2⟩ := ow
      obtain ⟨v, h3, h4⟩ := h2.get hy
      exact ⟨a, xs, v, rfl, rfl, h1, by rw [h2.length]; exact h3, k _ _ ⟨_, upd_same, h2.dropLast⟩ h4⟩
    · cases eq
  · cases eq
theorem popAt_ok : MethOk C rPopAt popAtD := by
  intro H G a d vs ds d' x Q g ow t eq k
  cases d <;> first | (cases eq; done) | skip
  rename_i l
  unfold popAtD at eq
  split at eq
  · rename_i l' i e
    cases e
    split at eq
    · rename_i hl
      split at eq
      · rename_i j hj
        split at eq
        · rename_i y hy
          cases eq
          cases t with | cons t0 t1 => ?_
          cases t1
          cases t0
          obtain ⟨xs, h1, h2⟩ := ow
          obtain ⟨u, h3, h4⟩ := h2.get hy
          obtain ⟨q1, q2, q3, q4⟩ := ixN_seq hj
          have hb : l.length < 2 ^ 63 := Nat.lt_of_le_of_lt hl (by decide)
          exact ⟨a, xs, i, j, u, rfl, rfl, h1, by omega, by omega, by rw [h2.length]; exact q1, h3, k _ _ ⟨_, upd_same, h2.eraseIdx j⟩ h4⟩
        · cases eq
      · cases eq
    · cases eq
  · cases eq
end
section
variable {J : Jd} {W : Fm} {σ : St} {ρ : Env} {H G : Hp}
theorem meth_at {r : V → List V → Hp → VK → Prop} {op : D → List D → Option (D × D)} (ho : MethOk J.C r op) {i : Nat} {a : Addr} {vs : List V} {xs : List XV} {Q : VK} (rl : Rel J.C W σ ρ H G) (hs : σ[i]? = some (some (.ref a))) (w : Waits J.C σ G vs xs)
    (h : Got J W σ G (methAt op i xs ρ) (fun x ρ' H' G' => ∀ v, VOk J.C W σ ρ' H' G' v x → Q v H')) : r (.ref a) vs H Q := by
  unfold methAt at h
  cases s : ρ.at i with
  | un => rw [s] at h; exact h.elim
  | dat d => rw [s] at h; exact h.elim
  | brw d => rw [s] at h; exact h.elim
  | exv _ _ _ => rw [s] at h; exact h.elim
  | clo _ _ => rw [s] at h; exact h.elim
  | own d =>
    cases z : datsOf xs with
    | none => rw [s, z] at h; exact h.elim
    | some ds =>
      rw [s, z] at h
      dsimp only at h
      obtain ⟨b, e, ow, _⟩ := rl.own s
      rw [hs] at e; cases e
      cases zo : op d ds with
      | none => rw [zo] at h; exact h.elim
      | some p =>
        obtain ⟨d', x⟩ := p
        rw [zo] at h
        refine ho H G a d vs ds d' x Q rl.gh ow (dats_of w z) zo fun o v ow' hv => ?_
        exact h _ G (Ge.refl _) (rl.write s hs ow') v hv
theorem ev_meth {r : V → List V → Hp → VK → Prop} {op : D → List D → Option (D × D)} {i : Nat} {t : TA} {fs : Env → R (List XV)} (ho : MethOk J.C r op) (h : EvA J t fs) : EvE J (tBM J.C.K "list" r (tVar i) t) (methS op i fs) := by
  intro W σ ρ H G Q pk rl k
  unfold methS at k
  cases s : ρ.at i with
  | un => rw [s] at k; exact k.elim
  | dat d => rw [s] at k; exact k.elim
  | brw d => rw [s] at k; exact k.elim
  | exv _ _ _ => rw [s] at k; exact k.elim
  | clo _ _ => rw [s] at k; exact k.elim
  | own d =>
    rw [s] at k
    cases d <;> first | exact k.elim | skip
    obtain ⟨a, q1, ⟨xs, q2, _⟩, _⟩ := rl.own s
    refine ⟨_, q1, .inl ⟨rfl, xs, SqL.of q2⟩, h W σ ρ H G _ pk rl ((Got.bind k).imp fun ys ρ1 H1 G1 e1 r1 k vs wk => ?_)⟩
    exact meth_at ho r1 q1 wk k
theorem ev_meth0 {r : V → List V → Hp → VK → Prop} {op : D → List D → Option (D × D)} {i : Nat} (ho : MethOk J.C r op) : EvE J (tBM0 J.C.K "list" r (tVar i)) (methS op i nilS) := by
  intro W σ ρ H G Q pk rl k
  unfold methS at k
  cases s : ρ.at i with
  | un => rw [s] at k; exact k.elim
  | dat d => rw [s] at k; exact k.elim
  | brw d => rw [s] at k; exact k.elim
  | exv _ _ _ => rw [s] at k; exact k.elim
  | clo _ _ => rw [s] at k; exact k.elim
  | own d =>
    rw [s] at k
    cases d <;> first | exact k.elim | skip
    obtain ⟨a, q1, ⟨xs, q2, _⟩, _⟩ := rl.own s
    refine ⟨_, q1, .inl ⟨rfl, xs, SqL.of q2⟩, meth_at (xs := []) ho rl q1 trivial k⟩
end
section
variable {ι : Type} {J : Jd} {Xs : ι → Cx} {e : Expr} {es : List Expr} {f g : Env → R XV} {fs : Env → R (List XV)} {apos cpos p : Pos} {x : Str}
theorem ce_meth {id : String} {name : Str} {r : V → List V → Hp → VK → Prop} {op : D → List D → Option (D × D)} (i : Nat) (ho : MethOk J.C r op) (slot : Slot "list" name id) (hty : typeOf (.builtin id) = pure (.type "method_descriptor")) (hm : ∀ X, MtR X id r) (ha : CA_ J Xs (e :: es) fs)
    (hN : ∀ j, (Xs j).N[i]? = some x := by intro _; rfl) (hv : ∀ j, Vis (Xs j).env.scope x := by first | exact fun _ => Or.inl rfl | exact fun _ => Or.inr (Or.inl rfl) | exact fun _ => Or.inr (Or.inr rfl)) (hd : (x == ("__debug__" : Str)) = false := by decide) (hcd : (x == ("__classdict__" : Str)) = false := by decide)
    (hbase : ∀ j, attributeBase (.Name x p) name (Xs j).env (eval (.Name x p) (Xs j).env) = eval (.Name x p) (Xs j).env := by intro _; rfl)
    (hfew : ∀ j, ((backTo cpos (starEach (e :: es) (Xs j).env)).all (fun x => !x.1) && (backToKw cpos (keywordEach [] (Xs j).env)).all (fun x => x.1.isSome)
      && decide ((e :: es).length + ([] : List Keyword).length + (if ([] : List Keyword).isEmpty then 0 else 1) < 30)) = true := by intro _; rfl)
    (hline : (apos.endLine == cpos.line) = true := by rfl) (hs : ∀ j, starEach (e :: es) (Xs j).env = (false, eval e (Xs j).env) :: starEach es (Xs j).env := by intro _; rfl) (hplain : ∀ j, (backTo cpos (starEach es (Xs j).env)).any (·.1) = false := by intro _; rfl) :
    CE J Xs (.Call (.Attribute (.Name x p) name apos) (e :: es) [] cpos) (methS op i fs) := by
  obtain ⟨t, t1, t2⟩ := ha
  refine ⟨_, fun j G => ?_, ev_meth ho t2⟩
  rw [← G.hK]
  exact pe_bm PySem.F.plainAttrs_list slot hty (hm _) (pe_var (hN j) (hv j) hd hcd) (t1 j G) (hbase j) (hfew j) hline (hs j) (hplain j)
theorem ce_meth0 {id : String} {name : Str} {r : V → List V → Hp → VK → Prop} {op : D → List D → Option (D × D)} (i : Nat) (ho : MethOk J.C r op) (slot : Slot "list" name id) (hty : typeOf (.builtin id) = pure (.type "method_descriptor")) (hm : ∀ X, MtR X id r)
    (hN : ∀ j, (Xs j).N[i]? = some x := by intro _; rfl) (hv : ∀ j, Vis (Xs j).env.scope x := by first | exact fun _ => Or.inl rfl | exact fun _ => Or.inr (Or.inl rfl) | exact fun _ => Or.inr (Or.inr rfl)) (hd : (x == ("__debug__" : Str)) = false := by decide) (hcd : (x == ("__classdict__" : Str)) = false := by decide)
    (hbase : ∀ j, attributeBase (.Name x p) name (Xs j).env (eval (.Name x p) (Xs j).env) = eval (.Name x p) (Xs j).env := by intro _; rfl) (hline : (apos.endLine == cpos.line) = true := by rfl) :
    CE J Xs (.Call (.Attribute (.Name x p) name apos) [] [] cpos) (methS op i nilS) := by
  refine ⟨_, fun j G => ?_, ev_meth0 ho⟩
  rw [← G.hK]
  exact pe_bm0 PySem.F.plainAttrs_list slot hty (hm _) (pe_var (hN j) (hv j) hd hcd) (hbase j) hline
end
end DL
namespace DL
open PySem L2

/-! ## {}, {k: e, ..} with constant keys -/
section
variable {J : Jd} {W : Fm} {σ : St} {ρ : Env} {H G : Hp} {a : Addr} {o : HO} {d : D}
theorem Got.hold {α : Type} {R0 : R α} {K K' : α → Env → Hp → Hp → Prop} (r : Rel J.C W σ ρ H G) (v : VOk J.C W σ ρ H G (.ref a) (.own d)) (ho : H a = some o) (h : Got J W σ G R0 K)
    (hk : ∀ x ρ' H' G', Ge G G' → Rel J.C (W.hold a o) σ ρ' H' G' → Rel J.C W σ ρ' H' G' → K x ρ' H' G' → K' x ρ' H' G') : Got J (W.hold a o) σ G R0 K' := by
  cases R0 with
  | stuck => exact h
  | ok x ρ1 => exact fun H' G' g r' => hk x ρ1 H' G' g r' (r.unhold v ho g r').1 (h H' G' g (r.unhold v ho g r').1)
  | exc c ns vs ρ1 => exact fun dd H' G' g r' x => h dd H' G' g (r.unhold v ho g r').1 x
end
def newDS : Env → R XV := fun ρ => .ok (.own (.dct [] [])) ρ
def EvP (J : Jd) (trs : List (TE × TE)) (ks : List Key) (fs : Env → R (List D)) : Prop := ∀ W σ ρ H G (Q : List (V × V) → Hp → Prop), PinOk W J.P J.ex → Rel J.C W σ ρ H G →
  Got J W σ G (fs ρ) (fun ds _ H' G' => ∀ vs, IsDs J.C G' vs ds → vs.length = ks.length → Q ((ks.zip vs).map fun kv => (kV kv.1, kv.2)) H') → tPairs trs σ H Q
def CDp {ι : Type} (J : Jd) (Xs : ι → Cx) (keys : List (Option Expr)) (values : List Expr) (ks : List Key) (fs : Env → R (List D)) : Prop := ∃ trs, (∀ i, Good J (Xs i) → ∀ pos, PPs (Xs i) pos keys values trs) ∧ EvP J trs ks fs
def nilP : Env → R (List D) := fun ρ => .ok [] ρ
def consP (f : Env → R XV) (fs : Env → R (List D)) : Env → R (List D) := fun ρ => (valS f ρ).bind fun d ρ => (fs ρ).bind fun ds ρ => .ok (d :: ds) ρ
def dispS (ks : List Key) (fs : Env → R (List D)) : Env → R XV := fun ρ => (fs ρ).bind fun ds ρ => if ds.length = ks.length then .ok (.own (.dct ks ds)) ρ else .stuck
theorem hasK_mem {q : Key} {ks : List Key} : hasK q ks = true ↔ q ∈ ks := by
  unfold hasK
  rw [List.any_eq_true]
  exact ⟨fun ⟨x, h1, h2⟩ => by rw [← of_decide_eq_true h2]; exact h1, fun h => ⟨q, h, decide_eq_true rfl⟩⟩
theorem merge_new : ∀ (more acc : List (Key × V)), ((acc ++ more).map Prod.fst).Nodup → mergeK acc more = acc ++ more
  | [], acc, _ => by simp [mergeK]
  | p :: more, acc, h => by
    have e : putK acc p.1 p.2 = acc ++ [p] := by
      unfold putK
      rw [any_key, if_neg]
      intro z
      have z := hasK_mem.mp z
      rw [List.map_append, List.nodup_append] at h
      exact h.2.2 p.1 z p.1 (by simp) rfl
    have ih := merge_new more (acc ++ [p]) (by rw [List.append_assoc]; exact h)
    show mergeK (putK acc p.1 p.2) more = _
    rw [e, ih, List.append_assoc]; rfl
theorem zip_fst {ks : List Key} : ∀ {vs : List V}, vs.length = ks.length → (ks.zip vs).map Prod.fst = ks := by
  induction ks with
  | nil => intro vs h; simp
  | cons k ks ih =>
    intro vs h
    cases vs with
    | nil => simp at h
    | cons v vs => simp at h; simp [ih h]
theorem zip_snd : ∀ {ks : List Key} {vs : List V}, vs.length = ks.length → (ks.zip vs).map Prod.snd = vs
  | [], [], _ => rfl
  | k :: ks, [], h => by simp at h
  | [], v :: vs, h => by simp at h
  | k :: ks, v :: vs, h => by simp at h; simp [zip_snd h]
section
variable {ι : Type} {J : Jd} {Xs : ι → Cx} {e : Expr} {f g h : Env → R XV} {pos : Pos} {keys : List (Option Expr)} {values : List Expr} {ks : List Key} {fs : Env → R (List D)}
theorem ce_dnew : CE J Xs (.Dict [] [] pos) newDS := by
  refine ⟨tDNewK, fun i _ => pe_dnewK, fun W σ ρ H G Q pk r k p hp => ?_⟩
  exact k _ G (Ge.refl _) (r.new hp) _ (r.newV hp ⟨[], upd_same, rfl, .nil⟩)
theorem cdp_nil : CDp J Xs [] [] [] nilP := by
  refine ⟨[], fun _ _ _ => pps_nil, fun W σ ρ H G Q pk r k => ?_⟩
  exact k H G (Ge.refl _) r [] .nil rfl
theorem cdp_int {i : Int} {j kp} (h : CE J Xs e f) (hr : CDp J Xs keys values ks fs) : CDp J Xs (some (.Constant (.int i) j kp) :: keys) (e :: values) (.inl i :: ks) (consP f fs) := by
  obtain ⟨t, t1, t2⟩ := h
  obtain ⟨u, u1, u2⟩ := hr
  refine ⟨(tC (.int i), t) :: u, fun j G pos => pps_cons pe_int (t1 j G) (u1 j G pos), fun W σ ρ H G Q pk r k => ?_⟩
  refine t2.val W σ ρ H G _ pk r ((Got.bind k).imp fun d ρ1 H1 G1 e1 r1 k v vk => ?_)
  refine u2 W σ ρ1 H1 G1 _ pk r1 ((Got.bind k).imp fun ds ρ2 H2 G2 e2 r2 k vs vks hl => ?_)
  exact k H2 G2 (Ge.refl _) r2 (v :: vs) (.cons (IsD.ge vk e2) vks) (by simp [hl])
theorem cdp_str {x : Str} {j kp} (h : CE J Xs e f) (hr : CDp J Xs keys values ks fs) : CDp J Xs (some (.Constant (.str x) j kp) :: keys) (e :: values) (.inr x :: ks) (consP f fs) := by
  obtain ⟨t, t1, t2⟩ := h
  obtain ⟨u, u1, u2⟩ := hr
  refine ⟨(tC (.str x), t) :: u, fun j G pos => pps_cons pe_str (t1 j G) (u1 j G pos), fun W σ ρ H G Q pk r k => ?_⟩
  refine t2.val W σ ρ H G _ pk r ((Got.bind k).imp fun d ρ1 H1 G1 e1 r1 k v vk => ?_)
  refine u2 W σ ρ1 H1 G1 _ pk r1 ((Got.bind k).imp fun ds ρ2 H2 G2 e2 r2 k vs vks hl => ?_)
  exact k H2 G2 (Ge.refl _) r2 (v :: vs) (.cons (IsD.ge vk e2) vks) (by simp [hl])
theorem ce_disp (hp : CDp J Xs keys values ks fs) (nd : ks.Nodup := by decide) (hall : keys.all (·.isSome) = true := by rfl) (hl : keys.length = values.length := by rfl) (h0 : keys ≠ [] := by intro h; cases h) (h15 : keys.length ≤ 15 := by decide) (hk15 : ks.length ≤ 15 := by decide) :
    CE J Xs (.Dict keys values pos) (dispS ks fs) := by
  obtain ⟨t, t1, t2⟩ := hp
  refine ⟨tDisp t, fun i G => pe_disp (t1 i G pos) hall hl h0 h15, fun W σ ρ H G Q pk r k p hp => ?_⟩
  have r1 := r.new (o := .dK []) hp
  have v1 := r.newV (o := .dK []) (d := .dct [] []) hp ⟨[], upd_same, rfl, .nil⟩
  have hz : W.Z p = none := by obtain ⟨_, e, _, _, hz, _⟩ := v1; cases e; exact hz
  have hn : ¬ W.N p := by obtain ⟨_, e, _, _, _, hn, _⟩ := v1; cases e; exact hn
  have hb := r1.noB hz
  refine t2 (W.hold p (.dK [])) σ ρ _ G _ pk (r1.hold v1 upd_same) (Got.hold r1 v1 upd_same (Got.bind k) fun ds ρ2 H2 G2 e2 rh r2 k vs vks hvl => ?_)
  have hld : ds.length = ks.length := by rw [← vks.length]; exact hvl
  rw [if_pos hld] at k
  have h2 : H2 p = some (.dK []) := rh.zh p _ hold_eq
  refine ⟨h2, ks.zip vs, rfl, by simp only [List.length_zip]; omega, ?_⟩
  have em : mergeK [] (ks.zip vs) = ks.zip vs := merge_new _ [] (by rw [List.nil_append, zip_fst hvl]; exact nd)
  rw [em]
  obtain ⟨r3, v3⟩ := (rh.rehold (o' := .dK (ks.zip vs)) hb).release hz hn hb
  exact k _ G2 (Ge.refl _) r3 _ (v3 (.dct ks ds) ⟨_, upd_same, zip_fst hvl, by rw [zip_snd hvl]; exact vks⟩)
/-- d.get(k, e) -/
def isDct : Option D → Bool
  | some (.dct _ _) => true
  | _ => false
def getAt (x y : XV) (z : D) (ρ : Env) : R XV := match cont ρ x, cont ρ y with
  | some (.dct ks vs), some k => match keyD k with
    | some q => .ok (.dat ((dgetD ks vs q).getD z)) ρ
    | none => .stuck
  | _, _ => .stuck
def dget2S (f g h : Env → R XV) : Env → R XV := fun ρ => (opnd f ρ).bind fun x ρ => if isDct (cont ρ x) = true then (opnd g ρ).bind fun y ρ => (valS h ρ).bind fun z ρ => getAt x y z ρ else .stuck
theorem ce_dget2 {o fe : Expr} {apos cpos : Pos} (ho : CE J Xs o f) (he : CE J Xs e g) (hf : CE J Xs fe h) (m : ∀ j, M2 (Xs j) o "get" apos e fe cpos := by intro _; exact ⟨rfl, rfl, rfl, rfl⟩) : CE J Xs (.Call (.Attribute o "get" apos) [e, fe] [] cpos) (dget2S f g h) := by
  obtain ⟨t, t1, t2⟩ := ho
  obtain ⟨u, u1, u2⟩ := he
  obtain ⟨w, w1, w2⟩ := hf
  refine ⟨tDGet2 t u w, fun j G => pe_dget2 (by have := G.units; omega) (t1 j G) (u1 j G) (w1 j G) (m j), fun W σ ρ H G Q pk r k => ?_⟩
  refine t2.opnd W σ ρ H G _ pk r ((Got.bind k).imp fun x ρ1 H1 G1 e1 r1 k v vk => ?_)
  by_cases hd : isDct (cont ρ1 x) = true
  · rw [if_pos hd] at k
    cases z : cont ρ1 x with
    | none => rw [z] at hd; cases hd
    | some d =>
      rw [z] at hd
      cases d <;> first | (cases hd; done) | skip
      obtain ⟨a, kvs, rfl, q1, _, _⟩ := (vk.top r1 z).dct r1.gh
      refine ⟨a, rfl, .inl ⟨kvs, q1⟩, ?_⟩
      refine u2.opnd W σ ρ1 H1 G1 _ pk r1 ((Got.bind k).imp fun y ρ2 H2 G2 e2 r2 k v2 vk2 => ?_)
      refine w2.val W σ ρ2 H2 G2 _ pk r2 ((Got.bind k).imp fun dz ρ3 H3 G3 e3 r3 k v3 vk3 => ?_)
      unfold getAt at k
      cases zx : cont ρ3 x with
      | none => rw [zx] at k; exact k.elim
      | some dx =>
        cases zy : cont ρ3 y with
        | none => rw [zx, zy] at k; cases dx <;> exact k.elim
        | some dy =>
          rw [zx, zy] at k
          cases dx <;> first | exact k.elim | skip
          rename_i ks' vs'
          dsimp only at k
          cases zq : keyD dy with
          | none => rw [zq] at k; exact k.elim
          | some q =>
            rw [zq] at k
            obtain ⟨a', kvs', e', q1', q2', q3'⟩ := ((vk.ge (e2.trans e3)).top r3 zx).dct r3.gh
            cases e'
            subst q2'
            have ek := keyD_of ((vk2.ge e3).top r3 zy) zq
            subst ek
            refine ⟨_, .inl ⟨kvs', q, q1', rfl, rfl⟩, k H3 G3 (Ge.refl _) r3 _ ?_⟩
            obtain ⟨g1, g2⟩ := dget_of (q := q) q3'
            cases zv : dgetD (kvs'.map Prod.fst) vs' q with
            | none => rw [g2 zv]; exact vk3
            | some y =>
              obtain ⟨vv, b1, b2⟩ := g1 y zv
              rw [b1]; exact b2
  · rw [if_neg hd] at k; exact k.elim
/-! ## k in d -/
def dinO (neg : Bool) (y x : XV) (ρ : Env) : R XV := match cont ρ y, cont ρ x with
  | some k, some (.dct ks _) => match keyD k with
    | some q => .ok (.dat (.bl (xor neg (hasK q ks)))) ρ
    | none => .stuck
  | _, _ => .stuck
def dinS (neg : Bool) (f g : Env → R XV) : Env → R XV := fun ρ => (opnd f ρ).bind fun y ρ => (opnd g ρ).bind fun x ρ => dinO neg y x ρ
theorem valV_has {q : Key} {kvs : List (Key × V)} : (valV kvs q).isSome = hasK q (kvs.map Prod.fst) := by rw [← valV_any, any_key]
theorem din_at {W : Fm} {σ : St} {ρ : Env} {H G : Hp} {neg : Bool} {y x : XV} {v w : V} {Q : VK} (r : Rel J.C W σ ρ H G) (hy : Wait J.C σ G v y) (hx : Wait J.C σ G w x) (k : Got J W σ G (dinO neg y x ρ) (fun x ρ' H' G' => ∀ v, VOk J.C W σ ρ' H' G' v x → Q v H')) :
    ∃ a o, w = .ref a ∧ DGet H a v o ∧ Q (.bl (xor neg o.isSome)) H := by
  unfold dinO at k
  cases zy : cont ρ y with
  | none => rw [zy] at k; exact k.elim
  | some dy =>
    cases zx : cont ρ x with
    | none => rw [zy, zx] at k; exact k.elim
    | some dx =>
      rw [zy, zx] at k
      cases dx <;> first | exact k.elim | skip
      dsimp only at k
      cases zq : keyD dy with
      | none => rw [zq] at k; exact k.elim
      | some q =>
        rw [zq] at k
        obtain ⟨a, kvs, rfl, q1, rfl, q3⟩ := (hx.top r zx).dct r.gh
        have ek := keyD_of (hy.top r zy) zq
        subst ek
        refine ⟨a, _, rfl, .inl ⟨kvs, q, q1, rfl, rfl⟩, ?_⟩
        rw [valV_has]
        exact k H G (Ge.refl _) r _ (.bl _)
theorem ev_din {t u : TE} (h : EvE J t f) (h' : EvE J u g) : EvE J (tDIn t u) (dinS false f g) := fun W σ ρ H G Q pk r k => by
  refine h.opnd W σ ρ H G _ pk r ((Got.bind k).imp fun y ρ1 H1 G1 e1 r1 k v vk => ?_)
  refine h'.opnd W σ ρ1 H1 G1 _ pk r1 ((Got.bind k).imp fun x ρ2 H2 G2 e2 r2 k w wk => ?_)
  obtain ⟨a, o, q1, q2, q3⟩ := din_at r2 (vk.ge e2) wk k
  exact ⟨a, o, q1, q2, by simpa using q3⟩
theorem ev_dnotin {t u : TE} (h : EvE J t f) (h' : EvE J u g) : EvE J (tDNotIn t u) (dinS true f g) := fun W σ ρ H G Q pk r k => by
  refine h.opnd W σ ρ H G _ pk r ((Got.bind k).imp fun y ρ1 H1 G1 e1 r1 k v vk => ?_)
  refine h'.opnd W σ ρ1 H1 G1 _ pk r1 ((Got.bind k).imp fun x ρ2 H2 G2 e2 r2 k w wk => ?_)
  obtain ⟨a, o, q1, q2, q3⟩ := din_at r2 (vk.ge e2) wk k
  exact ⟨a, o, q1, q2, by simpa using q3⟩
theorem ct_din {a b : Expr} (ha : CE J Xs a f) (hb : CE J Xs b g) (hm : behindInMarks .In b = false := by with_unfolding_all rfl) : CT J Xs (.Compare a [.In] [b] pos) (testS (dinS false f g)) := by
  obtain ⟨t, t1, t2⟩ := ha
  obtain ⟨u, u1, u2⟩ := hb
  exact ⟨_, fun j G => pt_cmp (pc_din (by have := G.units; omega) (t1 j G) (u1 j G)) hm, ev_test (ev_din t2 u2)⟩
theorem ct_dnotin {a b : Expr} (ha : CE J Xs a f) (hb : CE J Xs b g) (hm : behindInMarks .NotIn b = false := by with_unfolding_all rfl) : CT J Xs (.Compare a [.NotIn] [b] pos) (testS (dinS true f g)) := by
  obtain ⟨t, t1, t2⟩ := ha
  obtain ⟨u, u1, u2⟩ := hb
  exact ⟨_, fun j G => pt_cmp (pc_dnotin (by have := G.units; omega) (t1 j G) (u1 j G)) hm, ev_test (ev_dnotin t2 u2)⟩
end
end DL
namespace DL
open PySem L2

/-! ## a dict locked while its keys are walked -/
section
variable {C : Cst} {W : Fm} {σ σ' : St} {ρ ρ' : Env} {H G H' G' : Hp} {a : Addr} {o o' : HO} {i : Nat} {d : D}
theorem Rel.lendTo (r : Rel C W σ ρ H G) (h : ρ.at i = .own d) (hs : σ[i]? = some (some (.ref a))) (ow : OwnR C (upd H a o) G a d) : Rel C (W.lend i a o) σ (ρ.set i (.brw d)) (upd H a o) G := by
  obtain ⟨b, e, h1, h2, h3, h4⟩ := r.own h
  rw [hs] at e; cases e
  have hl : i < ρ.length := own_lt (by rw [h]; intro z; cases z)
  have keep : ∀ b u, b ≠ a → H b = some u → upd H a o b = some u := fun b u z e => by rw [upd_ne z]; exact e
  refine ⟨fun b u e => keep b u (ne_of_none e h2) (r.gh _ _ e), fun b u e => ?_, fun b q => ?_, fun j b q => ?_, fun p hp => ?_, by rw [List.length_set]; exact r.ln, fun j => ?_, fun j k b jk k1 k2 e1 e2 => ?_, fun p hp => ⟨.inr (r.sx p hp).1, keep _ _ (fun z => h4 (z ▸ (r.sx p hp).1)) (r.sx p hp).2⟩, fun p hp => ⟨.inr (r.tb p hp).1, (by rw [lend_ne (fun z : p.1 = a => h4 (z ▸ (r.tb p hp).1))]; exact (r.tb p hp).2.1), (r.tb p hp).2.2.ge (fun _ q => keep _ _ (fun z => h4 (z ▸ (r.tb p hp).1)) q) (Ge.refl _)⟩⟩
  · by_cases z : b = a
    · subst z; rw [show (W.lend i b o).Z b = some o from upd_same] at e; cases e; exact upd_same
    · rw [lend_ne z] at e; exact keep b u z (r.zh _ _ e)
  · by_cases z : b = a
    · subst z; exact ⟨h2, _, upd_same⟩
    · rcases q with q | q
      · exact absurd q z
      · obtain ⟨u, hu⟩ := (r.nn b q).2
        exact ⟨(r.nn b q).1, u, keep b u z hu⟩
  · rcases q with ⟨_, rfl⟩ | q
    · exact ⟨_, upd_same⟩
    · obtain ⟨u, hu⟩ := r.bz j b q
      have z : b ≠ a := fun z => by subst z; rw [h3] at hu; cases hu
      exact ⟨u, by rw [lend_ne z]; exact hu⟩
  · rcases List.mem_cons.mp hp with rfl | hp
    · exact hs
    · exact r.pn p hp
  · rw [Env.at_set hl]
    split
    · rename_i e; subst e
      exact ⟨a, hs, ow.move (fun u q => by rw [upd_same] at q; cases q; exact upd_same) (Ge.refl _), .inl ⟨rfl, rfl⟩⟩
    · rename_i e
      have q := r.at_ j
      cases s : ρ.at j with
      | un => trivial
      | dat d => rw [s] at q; exact q
      | own d' =>
        rw [s] at q
        obtain ⟨b, q1, q2, q3, q4, q5⟩ := q
        have z : b ≠ a := fun z => r.ne j i a e (by rw [s]; rfl) (by rw [h]; rfl) (z ▸ q1) hs
        exact ⟨b, q1, q2.move (fun u q => keep b u z q) (Ge.refl _), q3, by rw [lend_ne z]; exact q4, fun y => y.elim z q5⟩
      | exv _ _ _ => rw [s] at q; exact q
      | clo _ _ => rw [s] at q; exact q
      | brw d' =>
        rw [s] at q
        obtain ⟨b, q1, q2, q3⟩ := q
        refine ⟨b, q1, q2.move (fun u e => ?_) (Ge.refl _), .inr q3⟩
        have z : b ≠ a := fun z => by subst z; rw [h3] at e; cases e
        rw [lend_ne z]; exact e
  · rw [Env.at_set hl] at k1 k2
    refine r.ne j k b jk ?_ ?_ e1 e2
    · split at k1
      · cases k1
      · exact k1
    · split at k2
      · cases k2
      · exact k2
/-- the old object is put back -/
theorem Rel.unlendTo (r : Rel C W σ ρ H G) (h : ρ.at i = .own d) (hs : σ[i]? = some (some (.ref a))) (ho : H a = some o) (g : Ge G G') (r' : Rel C (W.lend i a o') σ' ρ' H' G') (hl : i < ρ'.length) :
    Rel C W σ' (ρ'.set i (.own d)) (upd H' a o) G' ∧ ∀ v x, VOk C (W.lend i a o') σ' ρ' H' G' v x → VOk C W σ' (ρ'.set i (.own d)) (upd H' a o) G' v x := by
  obtain ⟨b, e, h1, h2, h3, h4⟩ := r.own h
  rw [hs] at e; cases e
  have hs' : σ'[i]? = some (some (.ref a)) := r'.pn (i, a) List.mem_cons_self
  have hN := r'.nn a (.inl rfl)
  have hB := r.noB h3
  have ow : Own C (upd H' a o) G' a d := h1.move (fun u q => by rw [ho] at q; cases q; exact upd_same) g
  have keep : ∀ b u, b ≠ a → H' b = some u → upd H' a o b = some u := fun b u z e => by rw [upd_ne z]; exact e
  have oth : ∀ j d', j ≠ i → ρ'.at j = .own d' → ∃ b, σ'[j]? = some (some (.ref b)) ∧ b ≠ a ∧ Own C H' G' b d' ∧ G' b = none ∧ W.Z b = none ∧ ¬ W.N b := fun j d' ji s => by
    obtain ⟨b, q1, q2, q3, q4, q5⟩ := r'.own s
    have z : b ≠ a := fun z => q5 (.inl z)
    rw [lend_ne z] at q4
    exact ⟨b, q1, z, q2, q3, q4, fun y => q5 (.inr y)⟩
  have rel : Rel C W σ' (ρ'.set i (.own d)) (upd H' a o) G' := by
    refine ⟨fun b u e => keep b u (ne_of_none e hN.1) (r'.gh _ _ e), fun b u e => ?_, fun b q => ⟨(r'.nn b (.inr q)).1, ?_⟩, r.bz, fun p hp => r'.pn p (List.mem_cons_of_mem _ hp), by rw [List.length_set]; exact r'.ln, fun j => ?_, fun j k b jk k1 k2 e1 e2 => ?_, fun p hp => ⟨(r.sx p hp).1, keep _ _ (fun z => h4 (z ▸ (r.sx p hp).1)) (r'.sx p hp).2⟩, fun p hp => ⟨(r.tb p hp).1, (r.tb p hp).2.1, (r'.tb p hp).2.2.ge (fun _ q => keep _ _ (fun z => h4 (z ▸ (r.tb p hp).1)) q) (Ge.refl _)⟩⟩
    · have z : b ≠ a := fun z => by subst z; rw [h3] at e; cases e
      exact keep b u z (r'.zh b u (by rw [lend_ne z]; exact e))
    · obtain ⟨u, hu⟩ := (r'.nn b (.inr q)).2
      by_cases z : b = a
      · subst z; exact ⟨_, upd_same⟩
      · exact ⟨u, keep b u z hu⟩
    · rw [Env.at_set hl]
      split
      · rename_i e; subst e
        exact ⟨a, hs', ow, hN.1, h3, h4⟩
      · rename_i e
        have q := r'.at_ j
        cases s : ρ'.at j with
        | un => trivial
        | dat d => rw [s] at q; exact q
        | own d' =>
          obtain ⟨b, q1, z, q2, q3, q4, q5⟩ := oth j d' e s
          exact ⟨b, q1, q2.move (fun u q => keep b u z q) (Ge.refl _), q3, q4, q5⟩
        | exv _ _ _ => rw [s] at q; exact q
        | clo _ _ => rw [s] at q; exact q
        | brw d' =>
          rw [s] at q
          obtain ⟨b, q1, q2, q3⟩ := q
          have q3 : W.B j b := q3.elim (fun y => absurd y.1 e) id
          have z : b ≠ a := fun z => hB j (z ▸ q3)
          exact ⟨b, q1, q2.move (fun u e => by rw [lend_ne z] at e; exact e) (Ge.refl _), q3⟩
    · rw [Env.at_set hl] at k1 k2
      by_cases zj : j = i
      · by_cases zk : k = i
        · exact jk (zj.trans zk.symm)
        · rw [if_neg zk] at k2
          obtain ⟨d', hd⟩ := own_of k2
          obtain ⟨b', q1, q2, _⟩ := oth k d' zk hd
          subst zj
          rw [hs'] at e1; cases e1
          rw [q1] at e2; cases e2
          exact q2 rfl
      · rw [if_neg zj] at k1
        obtain ⟨d', hd⟩ := own_of k1
        obtain ⟨b', q1, q2, _⟩ := oth j d' zj hd
        by_cases zk : k = i
        · subst zk
          rw [hs'] at e2; cases e2
          rw [q1] at e1; cases e1
          exact q2 rfl
        · rw [if_neg zk] at k2
          exact r'.ne j k b jk k1 k2 e1 e2
  refine ⟨rel, fun v x vk => ?_⟩
  cases x with
  | dat d' => exact vk
  | slot n =>
    obtain ⟨v1, v2⟩ := vk
    refine ⟨v1, ?_⟩
    by_cases z : n = i
    · subst z; rw [Env.at_set hl, if_pos rfl]; exact .inl ⟨d, rfl⟩
    · rw [Env.at_set_ne z]; exact v2
  | own d' =>
    obtain ⟨b, rfl, v1, v2, v3, v4, v5⟩ := vk
    have z : b ≠ a := fun z => v4 (.inl z)
    rw [lend_ne z] at v3
    refine ⟨b, rfl, v1.move (fun u q => keep b u z q) (Ge.refl _), v2, v3, fun y => v4 (.inr y), fun n hn en => ?_⟩
    by_cases zn : n = i
    · subst zn; rw [hs'] at en; cases en; exact z rfl
    · rw [Env.at_set_ne zn] at hn
      exact v5 n hn en
end
/-! ## for k in d, [.. for k in d ..]: d a name of ours -/
def lockBack {α : Type} (i : Nat) (d : D) : R α → R α
  | .ok a ρ => .ok a (ρ.set i (.own d))
  | _ => .stuck
def keyDat : Key → D
  | .inl i => .int i
  | .inr s => .str s
def keysS {α : Type} (i : Nat) (body : List D → Env → R α) : Env → R α := fun ρ => match ρ.at i with
  | .own (.dct ks vs) => lockBack i (.dct ks vs) (body (ks.map keyDat) (ρ.set i (.brw (.dct ks vs))))
  | _ => .stuck
theorem key_isD {C : Cst} {G : Hp} (k : Key) : DL.IsD C G (kV k) (keyDat k) := by
  cases k with
  | inl i => exact .int i
  | inr s => exact .str s
theorem walk_keysD {C : Cst} {W : Fm} {G : Hp} {a : Addr} {o : Obj} {kvs : List (Key × V)} (hz : W.Z a = some (.frz o (.dK kvs))) : WalkOk C W G (Itk a o kvs) ((kvs.map Prod.fst).map keyDat) := by
  refine ⟨fun H => H a = some (.frz o (.dK kvs)), fun i H x H' => H' = H ∧ ∃ k v, kvs[i]? = some (k, v) ∧ x = kV k, ?_, fun σ ρ H G' g r => r.zh _ _ hz, fun i d hd W' σ ρ H G' x H' r g y hw => ?_⟩
  · have := walk_keys (d := a) (o := o) (kvs := kvs)
    simpa using this
  · obtain ⟨rfl, k, v, h1, rfl⟩ := y
    refine ⟨G', Ge.refl _, r, ?_⟩
    simp [h1] at hd
    subst hd
    exact key_isD k
section
variable {J : Jd} {W : Fm} {σ : St} {ρ : Env} {H G : Hp} {i : Nat}
theorem mut_dK {kvs : List (Key × V)} : Mut (some (.dK kvs)) := trivial
theorem ev_forK {g : TG} {tb : TS} {ts fg : List Nat} {ft : D → Env → Option Env} {fb : Env → R Out} (hg : EvG (J.pin i) g ts ft) (hb : EvS (J.pin i) tb fb) : EvS J (tLock (tFor (iKeys (tVar i)) g tb)) (keysS i (forL fg ft fb)) := by
  intro W σ ρ H G E pk r h
  unfold keysS at h
  cases s : ρ.at i with
  | un => rw [s] at h; exact h.elim
  | dat d => rw [s] at h; exact h.elim
  | brw d => rw [s] at h; exact h.elim
  | exv _ _ _ => rw [s] at h; exact h.elim
  | clo _ _ => rw [s] at h; exact h.elim
  | own d =>
    rw [s] at h
    cases d <;> first | exact h.elim | skip
    rename_i ks vs
    obtain ⟨a, q1, ⟨kvs, q6, rfl, q8⟩, q3, q4, q5⟩ := r.own s
    refine ⟨a, .dK kvs, q6, mut_dK, fun od => ?_⟩
    have rl := r.lendTo (o := .frz od (.dK kvs)) s q1 ⟨kvs, .inr ⟨od, upd_same⟩, rfl, q8⟩
    refine ⟨_, q1, a, od, rfl, .inl ⟨kvs, upd_same, ?_⟩⟩
    refine for_core (J := J.pin i) (W := W.lend i a (.frz od (.dK kvs))) (fg := fg) (walk_keysD upd_same) rl (lend_pk pk) hg hb ?_
    dsimp only at h
    cases z : forL fg ft fb ((kvs.map Prod.fst).map keyDat) (ρ.set i (.brw (.dct (kvs.map Prod.fst) vs))) with
    | stuck => rw [z] at h; exact h.elim
    | exc c ns ds ρ2 => rw [z] at h; exact h.elim
    | ok x ρ2 =>
      rw [z] at h
      have zz : ∀ {σ' : St} {H' G' : Hp}, Rel J.C (W.lend i a (.frz od (.dK kvs))) σ' ρ2 H' G' → H' a = some (.frz od (.dK kvs)) := fun r' => r'.zh a _ upd_same
      cases x with
      | nx => exact fun σ' H' G' g r' => ⟨zz r', h σ' _ G' g (r.unlendTo s q1 q6 g r' (lend_len r')).1⟩
      | brk => exact fun σ' H' G' g r' => ⟨zz r', h σ' _ G' g (r.unlendTo s q1 q6 g r' (lend_len r')).1⟩
      | cont => exact fun σ' H' G' g r' => ⟨zz r', h σ' _ G' g (r.unlendTo s q1 q6 g r' (lend_len r')).1⟩
      | ret x =>
        intro v σ' H' G' g r' vk
        obtain ⟨u1, u2⟩ := r.unlendTo s q1 q6 g r' (lend_len r')
        exact ⟨zz r', h v σ' _ G' g u1 (u2 v x vk)⟩
theorem ev_lcK {g : TG} {t : TT} {te : TE} {ts vs : List Nat} {ft : D → Env → Option Env} {tt : Env → R Bool} {fe : Env → R XV} (hP : ∀ j ∈ vs, j ∉ (J.pin i).P) (hts : ∀ j ∈ ts, j ∈ vs) (hg : EvG (J.pin i).blk g ts ft) (ht : EvT (J.pin i).blk t tt) (he : EvE (J.pin i).blk te fe) :
    EvE J (tLockE (tLc (iKeys (tVar i)) g t te vs)) (keysS i (lcR vs ft tt fe)) := by
  intro W σ ρ H G Q pk r h
  unfold keysS at h
  cases s : ρ.at i with
  | un => rw [s] at h; exact h.elim
  | dat d => rw [s] at h; exact h.elim
  | brw d => rw [s] at h; exact h.elim
  | exv _ _ _ => rw [s] at h; exact h.elim
  | clo _ _ => rw [s] at h; exact h.elim
  | own d =>
    rw [s] at h
    cases d <;> first | exact h.elim | skip
    rename_i ks ds
    obtain ⟨a, q1, ⟨kvs, q6, rfl, q8⟩, q3, q4, q5⟩ := r.own s
    refine ⟨a, .dK kvs, q6, mut_dK, fun od => ?_⟩
    have rl := r.lendTo (o := .frz od (.dK kvs)) s q1 ⟨kvs, .inr ⟨od, upd_same⟩, rfl, q8⟩
    refine ⟨_, q1, a, od, rfl, .inl ⟨kvs, upd_same, ?_⟩⟩
    refine lc_core (J := J.pin i) (W := W.lend i a (.frz od (.dK kvs))) (Q := fun v H' => H' a = some (.frz od (.dK kvs)) ∧ Q v (upd H' a (.dK kvs))) (walk_keysD upd_same) rl (lend_pk pk) hP hts hg ht he ?_
    dsimp only at h
    cases z : lcR vs ft tt fe ((kvs.map Prod.fst).map keyDat) (ρ.set i (.brw (.dct (kvs.map Prod.fst) ds))) with
    | stuck => rw [z] at h; exact h.elim
    | exc c ns ds ρ2 => rw [z] at h; exact h.elim
    | ok x ρ2 =>
      rw [z] at h
      intro H' G' g r' v vk
      obtain ⟨u1, u2⟩ := r.unlendTo s q1 q6 g r' (lend_len r')
      exact ⟨r'.zh a _ upd_same, h _ G' g u1 v (u2 v x vk)⟩
end
section
variable {ι : Type} {J : Jd} {Xs : ι → Cx} {tg elt : Expr} {body : List Stmt} {ifs : List Expr} {scope : Scope} {own : List (Str × Nat)} {p pos : Pos} {ts vs : List Nat} {x : Str} {ft : D → Env → Option Env} {tt : Env → R Bool} {fe : Env → R XV} {fb : Env → R Out}
variable (i : Nat) (hN : ∀ j, (Xs j).N[i]? = some x := by intro _; rfl) (hv : ∀ j, Vis (Xs j).env.scope x := by first | exact fun _ => Or.inl rfl | exact fun _ => Or.inr (Or.inl rfl) | exact fun _ => Or.inr (Or.inr rfl))
  (hd : (x == ("__debug__" : Str)) = false := by decide) (hcd : (x == ("__classdict__" : Str)) = false := by decide)
include hN hv hd hcd
theorem cs_forK (fg : List Nat) (hg : CG (J.pin i) Xs tg ts ft) (hb : CSs (J.pin i) Xs body fb) (hs : ∀ j y, foldedSetIterable (.Name x p) (Xs j).env y = pure y := by intro _ _; rfl) : CS J Xs (.For tg (.Name x p) body [] pos) (keysS i (forL fg ft fb)) := by
  obtain ⟨g, g1, g2⟩ := hg
  obtain ⟨tb, b1, b2⟩ := hb
  exact ⟨_, fun j G => ps_lock (ps_for G.po G.calm (pi_keys (pe_var (hN j) (hv j) hd hcd)) (g1 j (G.pin i)) (b1 j (G.pin i)) (hs j)), ev_forK g2 b2⟩
theorem ce_lcK (ok : ∀ j, BlkOk (Xs j).N (Xs j).env.scope scope own) (hg : CG (J.pin i).blk (blkF Xs scope) tg ts ft) (ht : CTs (J.pin i).blk (blkF Xs scope) ifs tt) (he : CE (J.pin i).blk (blkF Xs scope) elt fe)
    (hvs : own.map (·.2) = vs) (hts : ∀ j ∈ ts, j ∈ vs) (hP : ∀ j ∈ vs, j ∉ (J.pin i).P) (hs : ∀ j y, foldedSetIterable (.Name x p) (Xs j).env y = pure y := by intro _ _; rfl) : CE J Xs (.ListComp elt [⟨tg, (.Name x p), ifs, 0⟩] scope pos) (keysS i (lcR vs ft tt fe)) := by
  obtain ⟨g, g1, g2⟩ := hg
  obtain ⟨t, t1, t2⟩ := ht
  obtain ⟨te, e1, e2⟩ := he
  subst hvs
  exact ⟨_, fun j G => pe_lock (pe_lc G.calm G.nd (pi_keys (pe_var (hN j) (hv j) hd hcd)) (ok j) (fun s H C cl fp => g1 (j, s, H, C, cl, fp) (G.pin i).blk) (fun s H C cl fp => t1 (j, s, H, C, cl, fp) (G.pin i).blk) (fun s H C cl fp => e1 (j, s, H, C, cl, fp) (G.pin i).blk) (hs j)), ev_lcK hP hts g2 t2 e2⟩
end
end DL
namespace DL
open PySem L2

/-! ## a slot more, for a while -/
theorem Env.at_snoc {ρ : Env} {s : SV} {i : Nat} : Env.at (ρ ++ [s]) i = if i = ρ.length then s else ρ.at i := by
  unfold Env.at
  by_cases h : i < ρ.length
  · rw [List.getElem?_append_left h, if_neg (by omega)]
  · by_cases e : i = ρ.length
    · subst e; simp
    · rw [if_neg e, List.getElem?_eq_none (by simp; omega), List.getElem?_eq_none (by omega)]
section
variable {C : Cst} {W : Fm} {σ : St} {ρ ρ' : Env} {H G : Hp} {a : Addr} {d : D}
theorem Rel.push (r : Rel C W σ ρ H G) (v : VOk C W σ ρ H G (.ref a) (.own d)) : Rel C W (σ ++ [some (.ref a)]) (ρ ++ [.own d]) H G := by
  obtain ⟨b, e, h1, h2, h3, h4, h5⟩ := v
  cases e
  have keep : ∀ i, i ≠ σ.length → (σ ++ [some (V.ref a)])[i]? = σ[i]? := fun i hi => by
    by_cases h : i < σ.length
    · rw [List.getElem?_append_left h]
    · rw [List.getElem?_eq_none (by simp; omega), List.getElem?_eq_none (by omega)]
  have last : (σ ++ [some (V.ref a)])[σ.length]? = some (some (.ref a)) := by simp
  refine ⟨r.gh, r.zh, r.nn, r.bz, fun p hp => ?_, by simp [r.ln], fun i => ?_, fun i j b ij k1 k2 e1 e2 => ?_, r.sx, r.tb⟩
  · have q := r.pn p hp
    have : p.1 < σ.length := (List.getElem?_eq_some_iff.mp q).1
    rw [keep _ (by omega)]; exact q
  · rw [Env.at_snoc]
    by_cases e : i = ρ.length
    · rw [if_pos e, e, ← r.ln, last]; exact ⟨a, rfl, h1, h2, h3, h4⟩
    · rw [if_neg e, keep i (by rw [r.ln]; exact e)]; exact r.at_ i
  · rw [Env.at_snoc] at k1 k2
    by_cases ei : i = ρ.length
    · rw [if_neg (by omega)] at k2
      rw [ei, ← r.ln, last] at e1; cases e1
      rw [keep j (by rw [r.ln]; omega)] at e2
      exact h5 j k2 e2
    · rw [if_neg ei] at k1
      rw [keep i (by rw [r.ln]; exact ei)] at e1
      by_cases ej : j = ρ.length
      · rw [ej, ← r.ln, last] at e2; cases e2
        exact h5 i k1 e1
      · rw [if_neg ej] at k2
        rw [keep j (by rw [r.ln]; exact ej)] at e2
        exact r.ne i j b ij k1 k2 e1 e2
theorem Rel.pop {o : Option V} {n : Nat} (r0 : Rel C W σ ρ H G) {H' G' : Hp} (r : Rel C W (σ ++ [o]) ρ' H' G') (hn : n = σ.length) : Rel C W σ (ρ'.take n) H' G' ∧ (∀ d, ρ'.at n = .own d → ∀ v, o = some v → VOk C W σ (ρ'.take n) H' G' v (.own d)) := by
  subst hn
  have hl : ρ'.length = σ.length + 1 := by rw [← r.ln]; simp
  have tk : ∀ i, Env.at (ρ'.take σ.length) i = if i < σ.length then ρ'.at i else .un := fun i => by
    unfold Env.at
    rw [List.getElem?_take]
    split <;> rfl
  have keep : ∀ i, i < σ.length → (σ ++ [o])[i]? = σ[i]? := fun i h => List.getElem?_append_left h
  refine ⟨⟨r.gh, r.zh, r.nn, r.bz, fun p hp => r0.pn p hp, by rw [List.length_take]; omega, fun i => ?_, fun i j b ij k1 k2 e1 e2 => ?_, r.sx, r.tb⟩, fun d hd v hv => ?_⟩
  · rw [tk]
    split
    · rename_i h
      have := r.at_ i
      rw [keep i h] at this
      exact this
    · trivial
  · rw [tk] at k1 k2
    split at k1
    · split at k2
      · rename_i h1 h2
        exact r.ne i j b ij k1 k2 (by rw [keep i h1]; exact e1) (by rw [keep j h2]; exact e2)
      · cases k2
    · cases k1
  · subst hv
    obtain ⟨a, q1, q2, q3, q4, q5⟩ := r.own hd
    have : v = .ref a := by simpa using q1
    subst this
    refine ⟨a, rfl, q2, q3, q4, q5, fun i hi e => ?_⟩
    rw [tk] at hi
    split at hi
    · rename_i h
      exact r.ne i σ.length a (by omega) hi (by rw [hd]; rfl) (by rw [keep i h]; exact e) (by simp)
    · cases hi
theorem Wait.more {v : V} {x : XV} {o : Option V} (h : Wait C σ G v x) : Wait C (σ ++ [o]) G v x := by
  cases x with
  | dat d => exact h
  | own d => exact h
  | slot i =>
    have h' : σ[i]? = some (some v) := h
    have : i < σ.length := (List.getElem?_eq_some_iff.mp h').1
    show (σ ++ [o])[i]? = some (some v)
    rw [List.getElem?_append_left this]; exact h'
theorem Waits.more {o : Option V} : ∀ {vs : List V} {xs : List XV}, Waits C σ G vs xs → Waits C (σ ++ [o]) G vs xs
  | [], [], _ => trivial
  | _ :: _, _ :: _, h => ⟨h.1.more, Waits.more h.2⟩
  | [], _ :: _, h => h.elim
  | _ :: _, [], h => h.elim
end
/-! ## C(e, ..) -/
def makeF (c : String) (g : FnM) (xs : List XV) (ρ : Env) : R XV := match callF g (.slot ρ.length :: xs) (ρ ++ [.own (.ins c [] [])]) with
  | .ok (.dat .non) ρ1 => match ρ1.at ρ.length with
    | .own d => .ok (.own d) (ρ1.take ρ.length)
    | _ => .stuck
  | .exc c ns vs ρ1 => .exc c ns vs (ρ1.take ρ.length)
  | _ => .stuck
def makeS (c : String) (g : FnM) (fs : Env → R (List XV)) : Env → R XV := fun ρ => (fs ρ).bind fun xs ρ => makeF c g xs ρ
def tMakeS (c : Addr) (sp : Sp) (E : St → XK) (t : TA) : TE := fun σ H Q => t σ H fun vs H1 => ∀ x dx, H1 x = none → H1 dx = none → dx ≠ x →
  sp (.ref x :: vs) (upd (upd H1 dx (.own x)) x (.ins c dx [])) (fun v H2 => v = .non ∧ Q (.ref x) H2) (E σ)
section
variable {X : Cx} {CX : CXT} {k : Nat} {f c : Addr} {fd : FuncData} {ps : List Str} {sp : Sp} {E : St → XK} {x : Str} {p pos : Pos} {e : Expr} {es : List Expr} {t : TA}
theorem pe_makeS (M : Mk X.K c f) (F : FnOk X.prog X.w X.K X.mg X.base CX k f fd ps sp) (hr : Room (k + 1) X.A) (hg : Gl X x) (hm : X.mg x = some (.ref c)) (hb : Binds X.K fd ps []) (hx : ∀ σ, PassesAt CX X σ (E σ))
    (ha : PA X (e :: es) t) (hdb : (x == ("__debug__" : Str)) = false := by decide) (he : starEach (e :: es) X.env = (false, eval e X.env) :: starEach es X.env := by rfl) (hpl : (backTo pos (starEach es X.env)).any (·.1) = false := by rfl) :
    PE X (.Call (.Name x p) (e :: es) [] pos) (tMakeS c sp E t) := by
  refine ⟨fun pins s σ H Q I h => wpAny_Call_Name_kw (ld_glob I hg hm ?_ hdb)⟩
  refine PySem.W.callWith_K (h₀ := X.base) I.ok.mod.kin M.kp (thn (ha.run pos pins s σ H _ I h) fun us s1 ⟨vs, H1, I1, rv, q⟩ => ⟨I1.kIn, ?_⟩) he hpl
  have big := I1.hok.fresh (Nat.le_refl s1.heap.objs.size)
  have hq := q (s1.heap.objs.size + 1) s1.heap.objs.size (I1.hok.fresh (Nat.le_succ _)) big (Nat.ne_of_lt (Nat.lt_succ_self _))
  have I2 := Inv.made (C := c) I1
  have r2 : Vals (V.ref (s1.heap.objs.size + 1) :: vs) (Value.ref (s1.heap.objs.size + 1) :: us) := .cons rfl rv
  have hl : (Value.ref (s1.heap.objs.size + 1) :: us).length = ps.length := by rw [← r2.length]; exact F.len _ _ _ _ hq
  have bnd := hb _ (Value.ref (s1.heap.objs.size + 1) :: us) I2.kIn (by rw [List.append_nil]; exact hl)
  rw [List.append_nil] at bnd
  have run := F.run _ X.stack _ _ ⟨Value.ref (s1.heap.objs.size + 1) :: us, []⟩ (Value.ref (s1.heap.objs.size + 1) :: us) _ _ (E σ) (hr.make c us []) (I2.env0.make c us []) bnd r2 hq
  refine wpAny_call (make_map (f := f) I1.kIn M.makes M.init (beq_iff_eq.mp M.fn) (codeAny_mono run fun r s3 hq' => ?_))
  cases r with
  | error e => exact hx σ pins _ _ e s3 I2 hq'
  | ok fl =>
    cases fl <;> first | exact False.elim hq' | skip
    obtain ⟨v, H', I3, rv, ev, q3⟩ := I2.after hq'
    subst ev
    exact ⟨rv, ⟨V.ref (s1.heap.objs.size + 1), H', I3, rfl, q3⟩⟩
end
section
variable {ι : Type} {J : Jd} {Xs : ι → Cx} {e : Expr} {es : List Expr} {fs : Env → R (List XV)} {g : FnM} {x : Str} {p pos : Pos} {f : Addr} {fd : FuncData} {ps : List Str} {k : Nat}
theorem ev_make {ta : TA} {c : String} {n : Nat} (ha : EvA J ta fs) (hn : ∀ ρ xs ρ', fs ρ = .ok xs ρ' → xs.length = n) : EvE J (tMakeS (J.C.CA c) (spF J.C (n + 1) g) (fun σ => WE J.EW σ) ta) (makeS c g fs) := by
  intro W σ ρ H G Q pk rl h
  refine ha W σ ρ H G _ pk rl ?_
  unfold makeS at h
  cases z : fs ρ with
  | stuck => rw [z] at h; exact h.elim
  | exc c ns ds ρ' => rw [z] at h; exact h
  | ok xs ρ1 =>
    rw [z] at h
    have h := Got.bind h
    intro H1 G1 ge r1 vs wk a dx ha hdx hne
    have r2 := r1.new (o := .own a) hdx
    have ha2 : upd H1 dx (.own a) a = none := by rw [upd_ne (Ne.symm hne)]; exact ha
    have r3 := r2.new (o := .ins (J.C.CA c) dx []) ha2
    have v3 := r2.newV (o := .ins (J.C.CA c) dx []) (d := .ins c [] []) ha2 ⟨dx, [], upd_same, rfl, .nil⟩
    have r4 := r3.push v3
    have hk := h H1 G1 ge r1
    dsimp only at hk
    let J' : Jd := { J with EW := fun cc dd _ H => J.EW cc dd σ H }
    have hw : Waits J'.C (σ ++ [some (.ref a)]) G1 (.ref a :: vs) (.slot ρ1.length :: xs) := by
      refine ⟨?_, wk.more⟩
      show (σ ++ [some (V.ref a)])[ρ1.length]? = some (some (V.ref a))
      rw [← r1.ln]; simp
    refine callF_ok (J := J') (W := W) (σ := σ ++ [some (.ref a)]) (ρ := ρ1 ++ [.own (.ins c [] [])]) (n + 1) (by simp [hn ρ xs ρ1 z]) r4 hw ?_
    unfold makeF at hk
    cases zc : callF g (.slot ρ1.length :: xs) (ρ1 ++ [.own (.ins c [] [])]) with
    | stuck => rw [zc] at hk; exact hk
    | exc cc ns ds ρ2 =>
      rw [zc] at hk
      intro dd H' G' g' r' ex
      exact hk dd H' G' g' (Rel.pop r1 r' r1.ln.symm).1 ex
    | ok y ρ2 =>
      rw [zc] at hk
      cases y <;> first | exact hk.elim | skip
      rename_i d
      cases d <;> first | exact hk.elim | skip
      dsimp only at hk
      intro H' G' g' r' v vk
      cases s : ρ2.at ρ1.length with
      | un => rw [s] at hk; exact hk.elim
      | dat d => rw [s] at hk; exact hk.elim
      | brw d => rw [s] at hk; exact hk.elim
      | exv _ _ _ => rw [s] at hk; exact hk.elim
      | clo _ _ => rw [s] at hk; exact hk.elim
      | own d =>
        rw [s] at hk
        cases vk
        obtain ⟨p1, p2⟩ := Rel.pop r1 r' r1.ln.symm
        exact ⟨rfl, hk H' G' g' p1 _ (p2 d s _ rfl)⟩
/-- C(e, ..), C a class of the text whose __init__ is f -/
theorem ce_make {c : String} (M : Mk J.C.K (J.C.CA c) f) (F : ∀ i, FnOk (Xs i).prog (Xs i).w (Xs i).K (Xs i).mg (Xs i).base (L2.CX (Xs i).prog (Xs i).w) k f fd ps (spF J.C ps.length g)) (hm : ∀ i, (Xs i).mg x = some (.ref (J.C.CA c))) (hb : Binds J.C.K fd ps []) (ha : CA_ J Xs (e :: es) fs)
    (hk : k + 1 ≤ J.k) (hn : ∀ ρ xs ρ', fs ρ = .ok xs ρ' → xs.length + 1 = ps.length)
    (hg : ∀ i, Gl (Xs i) x := by intro _; rfl) (hdb : (x == ("__debug__" : Str)) = false := by decide) (he : ∀ i, starEach (e :: es) (Xs i).env = (false, eval e (Xs i).env) :: starEach es (Xs i).env := by intro _; rfl)
    (hpl : ∀ i, (backTo pos (starEach es (Xs i).env)).any (·.1) = false := by intro _; rfl) : CE J Xs (.Call (.Name x p) (e :: es) [] pos) (makeS c g fs) := by
  obtain ⟨t, h1, h2⟩ := ha
  cases hp : ps.length with
  | zero =>
    refine ⟨_, fun i G => pe_makeS (by rw [G.hK]; exact M) (F i) (G.hr.mono hk) (hg i) (hm i) (by rw [G.hK]; exact hb) (fun σ => passAt G.tk σ) (h1 i G) hdb (he i) (hpl i), ?_⟩
    intro W σ ρ H G Q pk rl h
    unfold makeS at h
    cases z : fs ρ with
    | stuck => rw [z] at h; exact h.elim
    | exc c ns ds ρ' => refine h2 W σ ρ H G _ pk rl ?_; rw [z] at h ⊢; exact h
    | ok xs ρ1 => have := hn ρ xs ρ1 z; omega
  | succ n =>
    rw [hp] at F
    refine ⟨_, fun i G => pe_makeS (by rw [G.hK]; exact M) (F i) (G.hr.mono hk) (hg i) (hm i) (by rw [G.hK]; exact hb) (fun σ => passAt G.tk σ) (h1 i G) hdb (he i) (hpl i), ?_⟩
    exact ev_make h2 fun ρ xs ρ' z => by have := hn ρ xs ρ' z; omega
end
/-! ## y = x, x a name of ours that is not read again -/
def moveS (j i : Nat) : Env → R Out := fun ρ => match ρ.at i with
  | .own d => if i = j then .stuck else .ok .nx ((ρ.set i .un).set j (.own d))
  | _ => .stuck
theorem cs_move {ι : Type} {J : Jd} {Xs : ι → Cx} {x y : Str} {p px pos : Pos} (j i : Nat) (hp : j ∉ J.P) (hN : ∀ l, (Xs l).N[i]? = some x := by intro _; rfl) (hv : ∀ l, Vis (Xs l).env.scope x := by first | exact fun _ => Or.inl rfl | exact fun _ => Or.inr (Or.inl rfl) | exact fun _ => Or.inr (Or.inr rfl))
    (hd : (x == ("__debug__" : Str)) = false := by decide) (hcd : (x == ("__classdict__" : Str)) = false := by decide) (hi : ∀ l, (Xs l).N[j]? = some y := by intro _; rfl) (hx : ∀ l, Loc (Xs l).env.scope y := by first | exact fun _ => Or.inl rfl | exact fun _ => Or.inr rfl)
    (hs : ∀ l, swapsWith (.Name x px) (some (.Name y p)) pos.line (Xs l).env = pure false := by intro _; rfl) (hf : ∀ l, (Xs l).fn y = true ∨ (Xs l).env.scope.names.lookup y = some .local := by first | exact fun _ => Or.inl rfl | exact fun _ => Or.inr rfl) :
    CS J Xs (.Assign [.Name y p] (.Name x px) pos) (moveS j i) := by
  refine ⟨_, fun l G => ps_set G.nd (hi l) (hx l) (pe_var (hN l) (hv l) hd hcd) (hs l) (hf l), fun W σ ρ H G E pk r h => ?_⟩
  unfold moveS at h
  cases s : ρ.at i with
  | un => rw [s] at h; exact h.elim
  | dat d => rw [s] at h; exact h.elim
  | brw d => rw [s] at h; exact h.elim
  | exv _ _ _ => rw [s] at h; exact h.elim
  | clo _ _ => rw [s] at h; exact h.elim
  | own d =>
    rw [s] at h
    dsimp only at h
    split at h
    · exact h.elim
    · obtain ⟨a, q1, q2, q3, q4, q5⟩ := r.own s
      have hil : i < ρ.length := own_lt (by rw [s]; intro z; cases z)
      refine ⟨_, q1, ?_⟩
      have r1 := r.un i
      have v1 : VOk J.C W σ (ρ.set i .un) H G (.ref a) (.own d) := by
        refine ⟨a, rfl, q2, q3, q4, q5, fun n hn e => ?_⟩
        rw [Env.at_set hil] at hn
        split at hn
        · cases hn
        · rename_i ni
          exact r.ne n i a ni hn (by rw [s]; rfl) e q1
      exact h _ H G (Ge.refl _) (r1.setX v1 (fun _ e => by cases e) fun p hp' e => hp (e ▸ pk.1 p hp'))
end DL
namespace DL
open PySem L2

theorem pe_tyN {X : Cx} {x : Str} {n : String} {p : Pos} (hm : X.mg x = none) (hv : bootBuiltins x = some (.type n)) (hg : Gl X x := by rfl) (hn : x ≠ "__name__" := by decide) (hd : (x == ("__debug__" : Str)) = false := by decide) : PE X (.Name x p) (tC (.ty n)) :=
  pe_bltn hg hm hv rfl hn hd
theorem pe_clN {X : Cx} {x : Str} {a : Addr} {p : Pos} (hm : X.mg x = some (.ref a)) (hg : Gl X x := by rfl) (hd : (x == ("__debug__" : Str)) = false := by decide) : PE X (.Name x p) (tC (.ref a)) :=
  pe_glob hg hm rfl hd
/-- how many arguments there are -/
def LenA (fs : Env → R (List XV)) (n : Nat) : Prop := ∀ ρ xs ρ', fs ρ = .ok xs ρ' → xs.length = n
theorem LenA.nil : LenA nilS 0 := fun ρ xs ρ' e => by cases e; rfl
theorem bind_ok {α β : Type} {r : R α} {g : α → Env → R β} {y : β} {ρ' : Env} (h : r.bind g = .ok y ρ') : ∃ x ρ1, r = .ok x ρ1 ∧ g x ρ1 = .ok y ρ' := by
  cases r with
  | ok x ρ1 => exact ⟨x, ρ1, rfl, h⟩
  | exc c ns vs ρ => cases h
  | stuck => cases h
theorem LenA.cons {f : Env → R XV} {fs : Env → R (List XV)} {n : Nat} (h : LenA fs n) : LenA (consS f fs) (n + 1) := fun ρ xs ρ' e => by
  obtain ⟨x, ρ1, _, e⟩ := bind_ok e
  obtain ⟨ys, ρ2, e1, e⟩ := bind_ok e
  cases e
  rw [List.length_cons, h _ _ _ e1]
theorem LenA.consD {f : Env → R XV} {fs : Env → R (List XV)} {n : Nat} (h : LenA fs n) : LenA (consD f fs) (n + 1) := fun ρ xs ρ' e => by
  obtain ⟨x, ρ1, _, e⟩ := bind_ok e
  obtain ⟨ys, ρ2, e1, e⟩ := bind_ok e
  cases e
  rw [List.length_cons, h _ _ _ e1]
/-! ## (a, b) = a tuple -/
def asgT (f : Env → R XV) (ft : D → Env → Option Env) : Env → R Out := fun ρ => (valS f ρ).bind fun d ρ => match ft d ρ with
  | some ρ' => .ok .nx ρ'
  | none => .stuck
theorem cs_asgT {ι : Type} {J : Jd} {Xs : ι → Cx} {e tg : Expr} {f : Env → R XV} {pos : Pos} {ts : List Nat} {ft : D → Env → Option Env} (h : CE J Xs e f) (hg : CG J Xs tg ts ft)
    (hs : ∀ j, swapsWithSole [tg] e pos.line (Xs j).env = pure false := by intro _; rfl) (hw : ∀ j, swappedStores [tg] e (Xs j).env = pure none := by intro _; rfl)
    (h1 : ∀ j, (assignEach [tg] (Xs j).env).map (·.2) = [assign tg (Xs j).env] := by intro _; rfl) : CS J Xs (.Assign [tg] e pos) (asgT f ft) := by
  obtain ⟨t, t1, t2⟩ := h
  obtain ⟨u, u1, u2⟩ := hg
  refine ⟨tAsg t u, fun j G => ps_asg (t1 j G) (u1 j G) (hs j) (hw j) (h1 j), fun W σ ρ H G E pk r h => ?_⟩
  refine t2.val W σ ρ H G _ pk r ((GotS.bind h).imp fun d ρ1 H1 G1 e1 r1 k v vk => ?_)
  cases z : ft d ρ1 with
  | none => rw [z] at k; exact k.elim
  | some ρ2 =>
    rw [z] at k
    exact u2 W σ ρ1 H1 G1 v d ρ2 _ pk r1 vk z fun σ' _ r2 => k σ' H1 G1 (Ge.refl _) r2
/-! ## the built-in classes that are asked for -/
def tyInt : IsiT := tyTab [("int", true), ("bool", true), ("str", false), ("NoneType", false), ("tuple", false), ("list", false)]
def tyBool : IsiT := tyTab [("int", false), ("bool", true), ("str", false), ("NoneType", false), ("tuple", false), ("list", false)]
def tyTuple : IsiT := tyTab [("int", false), ("bool", false), ("str", false), ("NoneType", false), ("tuple", true), ("list", false)]
def tyList : IsiT := tyTab [("int", false), ("bool", false), ("str", false), ("NoneType", false), ("tuple", false), ("list", true)]
def tyStr : IsiT := tyTab [("int", false), ("bool", false), ("str", true), ("NoneType", false), ("tuple", false), ("list", false)]
theorem tyInt_ok {C : Cst} : IsiOk C tyInt (.type "int") := tyTab_ok (by decide +kernel)
theorem tyBool_ok {C : Cst} : IsiOk C tyBool (.type "bool") := tyTab_ok (by decide +kernel)
theorem tyTuple_ok {C : Cst} : IsiOk C tyTuple (.type "tuple") := tyTab_ok (by decide +kernel)
theorem tyList_ok {C : Cst} : IsiOk C tyList (.type "list") := tyTab_ok (by decide +kernel)
theorem tyStr_ok {C : Cst} : IsiOk C tyStr (.type "str") := tyTab_ok (by decide +kernel)
theorem boot_tInt : bootBuiltins "int" = some (.type "int") := by decide +kernel
theorem boot_tBool : bootBuiltins "bool" = some (.type "bool") := by decide +kernel
theorem boot_tTuple : bootBuiltins "tuple" = some (.type "tuple") := by decide +kernel
theorem boot_tList : bootBuiltins "list" = some (.type "list") := by decide +kernel
theorem boot_tStr : bootBuiltins "str" = some (.type "str") := by decide +kernel
end DL
namespace DL
open PySem L2

/-! ## VE.__init__(self, ..), VE an own class that inherits ValueError's -/
structure VInit (K : PySem.W.Frag) (VE : Addr) : Prop where
  rd : PySem.W.readsIn K VE (.type "type") = true
  ga : PySem.W.specialIn K (.ref VE) "__getattribute__" = some (some (.builtin "type.__getattribute__"))
  at_ : PySem.W.findCls K (.ref VE) (.type "type") "__init__" = some (.val (.builtin "ValueError.__init__"))
theorem pe_vtinit {X : Cx} {x : Str} {VE : Addr} {p1 p2 pos : Pos} {e : Expr} {es : List Expr} {ta : TA} {pl : Sem Bool} (hg : Gl X x) (hm : X.mg x = some (.ref VE)) (vV : VInit X.K VE) (ha : PA X (e :: es) ta)
    (hc : eval (.Call (.Attribute (.Name x p1) "__init__" p2) (e :: es) [] pos) X.env = (do
      let ov ← eval (.Name x p1) X.env
      standAt p2.atName
      let (f, first) ← holding [ov] (getMethod ov "__init__" pl)
      callWith pos f first (backTo pos (starEach (e :: es) X.env)) (backToKw pos (keywordEach [] X.env))) := by rfl)
    (hdb : (x == ("__debug__" : Str)) = false := by decide) (he : starEach (e :: es) X.env = (false, eval e X.env) :: starEach es X.env := by rfl) (hpl : (backTo pos (starEach es X.env)).any (·.1) = false := by rfl) :
    PE X (.Call (.Attribute (.Name x p1) "__init__" p2) (e :: es) [] pos) (tVeI X.K ta) := by
  refine ⟨fun pins s σ H Q I h => PySem.W.methodCall_KW (ld_glob I hg hm ?_ hdb) hc⟩
  refine PySem.W.method_cls I.kIn vV.ga (PySem.W.cls_value I.kIn vV.rd vV.at_ (by decide +kernel) ?_)
  show wpAny _ _ (callWith pos (Value.builtin "ValueError.__init__") [] (backTo pos (starEach (e :: es) X.env)) []) _ _ _
  refine PyProof.Rows.callWith_method1 (thn (ha.run pos pins _ σ H _ (I.tok _) h) fun us s1 ⟨vs, H1, I1, r1, a, C, ws, ev, hl, T, ea, q⟩ => ?_) he hpl
  subst ev
  cases r1 with
  | @cons _ u0 _ ur ra rw' =>
    obtain rfl : u0 = Value.ref a := ra
    have hlen : ur.length ≤ sizeLine := by have := Paired.length rw'; rw [sizeLine_eq]; omega
    exact oinit_ok T I1 ea hlen fun s2 J => ⟨V.non, H1, J, rfl, q⟩

/-! ## an exception's own __init__: the base's, then self.f = f .. -/
def stT (K : PySem.W.Frag) : List (Str × Nat) → TS
  | [] => fun D σ H => D.nx σ H
  | (f, i) :: l => fun D => tOst K f (tVar 0) (tVar i) { D with nx := stT K l D }
def inT (K : PySem.W.Frag) (x : Str) (l : List (Str × Nat)) : TS := fun D => (fun D σ H => tVeI K (tCons (tVar 0) (tCons (tC (.str x)) tNil)) σ H fun _ H' => D.nx σ H') { D with nx := stT K l D }
/-- the fields as they stand behind the stores -/
def fldX : List (Str × Nat) → List V → List (Str × V) → List (Str × V)
  | (f, _) :: l, y :: ys, fs => fldX l ys ((f, y) :: fs)
  | _, _, fs => fs
def AtX (C a dx : Addr) (fs : List (Str × V)) (H0 H : Hp) : Prop := H a = some (exo a C (some dx)) ∧ H dx = some (exd dx fs) ∧ ∀ b, b ≠ a → b ≠ dx → H b = H0 b
inductive Slots (σ : St) : List (Str × Nat) → List V → Prop
  | nil : Slots σ [] []
  | cons {f : Str} {i : Nat} {l : List (Str × Nat)} {y : V} {ys : List V} : σ[i]? = some (some y) → Slots σ l ys → Slots σ ((f, i) :: l) (y :: ys)
theorem Slots.len {σ : St} : ∀ {l : List (Str × Nat)} {ys : List V}, Slots σ l ys → l.length = ys.length
  | _, _, .nil => rfl
  | _, _, .cons _ h => by simp [h.len]
theorem run_st {K : PySem.W.Frag} {C a dx : Addr} {σ : St} {D : Ends} {H0 : Hp} (T : OexC K C) (hs : σ[0]? = some (some (.ref a))) (hne : dx ≠ a) : ∀ {l : List (Str × Nat)} {ys : List V} {fs : List (Str × V)} {H : Hp}, Slots σ l ys → (∀ p ∈ l, PySem.W.findIn K (.ref C) p.1 = some none) →
    fs.length + l.length ≤ 900 → AtX C a dx fs H0 H → (∀ H', AtX C a dx (fldX l ys fs) H0 H' → D.nx σ H') → stT K l D σ H
  | [], _, fs, H, .nil, _, _, hA, k => k H hA
  | (f, i) :: l, _, fs, H, .cons h1 h2, hn, hl, hA, k => by
    simp at hl
    refine ⟨_, h1, _, hs, a, C, rfl, T, hn _ List.mem_cons_self, .inr ⟨dx, fs, hA.1, hA.2.1, by omega, ?_⟩⟩
    refine run_st T hs hne h2 (fun p hp => hn p (List.mem_cons_of_mem _ hp)) (by simp; omega) ⟨?_, upd_same, fun b h3 h4 => ?_⟩ k
    · rw [upd_ne (Ne.symm hne)]; exact hA.1
    · rw [upd_ne h4]; exact hA.2.2 b h3 h4
/-- what such an __init__ promises -/
def spX (K : PySem.W.Frag) (C : Addr) (l : List (Str × Nat)) : Sp := fun vs H Q _ => ∃ (a : Addr) (ys : List V), vs = .ref a :: ys ∧ ys.length = l.length ∧ H a = some (exo a C none) ∧ ∀ dx H', H dx = none → dx ≠ a → AtX C a dx (fldX l ys []) H H' → Q .non H'
theorem run_in {K : PySem.W.Frag} {C a : Addr} {σ : St} {D : Ends} {H : Hp} {x f : Str} {i : Nat} {l : List (Str × Nat)} {y : V} {ys : List V} (T : OexC K C) (hs : σ[0]? = some (some (.ref a))) (h : Slots σ ((f, i) :: l) (y :: ys)) (hn : ∀ p ∈ (f, i) :: l, PySem.W.findIn K (.ref C) p.1 = some none) (hl : l.length ≤ 800)
    (ha : H a = some (exo a C none)) (k : ∀ dx H', H dx = none → dx ≠ a → AtX C a dx (fldX ((f, i) :: l) (y :: ys) []) H H' → D.nx σ H') : inT K x ((f, i) :: l) D σ H := by
  cases h with
  | cons h1 h2 =>
    refine ⟨_, hs, a, C, [V.str x], rfl, by simp, T, ha, ?_⟩
    refine ⟨_, h1, _, hs, a, C, rfl, T, hn _ List.mem_cons_self, .inl ⟨ha, fun dx hdx hne => ?_⟩⟩
    refine run_st T hs hne h2 (fun p hp => hn p (List.mem_cons_of_mem _ hp)) (by simp; omega) (H0 := H) ⟨upd_same, ?_, fun b h3 h4 => ?_⟩ fun H' hA => k dx H' hdx hne hA
    · rw [upd_ne hne, upd_same]
    · rw [upd_ne h3, upd_ne h4]

/-! ## raise C(e, ..) -/
/-- the fields in the order of the exception's dict -/
def nmX (fs : List Str) : List Str := fs.reverse
def raiseO (c : String) (fs : List Str) (xs : List XV) (ρ : Env) : R Out := match datsOf xs with
  | some ds => if ds.length = fs.length then .exc c fs.reverse ds.reverse ρ else .stuck
  | none => .stuck
def raiseS (c : String) (fs : List Str) (f : Env → R (List XV)) : Env → R Out := fun ρ => (f ρ).bind (raiseO c fs)
theorem fldX_eq : ∀ (l : List (Str × Nat)) (ys : List V) (fs : List (Str × V)), l.length = ys.length → (fldX l ys fs).map Prod.fst = (l.map Prod.fst).reverse ++ fs.map Prod.fst ∧ (fldX l ys fs).map Prod.snd = ys.reverse ++ fs.map Prod.snd
  | [], [], fs, _ => ⟨rfl, rfl⟩
  | (f, i) :: l, y :: ys, fs, h => by
    obtain ⟨h1, h2⟩ := fldX_eq l ys ((f, y) :: fs) (by simpa using h)
    simp only [fldX]
    rw [h1, h2]
    simp
  | [], _ :: _, _, h => by simp at h
  | _ :: _, [], _, h => by simp at h
theorem IsDs.reverse {C : Cst} {G : Hp} : ∀ {vs : List V} {ds : List D}, IsDs C G vs ds → IsDs C G vs.reverse ds.reverse
  | _, _, .nil => .nil
  | _, _, .cons a h => by rw [List.reverse_cons, List.reverse_cons]; exact h.reverse.append (.cons a .nil)
section
variable {ι : Type} {J : Jd} {Xs : ι → Cx} {e : Expr} {es : List Expr} {fs : Env → R (List XV)} {x : Str} {p pos rpos : Pos} {f : Addr} {fd : FuncData} {ps : List Str} {k : Nat}
theorem cs_raise {c : String} {l : List (Str × Nat)} (T : OexC J.C.K (J.C.CA c)) (iC : PySem.W.findIn J.C.K (.ref (J.C.CA c)) "__init__" = some (some (.ref f))) (tI : PySem.W.typeIn J.C.K (.ref f) = some (.type "function"))
    (F : ∀ i, FnOk (Xs i).prog (Xs i).w (Xs i).K (Xs i).mg (Xs i).base (L2.CX (Xs i).prog (Xs i).w) k f fd ps (spX J.C.K (J.C.CA c) l)) (hm : ∀ i, (Xs i).mg x = some (.ref (J.C.CA c))) (hb : Binds J.C.K fd ps []) (ha : CA_ J Xs (e :: es) fs) (hk : k + 1 ≤ J.k) (hl : l.length ≤ 900)
    (hg : ∀ i, Gl (Xs i) x := by intro _; rfl) (hdb : (x == ("__debug__" : Str)) = false := by decide) (he : ∀ i, starEach (e :: es) (Xs i).env = (false, eval e (Xs i).env) :: starEach es (Xs i).env := by intro _; rfl)
    (hpl : ∀ i, (backTo pos (starEach es (Xs i).env)).any (·.1) = false := by intro _; rfl) : CS J Xs (.Raise (some (.Call (.Name x p) (e :: es) [] pos)) none rpos) (raiseS c (l.map Prod.fst) fs) := by
  obtain ⟨t, h1, h2⟩ := ha
  refine ⟨fun _ σ H => tMkO (J.C.CA c) (spX J.C.K (J.C.CA c) l) [] t σ H fun cls d H' => J.EW cls d σ H', fun i G => ?_, fun W σ ρ H G E pk r h => ?_⟩
  · exact ps_raise G.calm G.tk (pmk_oex (by rw [G.hK]; exact T) (by rw [G.hK]; exact iC) (by rw [G.hK]; exact tI) (F i) (G.hr.mono hk) (by rw [G.hK]; exact hb) .nil (fun pins σ H s e s' I c => by obtain ⟨_, _, _, _, _, _, _, _, _, _, _, _, hE⟩ := c; exact hE.elim) (hg i) (hm i) (h1 i G) hdb (he i) (hpl i))
  · refine h2 W σ ρ H G _ pk r ((GotS.bind h).imp fun xs ρ1 H1 G1 e1 r1 kk vs vk => ?_)
    unfold raiseO at kk
    cases z : datsOf xs with
    | none => rw [z] at kk; exact kk.elim
    | some ds =>
      rw [z] at kk
      dsimp only at kk
      split at kk
      · rename_i hlen
        have hd := dats_of vk z
        have hvl : vs.length = l.length := by rw [hd.length, hlen, List.length_map]
        refine ⟨by omega, fun a ha => ⟨a, vs, by rw [List.append_nil], hvl, upd_same, fun dx H' hdx hne hA => ⟨rfl, dx, _, hA.1, hA.2.1, ?_, ?_⟩⟩⟩
        · rw [upd_ne hne] at hdx; exact hdx
        · have hdx' : H1 dx = none := by rw [upd_ne hne] at hdx; exact hdx
          have eH : upd (del H' a) dx (.xd (fldX l vs [])) = upd H1 dx (.xd (fldX l vs [])) := by
            funext b
            by_cases zb : b = dx
            · subst zb; rw [upd_same, upd_same]
            · rw [upd_ne zb, upd_ne zb]
              by_cases za : b = a
              · subst za; rw [del_same, ha]
              · rw [del_ne za, hA.2.2 b za zb, upd_ne za]
          rw [eH]
          obtain ⟨f1, f2⟩ := fldX_eq l vs [] hvl.symm
          refine kk (some dx) σ _ _ (Ge.upd (r1.gNone hdx')) (r1.frz hdx') ⟨dx, _, rfl, upd_same, ?_, ?_⟩
          · rw [f1]; simp
          · rw [f2]; simpa using hd.reverse.ge (Ge.upd (r1.gNone hdx'))
      · exact kk.elim
end
end DL
namespace DL
open PySem L2

/-! ## known objects that are tracked for a while -/
def addS (H : Hp) (S : Addr → Option Obj) : Hp := fun a => match S a with
  | some o => some (.frz o xTrue)
  | none => H a
def subS (H : Hp) (S : Addr → Option Obj) : Hp := fun a => match S a with
  | some _ => none
  | none => H a
theorem addS_some {H : Hp} {S : Addr → Option Obj} {a : Addr} {o : Obj} (h : S a = some o) : addS H S a = some (.frz o xTrue) := by unfold addS; rw [h]
theorem addS_none {H : Hp} {S : Addr → Option Obj} {a : Addr} (h : S a = none) : addS H S a = H a := by unfold addS; rw [h]
theorem subS_some {H : Hp} {S : Addr → Option Obj} {a : Addr} {o : Obj} (h : S a = some o) : subS H S a = none := by unfold subS; rw [h]
theorem subS_none {H : Hp} {S : Addr → Option Obj} {a : Addr} (h : S a = none) : subS H S a = H a := by unfold subS; rw [h]
theorem subS_of {H : Hp} {S : Addr → Option Obj} {a : Addr} {o : HO} (h : subS H S a = some o) : H a = some o ∧ S a = none := by
  cases z : S a with
  | none => rw [subS_none z] at h; exact ⟨h, rfl⟩
  | some u => rw [subS_some z] at h; cases h
section
variable {P : Program} {w : World} {K : PySem.W.Frag} {mg : Str → Option Value} {base : Heap} {A : Around} {outer : List PySem.Env} {s s' : Shared} {H H' : Hp} {S : Addr → Option Obj} {h h' : Heap} {B : Heap} {fs : List Addr}
theorem frz_ok {a : Addr} {o : Obj} (e : h.get? a = some o) : ObjOk P w H h a (.frz o xTrue) := ⟨e, trivial, ⟨o, e⟩, fun _ _ _ _ => trivial⟩
theorem hok_addS (k : HOk P w H h) (hS : ∀ a o, S a = some o → h.get? a = some o ∧ H a = none) : HOk P w (addS H S) h := fun a u e => by
  cases z : S a with
  | some o => rw [addS_some z] at e; cases e; exact frz_ok (hS a o z).1
  | none =>
    rw [addS_none z] at e
    refine (k a u e).stay (fun _ _ _ q => q) (fun b q => ?_) fun b xs q => ?_
    · cases y : S b with
      | some o => rw [(hS b o y).2] at q; cases q
      | none => rw [addS_none y]; exact q
    · cases y : S b with
      | some o => rw [(hS b o y).2] at q; cases q
      | none => rw [addS_none y]; exact q
theorem hok_subS (k : HOk P w H h) (hS : ∀ a o, S a = some o → H a = some (.frz o xTrue)) : HOk P w (subS H S) h := fun a u e => by
  obtain ⟨e, z⟩ := subS_of e
  refine (k a u e).stay (fun _ _ _ q => q) (fun b q => ?_) fun b xs q => ?_
  · cases y : S b with
    | some o => rw [hS b o y] at q; cases q
    | none => rw [subS_none y]; exact q
  · cases y : S b with
    | some o => rw [hS b o y] at q; cases q
    | none => rw [subS_none y]; exact q
theorem env0_addS (e : Env0 P w K mg base A outer s H) (hS : ∀ a o, S a = some o → s.heap.get? a = some o ∧ H a = none) (hb : ∀ a o, S a = some o → base.get? a = none) (hf : ∀ a o, S a = some o → a ∉ frs outer) : Env0 P w K mg base A outer s (addS H S) :=
  ⟨e.frames, e.mod, fun b o q => ⟨(e.bs b o q).1, by
    cases y : S b with
    | some o => rw [hb b o y] at q; cases q
    | none => rw [addS_none y]; exact (e.bs b _ q).2⟩, e.bsz, e.funs, fun b q => by
    cases y : S b with
    | some o => exact absurd q (hf b o y)
    | none => rw [addS_none y]; exact e.frf b q, hok_addS e.hok hS, e.bare⟩
theorem env0_subS (e : Env0 P w K mg base A outer s H) (hS : ∀ a o, S a = some o → H a = some (.frz o xTrue)) : Env0 P w K mg base A outer s (subS H S) :=
  ⟨e.frames, e.mod, fun b o q => ⟨(e.bs b o q).1, by
    cases y : S b with
    | some o => exact subS_some y
    | none => rw [subS_none y]; exact (e.bs b _ q).2⟩, e.bsz, e.funs, fun b q => by
    cases y : S b with
    | some o => exact subS_some y
    | none => rw [subS_none y]; exact e.frf b q, hok_subS e.hok hS, e.bare⟩
/-! ### a callee that sees more -/
theorem Un_lessS (u : Un fs [] (addS H S) H' h h') (hS : ∀ a o, S a = some o → h.get? a = some o ∧ H a = none) (hk : HOk P w H' h') : Un fs [] H (subS H' S) h h' where
  keep := fun b o q n hb hx => by
    cases y : S b with
    | none => exact u.keep b o q (by rw [addS_none y]; exact n) hb hx
    | some ob =>
      obtain ⟨e1, _⟩ := hk b _ (u.frzs b ob _ (addS_some y))
      rw [(hS b ob y).1] at q; cases q
      exact e1
  slot := fun b o q n hb hx => by
    cases y : S b with
    | none => exact u.slot b o q (by rw [addS_none y]; exact n) hb hx
    | some ob =>
      obtain ⟨e1, _⟩ := hk b _ (u.frzs b ob _ (addS_some y))
      rw [(hS b ob y).1] at q; cases q
      exact ⟨_, e1⟩
  free := fun b o q n hx => by
    cases y : S b with
    | none => rw [subS_none y]; exact u.free b o q (by rw [addS_none y]; exact n) hx
    | some ob => exact subS_some y
  there := u.there
  tups := fun b xs q => by
    cases y : S b with
    | none => rw [subS_none y]; exact u.tups b xs (by rw [addS_none y]; exact q)
    | some ob => rw [(hS b ob y).2] at q; cases q
  frzs := fun b o xs q => by
    cases y : S b with
    | none => rw [subS_none y]; exact u.frzs b o xs (by rw [addS_none y]; exact q)
    | some ob => rw [(hS b ob y).2] at q; cases q
  tbls := fun b ps q => by
    cases y : S b with
    | none => rw [subS_none y]; exact u.tbls b ps (by rw [addS_none y]; exact q)
    | some ob => rw [(hS b ob y).2] at q; cases q
theorem UB_lessS (u : UB fs (addS H S) H' h B h') (hS : ∀ a o, S a = some o → h.get? a = some o ∧ H a = none) (hk : HOk P w H' B) : UB fs H (subS H' S) h B h' where
  keep := fun b o q n hb => by
    cases y : S b with
    | none => exact u.keep b o q (by rw [addS_none y]; exact n) hb
    | some ob =>
      obtain ⟨e1, _⟩ := hk b _ (u.frzs b ob _ (addS_some y))
      rw [(hS b ob y).1] at q; cases q
      exact e1
  slot := u.slot
  free := fun b o q n => by
    cases y : S b with
    | none => rw [subS_none y]; exact u.free b o q (by rw [addS_none y]; exact n)
    | some ob => exact subS_some y
  there := u.there
  tups := fun b xs q => by
    cases y : S b with
    | none => rw [subS_none y]; exact u.tups b xs (by rw [addS_none y]; exact q)
    | some ob => rw [(hS b ob y).2] at q; cases q
  frzs := fun b o xs q => by
    cases y : S b with
    | none => rw [subS_none y]; exact u.frzs b o xs (by rw [addS_none y]; exact q)
    | some ob => rw [(hS b ob y).2] at q; cases q
  tbls := fun b ps q => by
    cases y : S b with
    | none => rw [subS_none y]; exact u.tbls b ps (by rw [addS_none y]; exact q)
    | some ob => rw [(hS b ob y).2] at q; cases q
theorem frz_keep {H1 H2 : Hp} {fs ex : List Addr} (u : Un fs ex (addS H1 S) H2 h h') : ∀ a o, S a = some o → H2 a = some (.frz o xTrue) := fun a o e => u.frzs a o _ (addS_some e)
theorem cr_add {Q : VK} {E : XK} {r : Result} (hS : ∀ a o, S a = some o → s.heap.get? a = some o ∧ H a = none)
    (c : CR (L2.CX P w) outer P w (addS H S) s (fun v H' => Q v (subS H' S)) (fun cls d H' => E cls d (subS H' S)) r s') : CR (L2.CX P w) outer P w H s Q E r s' := by
  cases r with
  | ok fl =>
    cases fl with
    | ret u =>
      obtain ⟨v, H', os, bare, un, hok, rv, q⟩ := c
      exact ⟨v, _, os, bare, Un_lessS un hS hok, hok_subS hok (frz_keep un), rv, q⟩
    | next => exact c
    | brk => exact c
    | cont => exact c
  | error e =>
    obtain ⟨a, B, H', cls, d, e1, fl, hok, ub, na, os, ag, q⟩ := c
    refine ⟨a, B, _, cls, d, e1, fl, hok_subS hok (fun a o e => ub.frzs a o _ (addS_some e)), UB_lessS ub hS hok, ?_, os, ag, q⟩
    cases y : S a with
    | none => rw [subS_none y]; exact na
    | some ob => exact subS_some y
/-! ### a callee that sees less -/
theorem Un_moreS (u : Un fs [] (subS H S) H' h h') (hS : ∀ a o, S a = some o → H a = some (.frz o xTrue)) (hk : HOk P w H h) : Un fs [] H (addS H' S) h h' where
  keep := fun b o q n hb hx => by
    cases y : S b with
    | none => exact u.keep b o q (by rw [subS_none y]; exact n) hb hx
    | some ob => rw [hS b ob y] at n; cases n
  slot := fun b o q n hb hx => by
    cases y : S b with
    | none => exact u.slot b o q (by rw [subS_none y]; exact n) hb hx
    | some ob => rw [hS b ob y] at n; cases n
  free := fun b o q n hx => by
    cases y : S b with
    | none => rw [addS_none y]; exact u.free b o q (by rw [subS_none y]; exact n) hx
    | some ob => rw [hS b ob y] at n; cases n
  there := u.there
  tups := fun b xs q => by
    cases y : S b with
    | none => rw [addS_none y]; exact u.tups b xs (by rw [subS_none y]; exact q)
    | some ob => rw [hS b ob y] at q; cases q
  frzs := fun b o xs q => by
    cases y : S b with
    | none => rw [addS_none y]; exact u.frzs b o xs (by rw [subS_none y]; exact q)
    | some ob => rw [hS b ob y] at q; cases q; exact addS_some y
  tbls := fun b ps q => by
    cases y : S b with
    | none => rw [addS_none y]; exact u.tbls b ps (by rw [subS_none y]; exact q)
    | some ob => rw [hS b ob y] at q; cases q
theorem UB_moreS (u : UB fs (subS H S) H' h B h') (hS : ∀ a o, S a = some o → H a = some (.frz o xTrue)) : UB fs H (addS H' S) h B h' where
  keep := fun b o q n hb => by
    cases y : S b with
    | none => exact u.keep b o q (by rw [subS_none y]; exact n) hb
    | some ob => rw [hS b ob y] at n; cases n
  slot := u.slot
  free := fun b o q n => by
    cases y : S b with
    | none => rw [addS_none y]; exact u.free b o q (by rw [subS_none y]; exact n)
    | some ob => rw [hS b ob y] at n; cases n
  there := u.there
  tups := fun b xs q => by
    cases y : S b with
    | none => rw [addS_none y]; exact u.tups b xs (by rw [subS_none y]; exact q)
    | some ob => rw [hS b ob y] at q; cases q
  frzs := fun b o xs q => by
    cases y : S b with
    | none => rw [addS_none y]; exact u.frzs b o xs (by rw [subS_none y]; exact q)
    | some ob => rw [hS b ob y] at q; cases q; exact addS_some y
  tbls := fun b ps q => by
    cases y : S b with
    | none => rw [addS_none y]; exact u.tbls b ps (by rw [subS_none y]; exact q)
    | some ob => rw [hS b ob y] at q; cases q
/-- the wishes are told what is not tracked -/
def Bare (S : Addr → Option Obj) (H : Hp) : Prop := ∀ a o, S a = some o → H a = none
theorem cr_sub {Q : VK} {E : XK} {r : Result} (hS : ∀ a o, S a = some o → H a = some (.frz o xTrue)) (hk : HOk P w H s.heap) (hf : ∀ b ∈ frs outer, H b = none)
    (c : CR (L2.CX P w) outer P w (subS H S) s (fun v H' => Bare S H' → Q v (addS H' S)) (fun cls d H' => Bare S H' → E cls d (addS H' S)) r s') : CR (L2.CX P w) outer P w H s Q E r s' := by
  have old : ∀ a o, S a = some o → s.heap.get? a = some o := fun a o e => (hk a _ (hS a o e)).1
  have nf : ∀ a o, S a = some o → a ∉ frs outer := fun a o e z => by have := hf a z; rw [hS a o e] at this; cases this
  cases r with
  | ok fl =>
    cases fl with
    | ret u =>
      obtain ⟨v, H', os, bare, un, hok, rv, q⟩ := c
      have br : Bare S H' := fun a o e => un.free a o (old a o e) (subS_some e) (by simp)
      exact ⟨v, _, os, bare, Un_moreS un hS hk, hok_addS hok fun a o e => ⟨un.keep a o (old a o e) (subS_some e) (nf a o e) (by simp), br a o e⟩, rv, q br⟩
    | next => exact c
    | brk => exact c
    | cont => exact c
  | error e =>
    obtain ⟨a, B, H', cls, d, e1, fl, hok, ub, na, os, ag, q⟩ := c
    have br : Bare S H' := fun a o e => ub.free a o (old a o e) (subS_some e)
    refine ⟨a, B, _, cls, d, e1, fl, hok_addS hok (fun a o e => ⟨ub.keep a o (old a o e) (subS_some e) (nf a o e), br a o e⟩), UB_moreS ub hS, ?_, os, ag, q br⟩
    cases y : S a with
    | none => rw [addS_none y]; exact na
    | some ob =>
      have := ub.keep a ob (old a ob y) (subS_some y) (nf a ob y)
      rw [fl.2.1] at this; cases this
end
end DL
namespace DL
open PySem L2

/-! ## a lambda is made -/
theorem triples_grow (pos : Pos) (c : Addr) (ps : Array Value) (t : TriplesOk ps.toList) : TriplesOk (ps ++ #[rawInt pos.line, rawInt pos.col, .ref c]).toList := by
  rw [show (ps ++ #[rawInt pos.line, rawInt pos.col, Value.ref c]).toList = ps.toList ++ [rawInt pos.line, rawInt pos.col, Value.ref c] by simp]
  exact PySem.TriplesOk_snoc _ _ _ _ t
/-- how the heap lies behind it: f the function, c its code object -/
def LamNew (H : Hp) (P : Addr) (q : Str) (ps : Array Value) (c : Addr) (H1 : Hp) : Prop :=
  (H1 = H ∧ ∃ pos, codeAmong pos ps.toList = some (.ref c)) ∨ ∃ pos : Pos, H c = none ∧ H1 = upd (upd H P (.tbl (ps ++ #[rawInt pos.line, rawInt pos.col, .ref c]))) c (LamX.CodeO c q)
def tLam (L : LamI) (P : Addr) (cells : List (Str × Addr)) : TE := fun _ H Q => ∃ ps : Array Value, H P = some (.tbl ps) ∧ TriplesOk ps.toList ∧ (∀ (pos : Pos) (cv : Value), codeAmong pos ps.toList = some cv → ∃ c, cv = .ref c ∧ H c = some (LamX.CodeO c L.q)) ∧
  ∀ f c pm ctv H1, LamNew H P L.q ps c H1 → H1 f = none → Q (.ref f) (upd H1 f (.frz (lamObj L (cloFrom cells L.scope.names []) pm c ctv) xTrue))
theorem pe_lam {X : Cx} {L : LamI} {P c : Addr} {cells : List (Str × Addr)} {lpos : Pos} (TB : LamX.TabB X.base X.mg c P) (hcode : X.env.code = .ref c) (hcl : X.env.cells = cells) (hq : X.env.qual ++ "<lambda>" = L.q) (hdef : defaultsOf L.params X.env = ([], []))
    (hfree : ∀ y ∈ L.scope.names, y.2 = .free → X.env.scope.names.lookup y.1 = some .cell ∨ X.env.scope.names.lookup y.1 = some .free) : PE X (.Lambda L.params L.body L.scope lpos) (tLam L P cells) := by
  refine ⟨fun pins s σ H Q I h => ?_⟩
  obtain ⟨ps, hP, ht, hc, k⟩ := h
  subst hcl
  have hf : ∀ y ∈ L.scope.names, y.2 = .free → ∃ c, X.env.cells.lookup y.1 = some c := fun y hy e => (hfree y hy e).elim (fun z => I.ok.has _ (.inl z)) fun z => I.ok.has _ (.inr z)
  have oP : s.heap.get? P = some { cls := .none, data := .fields ps } := I.hok P _ hP
  have fin : ∀ (g : Heap) (tk : Nat) (H1 : Hp) (c' : Addr) (pm ctv : Value), Inv X pins σ H1 { s with heap := g, toks := tk } → LamNew H P L.q ps c' H1 →
      EP X pins σ Q (.ref g.objs.size) { s with heap := g.push (lamObj L (cloFrom X.env.cells L.scope.names []) pm c' ctv), toks := tk } := fun g tk H1 c' pm ctv J n => by
    have hf1 : H1 g.objs.size = none := J.hok.fresh (Nat.le_refl _)
    have gp := Heap.get?_push_size g (o := lamObj L (cloFrom X.env.cells L.scope.names []) pm c' ctv) rfl
    exact ⟨.ref g.objs.size, _, J.laid (t' := tk) (fun b u e => Heap.get?_push_of_some _ e) (Nat.le_refl _) (frz_ok gp), rfl, k _ c' pm ctv H1 n hf1⟩
  refine PySem.W.kla_eval hdef ?_
  rw [hq]
  have cl := closure_ok (env := X.env) hf
  have gl := I.mod.glob.keeps I.bk
  have ch := TB.code.keeps I.bk
  have bl : s.heap.BuiltinsAt X.mg P := TB.bm.keeps I.bk
  cases hm : codeAmong lpos ps.toList with
  | some cv =>
    obtain ⟨c', rfl, _⟩ := hc lpos cv hm
    refine PySem.W.kla_makeFunctionHit (mg := X.mg) cl I.ok.glob gl hcode ch oP ht hm bl fun ctv g tk hx hsz => ?_
    exact fin g tk H c' _ ctv (I.kept hx) (.inl ⟨rfl, lpos, hm⟩)
  | none =>
    refine PySem.W.kla_makeFunction (mg := X.mg) cl I.ok.glob gl hcode ch oP ht hm TB.gP bl fun c' ctv g tk hx hge hlt hrec htb => ?_
    obtain ⟨c2, oc, vs, t, e2, hoc, hd, hv⟩ := hrec
    cases e2
    refine fin g tk _ c' _ ctv (LamX.inv_table (h' := g) (t' := tk) I hP (fun b o hb e => hx b o hb e) htb hge ⟨oc, vs, t, hoc, hd, hv⟩) (.inr ⟨lpos, I.hok.fresh hge, rfl⟩)

section
variable {C : Cst} {W : Fm} {σ : St} {ρ ρ' : Env} {H G H' G' : Hp}
/-- behind it -/
theorem Rel.lam (r : Rel C W σ ρ H G) {id : Nat} {P f c : Addr} {pm ctv : Value} {cl : List (Str × Addr)} {ps : Array Value} {H1 : Hp} (hp : (P, (C.L id).q) ∈ C.T) (hu : ∀ p ∈ C.T, p.1 = P → p.2 = (C.L id).q) (hP : H P = some (.tbl ps)) (n : LamNew H P (C.L id).q ps c H1) (hf : H1 f = none) :
    ∃ G', Ge G G' ∧ Rel C W σ ρ (upd H1 f (.frz (lamObj (C.L id) cl pm c ctv) xTrue)) G' ∧ LamAt C G' id cl f := by
  obtain ⟨ps', e1, ht, hc⟩ := (r.tb _ hp).2.2
  rw [hP] at e1; cases e1
  have one : ∃ G1, Ge G G1 ∧ Rel C W σ ρ H1 G1 ∧ G1 c = some (LamX.CodeO c (C.L id).q) := by
    rcases n with ⟨rfl, pos, hm⟩ | ⟨pos, hn, rfl⟩
    · obtain ⟨c', e, h⟩ := hc pos _ hm
      cases e
      exact ⟨G, Ge.refl _, r, h⟩
    · have nPc : P ≠ c := ne_of_none hP hn
      have hg : G c = none := r.gNone hn
      have keep : ∀ b o, b ≠ P → H b = some o → upd (upd H P (.tbl (ps ++ #[rawInt pos.line, rawInt pos.col, .ref c]))) c (LamX.CodeO c (C.L id).q) b = some o := fun b o z e => by
        rw [upd_ne (ne_of_none e hn), upd_ne z]; exact e
      have hz := (r.tb _ hp).2.1
      have hnP := (r.tb _ hp).1
      have hgP := (r.nn _ hnP).1
      have atP : upd (upd H P (.tbl (ps ++ #[rawInt pos.line, rawInt pos.col, .ref c]))) c (LamX.CodeO c (C.L id).q) P = some (.tbl (ps ++ #[rawInt pos.line, rawInt pos.col, .ref c])) := by rw [upd_ne nPc, upd_same]
      have g : Ge G (upd G c (LamX.CodeO c (C.L id).q)) := Ge.upd hg
      refine ⟨_, g, ⟨fun b u e => ?_, fun b u e => keep b u (fun z => by subst z; rw [hz] at e; cases e) (r.zh _ _ e), fun b q => ⟨?_, ?_⟩, r.bz, r.pn, r.ln, fun i => ?_, r.ne, fun p hs => ⟨(r.sx p hs).1, keep _ _ (fun z => ?_) (r.sx p hs).2⟩, fun p hs => ⟨(r.tb p hs).1, (r.tb p hs).2.1, ?_⟩⟩, upd_same⟩
      · by_cases z : b = c
        · subst z; rw [upd_same] at e ⊢; exact e
        · rw [upd_ne z] at e
          exact keep b u (fun y => by subst y; rw [hgP] at e; cases e) (r.gh _ _ e)
      · have z : b ≠ c := fun z => by subst z; obtain ⟨o, ho⟩ := (r.nn b q).2; rw [hn] at ho; cases ho
        rw [upd_ne z]; exact (r.nn b q).1
      · obtain ⟨o, ho⟩ := (r.nn b q).2
        by_cases z : b = P
        · subst z; exact ⟨_, atP⟩
        · exact ⟨o, keep b o z ho⟩
      · have q := r.at_ i
        cases s : ρ.at i with
        | un => trivial
        | dat d => rw [s] at q; obtain ⟨v, h1, h2⟩ := q; exact ⟨v, h1, h2.ge g⟩
        | own d =>
          rw [s] at q
          obtain ⟨b, h1, h2, h3, h4, h5⟩ := q
          have zP : b ≠ P := fun z => h5 (z ▸ hnP)
          have zc : b ≠ c := fun z => by subst z; obtain ⟨o, ho⟩ := h2.there; rw [hn] at ho; cases ho
          exact ⟨b, h1, h2.move (fun o q => keep b o zP q) g, by rw [upd_ne zc]; exact h3, h4, h5⟩
        | brw d => rw [s] at q; obtain ⟨b, h1, h2, h3⟩ := q; exact ⟨b, h1, h2.move (fun _ q => q) g, h3⟩
        | exv c ns vs => rw [s] at q; obtain ⟨b, dx, fs, h1, h2, h3, h4, h5⟩ := q; exact ⟨b, dx, fs, h1, h2, g _ _ h3, h4, h5.ge g⟩
        | clo id ds => rw [s] at q; obtain ⟨f, cl, ws, h1, h2, h3, h4⟩ := q; exact ⟨f, cl, ws, h1, h2.ge g, h3, h4.ge g⟩
      · have h1 := (r.sx p hs).2
        rw [z, hP] at h1; cases h1
      · by_cases z : p.1 = P
        · have hq := hu p hs z
          rw [z, hq]
          refine ⟨_, atP, triples_grow pos c ps ht, fun pos' cv hm => ?_⟩
          rw [show (ps ++ #[rawInt pos.line, rawInt pos.col, Value.ref c]).toList = ps.toList ++ [rawInt pos.line, rawInt pos.col, Value.ref c] by simp] at hm
          rcases LamX.among_app ps.toList ht hm with q | rfl
          · obtain ⟨c0, e1, e2⟩ := hc pos' cv q
            exact ⟨c0, e1, g _ _ e2⟩
          · exact ⟨c, rfl, upd_same⟩
        · exact (r.tb p hs).2.2.ge (fun o e => keep _ _ z e) g
  obtain ⟨G1, g1, r1, hc1⟩ := one
  have hg1 : G1 f = none := r1.gNone hf
  exact ⟨upd G1 f (.frz (lamObj (C.L id) cl pm c ctv) xTrue), g1.trans (Ge.upd hg1), r1.frz hf, c, pm, ctv, upd_same, by rw [upd_ne (ne_of_none hc1 hg1)]; exact hc1⟩

/-! ## more, fewer known objects -/
def Fm.plus (W : Fm) (S : Addr → Option Obj) : Fm := { W with Z := addS W.Z S, N := fun a => W.N a ∨ ∃ o, S a = some o, S := fun a => (S a).or (W.S a) }
theorem Rel.plus (r : Rel C W σ ρ H G) {S : Addr → Option Obj} (hS : ∀ a o, S a = some o → H a = none) : Rel C (W.plus S) σ ρ (addS H S) G := by
  have keep : ∀ b o, H b = some o → addS H S b = some o := fun b o e => by
    cases y : S b with
    | some u => rw [hS b u y] at e; cases e
    | none => rw [addS_none y]; exact e
  have keepZ : ∀ b o, W.Z b = some o → (W.plus S).Z b = some o := fun b o e => by
    show addS W.Z S b = some o
    cases y : S b with
    | some u => have := r.zh _ _ e; rw [hS b u y] at this; cases this
    | none => rw [addS_none y]; exact e
  refine ⟨fun b u e => keep b u (r.gh _ _ e), fun b u e => ?_, fun b q => ?_, fun i b q => ?_, r.pn, r.ln, fun i => ?_, r.ne, fun p hp => ?_, fun p hp => ⟨.inl (r.tb p hp).1, ?_, (r.tb p hp).2.2.ge (fun o e => keep _ _ e) (Ge.refl _)⟩⟩
  · have e : addS W.Z S b = some u := e
    cases y : S b with
    | some o => rw [addS_some y] at e ⊢; exact e
    | none => rw [addS_none y] at e ⊢; exact r.zh _ _ e
  · rcases q with q | ⟨o, q⟩
    · obtain ⟨h1, o, h2⟩ := r.nn b q
      exact ⟨h1, o, keep b o h2⟩
    · exact ⟨r.gNone (hS b o q), _, addS_some q⟩
  · obtain ⟨o, ho⟩ := r.bz i b q
    exact ⟨o, keepZ b o ho⟩
  · have q := r.at_ i
    cases s : ρ.at i with
    | un => trivial
    | dat d => rw [s] at q; exact q
    | own d =>
      rw [s] at q
      obtain ⟨b, h1, h2, h3, h4, h5⟩ := q
      have y : S b = none := by
        cases y : S b with
        | none => rfl
        | some o => obtain ⟨u, hu⟩ := h2.there; rw [hS b o y] at hu; cases hu
      exact ⟨b, h1, h2.move (fun o q => keep b o q) (Ge.refl _), h3, (by show addS W.Z S b = none; rw [addS_none y]; exact h4), fun z => z.elim h5 fun ⟨o, e⟩ => by rw [y] at e; cases e⟩
    | brw d => rw [s] at q; obtain ⟨b, h1, h2, h3⟩ := q; exact ⟨b, h1, h2.move (fun o q => keepZ b o q) (Ge.refl _), h3⟩
    | exv c ns vs => rw [s] at q; exact q
    | clo id ds =>
      rw [s] at q
      obtain ⟨f, cl, ws, h1, h2, h3, h4⟩ := q
      have up : ∀ c o, W.S c = some o → (W.plus S).S c = some o := fun c o e => by
        show (S c).or (W.S c) = some o
        cases y : S c with
        | none => exact e
        | some u => have := (r.sx (c, o) e).2; rw [hS c u y] at this; cases this
      exact ⟨f, cl, ws, h1, h2, ⟨h3.len, fun y c e => let ⟨o, v, e1, e2⟩ := h3.all y c e; ⟨o, v, up _ _ e1, e2⟩, h3.inj, fun i y e => let ⟨c, o, u, w, e1, e2, e3⟩ := h3.has i y e; ⟨c, o, u, w, e1, up _ _ e2, e3⟩⟩, h4⟩
  · have hp : (S p.1).or (W.S p.1) = some p.2 := hp
    cases y : S p.1 with
    | some o => rw [y] at hp; cases hp; exact ⟨.inr ⟨_, y⟩, addS_some y⟩
    | none => rw [y] at hp; exact ⟨.inl (r.sx p hp).1, keep _ _ (r.sx p hp).2⟩
  · show addS W.Z S p.1 = none
    cases y : S p.1 with
    | some o => obtain ⟨ps, h, _⟩ := (r.tb p hp).2.2; rw [hS _ o y] at h; cases h
    | none => rw [addS_none y]; exact (r.tb p hp).2.1
def unclo : SV → SV
  | .clo _ _ => .un
  | s => s
theorem at_unclo (ρ : Env) (i : Nat) : Env.at (ρ.map unclo) i = unclo (ρ.at i) := by
  unfold Env.at
  rw [List.getElem?_map]
  cases ρ[i]? <;> rfl
theorem own_unclo {s : SV} : (unclo s).isOwn = s.isOwn := by cases s <;> rfl
/-- and back: r tells of the frame -/
theorem Rel.minus {σ0 : St} {ρ0 : Env} {H0 G0 : Hp} (r : Rel C W σ0 ρ0 H0 G0) {S : Addr → Option Obj} (hS : ∀ a o, S a = some o → H0 a = none) (r' : Rel C (W.plus S) σ ρ' H' G') :
    Rel C W σ (ρ'.map unclo) (subS H' S) G' ∧ ∀ v x, VOk C (W.plus S) σ ρ' H' G' v x → (∀ i, x ≠ .slot i) → VOk C W σ (ρ'.map unclo) (subS H' S) G' v x := by
  have inN : ∀ b o, S b = some o → (W.plus S).N b := fun b o e => .inr ⟨o, e⟩
  have keep : ∀ b o, S b = none → H' b = some o → subS H' S b = some o := fun b o y e => by rw [subS_none y]; exact e
  have ng : ∀ b o, G' b = some o → S b = none := fun b o e => by
    cases y : S b with
    | none => rfl
    | some u => rw [(r'.nn b (inN b u y)).1] at e; cases e
  have zn : ∀ b, S b = none → (W.plus S).Z b = W.Z b := fun b y => addS_none y
  have zS : ∀ b o, W.Z b = some o → S b = none := fun b o e => by
    cases y : S b with
    | none => rfl
    | some u => have := r.zh _ _ e; rw [hS b u y] at this; cases this
  have nS : ∀ b, W.N b → S b = none := fun b q => by
    cases y : S b with
    | none => rfl
    | some u => obtain ⟨o, ho⟩ := (r.nn b q).2; rw [hS b u y] at ho; cases ho
  refine ⟨⟨fun b u e => keep b u (ng b u e) (r'.gh _ _ e), fun b u e => keep b u (zS b u e) (r'.zh _ _ (by rw [zn b (zS b u e)]; exact e)), fun b q => ?_, r.bz, r'.pn, by rw [List.length_map]; exact r'.ln, fun i => ?_, fun i j a ij h1 h2 e1 e2 => ?_, fun p hp => ⟨(r.sx p hp).1, ?_⟩, fun p hp => ⟨(r.tb p hp).1, (r.tb p hp).2.1, ?_⟩⟩, fun v x h hx => ?_⟩
  · obtain ⟨h1, o, h2⟩ := r'.nn b (.inl q)
    exact ⟨h1, o, keep b o (nS b q) h2⟩
  · rw [at_unclo]
    have q := r'.at_ i
    cases s : ρ'.at i with
    | un => trivial
    | dat d => rw [s] at q; exact q
    | own d =>
      rw [s] at q
      obtain ⟨b, h1, h2, h3, h4, h5⟩ := q
      have y : S b = none := by
        cases y : S b with
        | none => rfl
        | some o => exact absurd (inN b o y) h5
      exact ⟨b, h1, h2.move (fun o q => keep b o y q) (Ge.refl _), h3, by rw [← zn b y]; exact h4, fun z => h5 (.inl z)⟩
    | brw d =>
      rw [s] at q
      obtain ⟨b, h1, h2, h3⟩ := q
      refine ⟨b, h1, h2.move (fun o q => ?_) (Ge.refl _), h3⟩
      obtain ⟨u, hu⟩ := r.bz i b h3
      rw [← zn b (zS b u hu)]; exact q
    | exv c ns vs => rw [s] at q; exact q
    | clo id ds => trivial
  · rw [at_unclo, own_unclo] at h1 h2
    exact r'.ne i j a ij h1 h2 e1 e2
  · have y : S p.1 = none := nS _ (r.sx p hp).1
    exact keep _ _ y (r'.sx p (by show (S p.1).or (W.S p.1) = some p.2; rw [y]; exact hp)).2
  · exact (r'.tb p hp).2.2.ge (fun o e => keep _ _ (nS _ (r.tb p hp).1) e) (Ge.refl _)
  · cases x with
    | dat d => exact h
    | slot i => exact absurd rfl (hx i)
    | own d =>
      obtain ⟨a, rfl, h1, h2, h3, h4, h5⟩ := h
      have y : S a = none := by
        cases y : S a with
        | none => rfl
        | some o => exact absurd (inN a o y) h4
      exact ⟨a, rfl, h1.move (fun o q => keep a o y q) (Ge.refl _), h2, by rw [← zn a y]; exact h3, fun z => h4 (.inl z), fun i hi e => h5 i (by rw [at_unclo, own_unclo] at hi; exact hi) e⟩
end
end DL
namespace DL
open PySem L2

/-! ## arguments, lambdas among them -/
inductive AX where
  | x (x : XV)
  /-- the lambda id; where the names that it captures stand -/
  | lam (id : Nat) (js : List Nat)
abbrev cloOf (C : Cst) (cells : List (Str × Addr)) (id : Nat) : List (Str × Addr) := cloFrom cells (C.L id).scope.names []
def WaitL (C : Cst) (cells : List (Str × Addr)) (σ : St) (G : Hp) (v : V) : AX → Prop
  | .x x => Wait C σ G v x
  | .lam id _ => ∃ f, v = .ref f ∧ LamAt C G id (cloOf C cells id) f
def WaitsL (C : Cst) (cells : List (Str × Addr)) (σ : St) (G : Hp) : List V → List AX → Prop
  | [], [] => True
  | v :: vs, x :: xs => WaitL C cells σ G v x ∧ WaitsL C cells σ G vs xs
  | _, _ => False
theorem WaitL.ge {C : Cst} {cells : List (Str × Addr)} {σ : St} {G G' : Hp} {v : V} {x : AX} (h : WaitL C cells σ G v x) (g : Ge G G') : WaitL C cells σ G' v x := by
  cases x with
  | x x => exact Wait.ge h g
  | lam id js => obtain ⟨f, e, h⟩ := h; exact ⟨f, e, h.ge g⟩
def EvL (J : Jd) (cells : List (Str × Addr)) (ta : TA) (f : Env → R (List AX)) : Prop := ∀ W σ ρ H G Q, PinOk W J.P J.ex → Rel J.C W σ ρ H G →
  Got J W σ G (f ρ) (fun xs _ H' G' => ∀ vs, WaitsL J.C cells σ G' vs xs → Q vs H') → ta σ H Q
section
variable {ι : Type}
def CL_ (J : Jd) (cells : List (Str × Addr)) (Xs : ι → Cx) (es : List Expr) (f : Env → R (List AX)) : Prop := ∃ te, (∀ i, Good J (Xs i) → PA (Xs i) es te) ∧ EvL J cells te f
variable {J : Jd} {cells : List (Str × Addr)} {Xs : ι → Cx} {e : Expr} {es : List Expr} {f : Env → R XV} {fs : Env → R (List AX)}
def nilL : Env → R (List AX) := fun ρ => .ok [] ρ
def consL (f : Env → R XV) (fs : Env → R (List AX)) : Env → R (List AX) := fun ρ => (opnd f ρ).bind fun x ρ => (fs ρ).bind fun xs ρ => .ok (.x x :: xs) ρ
def lamL (id : Nat) (js : List Nat) (fs : Env → R (List AX)) : Env → R (List AX) := fun ρ => (fs ρ).bind fun xs ρ => .ok (.lam id js :: xs) ρ
theorem cl_nil : CL_ J cells Xs [] nilL := ⟨_, fun i _ => pa_nil, fun W σ ρ H G Q pk rl k => k H G (Ge.refl _) rl [] trivial⟩
theorem cl_cons (h : CE J Xs e f) (h' : CL_ J cells Xs es fs) (hs : ∀ i, starEach (e :: es) (Xs i).env = (false, eval e (Xs i).env) :: starEach es (Xs i).env := by intro _; rfl) : CL_ J cells Xs (e :: es) (consL f fs) := by
  obtain ⟨t, h1, h2⟩ := h
  obtain ⟨u, k1, k2⟩ := h'
  refine ⟨_, fun i G => pa_cons (h1 i G) (k1 i G) (hs i), fun W σ ρ H G Q pk rl k => ?_⟩
  refine h2.opnd W σ ρ H G _ pk rl ?_
  refine (Got.bind k).imp fun x ρ1 H1 G1 e1 r1 k v vk => ?_
  refine k2 W σ ρ1 H1 G1 _ pk r1 ?_
  refine (Got.bind k).imp fun xs ρ2 H2 G2 e2 r2 k vs vks => ?_
  exact k H2 G2 (Ge.refl _) r2 (v :: vs) ⟨vk.ge e2, vks⟩
/-- what the maker must have: its table -/
structure MakerOk (X : Cx) (cells : List (Str × Addr)) (P c : Addr) (q : Str) : Prop where
  TB : LamX.TabB X.base X.mg c P
  hcode : X.env.code = .ref c
  hcl : X.env.cells = cells
  hq : X.env.qual ++ "<lambda>" = q
theorem cl_lam {id : Nat} {js : List Nat} {params : Arguments} {body : Expr} {scope : Scope} {lpos : Pos} {q : Str} {ps fr : List Str} {P c : Addr} (hL : J.C.L id = ⟨q, params, body, scope, ps, fr⟩) (hp : (P, q) ∈ J.C.T) (hu : ∀ p ∈ J.C.T, p.1 = P → p.2 = q) (M : ∀ i, MakerOk (Xs i) cells P c q) (h' : CL_ J cells Xs es fs)
    (hfree : ∀ i, ∀ y ∈ scope.names, y.2 = .free → (Xs i).env.scope.names.lookup y.1 = some .cell ∨ (Xs i).env.scope.names.lookup y.1 = some .free)
    (hdef : ∀ i, defaultsOf params (Xs i).env = ([], []) := by intro _; rfl)
    (hs : ∀ i, starEach (.Lambda params body scope lpos :: es) (Xs i).env = (false, eval (.Lambda params body scope lpos) (Xs i).env) :: starEach es (Xs i).env := by intro _; rfl) : CL_ J cells Xs (.Lambda params body scope lpos :: es) (lamL id js fs) := by
  obtain ⟨u, k1, k2⟩ := h'
  have L := fun i => pe_lam (X := Xs i) (L := ⟨q, params, body, scope, ps, fr⟩) (P := P) (c := c) (cells := cells) (lpos := lpos) (M i).TB (M i).hcode (M i).hcl (M i).hq (hdef i) (hfree i)
  have eq : (J.C.L id).q = q := by rw [hL]
  have L' : ∀ i, PE (Xs i) (.Lambda params body scope lpos) (tLam (J.C.L id) P cells) := by rw [hL]; exact L
  refine ⟨tCons (tLam (J.C.L id) P cells) u, fun i G => pa_cons (L' i) (k1 i G) (hs i), fun W σ ρ H G Q pk rl k => ?_⟩
  obtain ⟨pt, hP, ht, hc⟩ := (rl.tb _ hp).2.2
  refine ⟨pt, hP, ht, fun pos cv e => ?_, fun f c' pm ctv H1 n hf => ?_⟩
  · obtain ⟨c0, e1, e2⟩ := hc pos cv e
    exact ⟨c0, e1, by rw [eq]; exact rl.gh _ _ e2⟩
  · obtain ⟨G2, g2, r2, la⟩ := rl.lam (id := id) (cl := cloOf J.C cells id) (by rw [eq]; exact hp) (by rw [eq]; exact hu) hP n hf
    refine k2 W σ ρ _ G2 _ pk r2 ?_
    have k := Got.bind k
    refine (k.later g2).imp fun xs ρ2 H3 G3 e3 r3 k vs vks => ?_
    exact k H3 G3 (Ge.refl _) r3 (.ref f :: vs) ⟨⟨f, rfl, la.ge e3⟩, vks⟩
end
end DL
namespace DL
open PySem L2

/-! ## f(.., lambda .., ..) -/
/-- the maker's cells, known from now on -/
structure CapF (cells : List (Str × Addr)) (jy : List (Nat × Str)) (σ : St) (H : Hp) (S : Addr → Option Obj) : Prop where
  un : ∀ a o, S a = some o → H a = none
  all : ∀ y c, cells.lookup y = some c → ∃ o v, S c = some o ∧ o.data = .cell v
  inj : ∀ x y c, cells.lookup x = some c → cells.lookup y = some c → x = y
  has : ∀ p ∈ jy, ∃ c, cells.lookup p.2 = some c ∧ ∀ w, σ[p.1]? = some (some w) → ∃ o u, S c = some o ∧ o.data = .cell (some u) ∧ RelV w u
def tCallL (sp : Sp) (cells : List (Str × Addr)) (jy : List (Nat × Str)) (E : St → XK) (t : TA) : TE := fun σ H Q => t σ H fun vs H1 => ∀ S, CapF cells jy σ H1 S → sp vs (addS H1 S) (fun v H' => Q v (subS H' S)) fun cls d H' => E σ cls d (subS H' S)
open Classical in
theorem cells_known {X : Cx} {pins : List (Addr × Obj)} {σ : St} {H : Hp} {s : Shared} {cells : List (Str × Addr)} {jy : List (Nat × Str)} (I : Inv X pins σ H s) (hcl : X.env.cells = cells) (hfn : ∀ y, X.fn y = true)
    (hjy : ∀ p ∈ jy, X.N[p.1]? = some p.2 ∧ X.env.scope.names.lookup p.2 = some .cell) :
    ∃ S, CapF cells jy σ H S ∧ (∀ a o, S a = some o → s.heap.get? a = some o ∧ H a = none) ∧ (∀ a o, S a = some o → X.base.get? a = none) ∧ ∀ a o, S a = some o → a ∉ frs X.stack := by
  subst hcl
  have inS : ∀ y c, X.env.cells.lookup y = some c → (if ∃ y, X.env.cells.lookup y = some c then s.heap.get? c else none) = s.heap.get? c := fun y c e => if_pos ⟨y, e⟩
  have of : ∀ a o, (if ∃ y, X.env.cells.lookup y = some a then s.heap.get? a else none) = some o → (∃ y, X.env.cells.lookup y = some a) ∧ s.heap.get? a = some o := fun a o e => by
    split at e
    · rename_i h; exact ⟨h, e⟩
    · cases e
  refine ⟨fun a => if ∃ y, X.env.cells.lookup y = some a then s.heap.get? a else none, ⟨fun a o e => ?_, fun y c e => ?_, I.ok.inj, fun p hp => ?_⟩, fun a o e => ?_, fun a o e => ?_, fun a o e hm => ?_⟩
  · obtain ⟨⟨y, e1⟩, e2⟩ := of a o e
    exact I.freeC y a e1
  · obtain ⟨v, o, ho, hd⟩ := I.cell y c e
    exact ⟨o, v, by rw [inS y c e]; exact ho, hd⟩
  · obtain ⟨hn, hk⟩ := hjy p hp
    obtain ⟨c, hc⟩ := I.ok.has p.2 (.inl hk)
    refine ⟨c, hc, fun w hw => ?_⟩
    obtain ⟨m, _, hl⟩ := I.loc
    obtain ⟨u, ru, l⟩ := hl p.1 p.2 w hn hw (.inr (.inl hk))
    rcases l with ⟨z, _⟩ | ⟨_, c', hc', o, ho, hd⟩
    · have z' : X.env.scope.names.lookup p.2 = some .local := z
      rw [hk] at z'; cases z'
    · rw [hc] at hc'; cases hc'
      exact ⟨o, u, by rw [inS _ c hc]; exact ho, hd, ru⟩
  · obtain ⟨⟨y, e1⟩, e2⟩ := of a o e
    exact ⟨e2, I.freeC y a e1⟩
  · obtain ⟨⟨y, e1⟩, e2⟩ := of a o e
    exact Heap.get?_none_of_le (Nat.le_trans I.ok.bsz (I.ok.cab y a (hfn y) e1))
  · obtain ⟨⟨y, e1⟩, e2⟩ := of a o e
    rcases List.mem_cons.mp (I.stkSub a hm) with z | z
    · exact I.cne y a e1 z
    · obtain ⟨_, o', ho', _⟩ := I.ok.funs.mem z
      exact absurd (Nat.lt_of_lt_of_le (Heap.lt_size ho') (I.ok.cab y a (hfn y) e1)) (Nat.lt_irrefl _)
theorem pe_callL {X : Cx} {k : Nat} {f : Addr} {fd : FuncData} {ps : List Str} {sp : Sp} {E : St → XK} {x : Str} {p pos : Pos} {e : Expr} {es : List Expr} {t : TA} {cells : List (Str × Addr)} {jy : List (Nat × Str)} (F : FnOk X.prog X.w X.K X.mg X.base (L2.CX X.prog X.w) k f fd ps sp) (hr : Room k X.A) (hg : Gl X x) (hm : X.mg x = some (.ref f))
    (hk : PySem.W.keepIn X.K (.ref f) = true) (hb : Binds X.K fd ps []) (hx : ∀ σ, PassesAt (L2.CX X.prog X.w) X σ (E σ)) (ha : PA X (e :: es) t) (hcl : X.env.cells = cells) (hfn : ∀ y, X.fn y = true) (hjy : ∀ p ∈ jy, X.N[p.1]? = some p.2 ∧ X.env.scope.names.lookup p.2 = some .cell)
    (hdb : (x == ("__debug__" : Str)) = false) (he : starEach (e :: es) X.env = (false, eval e X.env) :: starEach es X.env) (hpl : (backTo pos (starEach es X.env)).any (·.1) = false) : PE X (.Call (.Name x p) (e :: es) [] pos) (tCallL sp cells jy E t) := by
  refine ⟨fun pins s σ H Q I h => wpAny_Call_Name_kw (ld_glob I hg hm (PySem.W.callWith_K (h₀ := X.base) I.ok.mod.kin hk (thn (ha.run pos pins s σ H _ I h) fun us s1 ⟨vs, H1, I1, r, q⟩ => ⟨I1.kIn, ?_⟩) he hpl) hdb)⟩
  obtain ⟨S, cf, h1, h2, h3⟩ := cells_known I1 hcl hfn hjy
  have q := q S cf
  have hl : us.length = ps.length := by rw [← r.length]; exact F.len _ _ _ _ q
  have b := hb s1 us I1.kIn (by rw [List.append_nil]; exact hl)
  rw [List.append_nil] at b
  refine wpAny_call (codeAny_mono (F.run X.A X.stack s1 (addS H1 S) ⟨us, []⟩ us vs _ _ hr (env0_addS I1.env0 h1 h2 h3) b r q) fun res s' hq => ?_)
  have hq := cr_add h1 hq
  cases res with
  | error e => exact hx σ pins H1 s1 e s' I1 hq
  | ok fl => cases fl <;> first | exact I1.after hq | exact False.elim hq

/-! ### the mirror -/
def datAt (ρ : Env) (j : Nat) : Option D := match ρ.at j with
  | .dat d => some d
  | _ => none
def capsD (ρ : Env) : List Nat → Option (List D)
  | [] => some []
  | j :: js => match datAt ρ j, capsD ρ js with
    | some d, some ds => some (d :: ds)
    | _, _ => none
def xsOf : AX → XV
  | .x x => x
  | .lam _ _ => .dat .opq
def argL (ρ : Env) : AX → Option SV
  | .x (.dat d) => some (.dat d)
  | .x (.slot i) => match ρ.at i with
    | .own d => some (.own d)
    | .brw d => some (.brw d)
    | .clo id ds => some (.clo id ds)
    | _ => none
  | .x (.own _) => none
  | .lam id js => (capsD ρ js).map (.clo id)
def argsL (ρ : Env) : List AX → Option (List SV)
  | [] => some []
  | a :: l => match argL ρ a, argsL ρ l with
    | some s, some r => some (s :: r)
    | _, _ => none
def callL (g : FnM) (axs : List AX) (ρ : Env) : R XV := match argsL ρ axs with
  | some args => if noTwice (slotsOf (axs.map xsOf)) = true then match g args with
      | .ok x outs => .ok x (putBack (axs.map xsOf) (outs.map unclo) ρ)
      | .exc c ns vs outs => .exc c ns vs (putBack (axs.map xsOf) (outs.map unclo) ρ)
      | .stuck => .stuck
    else .stuck
  | none => .stuck
def fnL (g : FnM) (fs : Env → R (List AX)) : Env → R XV := fun ρ => (fs ρ).bind fun xs ρ => callL g xs ρ
/-- a lambda's words -/
def lamStB (L : LamI) (js : List Nat) (jy : List (Nat × Str)) : Bool :=
  decide (js.length = L.fr.length) && (js.zip L.fr).all (fun p => decide (p ∈ jy)) && L.scope.names.all (fun y => !decide (y.2 = .free) || decide (y.1 ∈ L.fr)) && L.fr.all fun y => decide ((y, NameKind.free) ∈ L.scope.names)
def OkAX (C : Cst) (jy : List (Nat × Str)) : AX → Prop
  | .x _ => True
  | .lam id js => lamStB (C.L id) js jy = true
def LamsOk (C : Cst) (jy : List (Nat × Str)) (n : Nat) (fs : Env → R (List AX)) : Prop := ∀ ρ axs ρ', fs ρ = .ok axs ρ' → axs.length = n ∧ ∀ a ∈ axs, OkAX C jy a
theorem LamsOk.nil {C : Cst} {jy : List (Nat × Str)} : LamsOk C jy 0 nilL := fun ρ axs ρ' e => by cases e; exact ⟨rfl, fun a h => by cases h⟩
theorem LamsOk.cons {C : Cst} {jy : List (Nat × Str)} {n : Nat} {f : Env → R XV} {fs : Env → R (List AX)} (h : LamsOk C jy n fs) : LamsOk C jy (n + 1) (consL f fs) := fun ρ axs ρ' e => by
  unfold consL at e
  cases z : opnd f ρ with
  | ok x ρ1 =>
    rw [z] at e
    simp only [R.bind] at e
    cases z1 : fs ρ1 with
    | ok xs ρ2 =>
      rw [z1] at e; cases e
      obtain ⟨h1, h2⟩ := h _ _ _ z1
      exact ⟨by rw [List.length_cons, h1], fun a ha => by
        rcases List.mem_cons.mp ha with rfl | ha
        · trivial
        · exact h2 a ha⟩
    | exc _ _ _ _ => rw [z1] at e; cases e
    | stuck => rw [z1] at e; cases e
  | exc _ _ _ _ => rw [z] at e; cases e
  | stuck => rw [z] at e; cases e
theorem LamsOk.lam {C : Cst} {jy : List (Nat × Str)} {n id : Nat} {js : List Nat} {fs : Env → R (List AX)} (st : lamStB (C.L id) js jy = true) (h : LamsOk C jy n fs) : LamsOk C jy (n + 1) (lamL id js fs) := fun ρ axs ρ' e => by
  unfold lamL at e
  cases z1 : fs ρ with
  | ok xs ρ2 =>
    rw [z1] at e; cases e
    obtain ⟨h1, h2⟩ := h _ _ _ z1
    exact ⟨by rw [List.length_cons, h1], fun a ha => by
      rcases List.mem_cons.mp ha with rfl | ha
      · exact st
      · exact h2 a ha⟩
  | exc _ _ _ _ => rw [z1] at e; cases e
  | stuck => rw [z1] at e; cases e
section
variable {C : Cst} {W : Fm} {σ : St} {ρ : Env} {H G : Hp} {cells : List (Str × Addr)} {jy : List (Nat × Str)}
theorem caps_ok (r : Rel C W σ ρ H G) : ∀ {js : List Nat} {ds : List D}, capsD ρ js = some ds → ∃ ws, IsDs C G ws ds ∧ ws.length = js.length ∧ ∀ (i j : Nat), js[i]? = some j → ∃ w, ws[i]? = some w ∧ σ[j]? = some (some w)
  | [], _, e => by cases e; exact ⟨[], .nil, rfl, fun i j h => by simp at h⟩
  | j :: js, ds, e => by
    unfold capsD at e
    cases z : datAt ρ j with
    | none => rw [z] at e; cases e
    | some d =>
      rw [z] at e
      cases z1 : capsD ρ js with
      | none => rw [z1] at e; cases e
      | some ds' =>
        rw [z1] at e; cases e
        obtain ⟨ws, h1, h2, h3⟩ := caps_ok r z1
        unfold datAt at z
        have q := r.at_ j
        cases s : ρ.at j with
        | dat d' =>
          rw [s] at z q; cases z
          obtain ⟨w, q1, q2⟩ := q
          refine ⟨w :: ws, .cons q2 h1, by simp [h2], fun i k hk => ?_⟩
          cases i with
          | zero => simp at hk; subst hk; exact ⟨w, rfl, q1⟩
          | succ i => simpa using h3 i k (by simpa using hk)
        | un => rw [s] at z; cases z
        | own _ => rw [s] at z; cases z
        | brw _ => rw [s] at z; cases z
        | exv _ _ _ => rw [s] at z; cases z
        | clo _ _ => rw [s] at z; cases z
theorem cells_ok {S : Addr → Option Obj} {id : Nat} {js : List Nat} {ws : List V} {H1 : Hp} (cf : CapF cells jy σ H1 S) (st : lamStB (C.L id) js jy = true) (hl : ws.length = js.length) (hw : ∀ (i j : Nat), js[i]? = some j → ∃ w, ws[i]? = some w ∧ σ[j]? = some (some w)) : CellsS S (cloOf C cells id) (C.L id).fr ws := by
  unfold lamStB at st
  simp only [Bool.and_eq_true, decide_eq_true_eq, List.all_eq_true, Bool.or_eq_true, Bool.not_eq_true', decide_eq_false_iff_not] at st
  obtain ⟨⟨⟨s1, s2⟩, s3⟩, s4⟩ := st
  have zipAt : ∀ (i : Nat) y, (C.L id).fr[i]? = some y → ∃ j, js[i]? = some j ∧ (j, y) ∈ jy := fun i y e => by
    have hi : i < js.length := by rw [s1]; exact (List.getElem?_eq_some_iff.mp e).1
    refine ⟨js[i], List.getElem?_eq_getElem hi, s2 (js[i], y) ?_⟩
    refine List.mem_iff_getElem?.mpr ⟨i, ?_⟩
    rw [List.getElem?_zip_eq_some]
    exact ⟨List.getElem?_eq_getElem hi, e⟩
  have hfree : ∀ y ∈ (C.L id).scope.names, y.2 = .free → ∃ c, cells.lookup y.1 = some c := fun y hy e => by
    have hf : y.1 ∈ (C.L id).fr := (s3 y hy).elim (fun z => absurd e z) fun z => z
    obtain ⟨i, hi⟩ := List.mem_iff_getElem?.mp hf
    obtain ⟨j, _, hj⟩ := zipAt i _ hi
    obtain ⟨c, hc, _⟩ := cf.has _ hj
    exact ⟨c, hc⟩
  refine ⟨by rw [hl, s1], fun y c e => cf.all y c (NdefX.clo_cm hfree e), fun x y c e1 e2 => cf.inj x y c (NdefX.clo_cm hfree e1) (NdefX.clo_cm hfree e2), fun i y e => ?_⟩
  obtain ⟨j, hj, hm⟩ := zipAt i y e
  obtain ⟨c, hc, hv⟩ := cf.has _ hm
  obtain ⟨w, w1, w2⟩ := hw i j hj
  obtain ⟨o, u, e1, e2, e3⟩ := hv w w2
  exact ⟨c, o, u, w, NdefX.clo_has hfree (s4 y (List.mem_of_getElem? e)) hc, e1, e2, w1, e3⟩
/-- the arguments as they are handed over, the lambdas taken for anything -/
theorem argsL_get : ∀ {axs : List AX} {args : List SV}, argsL ρ axs = some args → ∃ args0, argsOf ρ (axs.map xsOf) = some args0 ∧ args.length = args0.length ∧
    ∀ j, Env.at args j = Env.at args0 j ∨ ∃ id js ds, axs[j]? = some (.lam id js) ∧ Env.at args0 j = .dat .opq ∧ Env.at args j = .clo id ds ∧ capsD ρ js = some ds
  | [], _, e => by cases e; exact ⟨[], rfl, rfl, fun j => .inl rfl⟩
  | a :: l, args, e => by
    unfold argsL at e
    cases z : argL ρ a with
    | none => rw [z] at e; cases e
    | some s =>
      rw [z] at e
      cases z1 : argsL ρ l with
      | none => rw [z1] at e; cases e
      | some r =>
        rw [z1] at e; cases e
        obtain ⟨r0, h1, h2, h3⟩ := argsL_get z1
        have fin : ∀ s0, argsOf ρ ((a :: l).map xsOf) = some (s0 :: r0) → (s = s0 ∨ ∃ id js ds, a = .lam id js ∧ s0 = .dat .opq ∧ s = .clo id ds ∧ capsD ρ js = some ds) → ∃ args0, argsOf ρ ((a :: l).map xsOf) = some args0 ∧ (s :: r).length = args0.length ∧
            ∀ j, Env.at (s :: r) j = Env.at args0 j ∨ ∃ id js ds, (a :: l)[j]? = some (.lam id js) ∧ Env.at args0 j = .dat .opq ∧ Env.at (s :: r) j = .clo id ds ∧ capsD ρ js = some ds := fun s0 e1 e2 => by
          refine ⟨_, e1, by simp [h2], fun j => ?_⟩
          cases j with
          | zero =>
            rcases e2 with rfl | ⟨id, js, ds, rfl, rfl, rfl, q⟩
            · exact .inl rfl
            · exact .inr ⟨id, js, ds, rfl, rfl, rfl, q⟩
          | succ j => rw [at_cons, at_cons]; simpa using h3 j
        cases a with
        | lam id js =>
          dsimp only [argL] at z
          cases z2 : capsD ρ js with
          | none => rw [z2] at z; cases z
          | some ds =>
            rw [z2] at z; cases z
            exact fin (.dat .opq) (by simp [xsOf, argsOf, h1]) (.inr ⟨id, js, ds, rfl, rfl, rfl, z2⟩)
        | x x =>
          cases x with
          | dat d => cases z; exact fin (.dat d) (by simp [xsOf, argsOf, h1]) (.inl rfl)
          | own d => cases z
          | slot i =>
            unfold argL at z
            cases q : ρ.at i with
            | own d => simp only [q] at z; cases z; exact fin _ (by simp [xsOf, argsOf, h1, q]) (.inl rfl)
            | brw d => simp only [q] at z; cases z; exact fin _ (by simp [xsOf, argsOf, h1, q]) (.inl rfl)
            | clo id ds => simp only [q] at z; cases z; exact fin _ (by simp [xsOf, argsOf, h1, q]) (.inl rfl)
            | un => simp only [q] at z; cases z
            | dat d => simp only [q] at z; cases z
            | exv _ _ _ => simp only [q] at z; cases z
theorem WaitsL.get : ∀ {vs : List V} {axs : List AX}, WaitsL C cells σ G vs axs → Waits C σ G vs (axs.map xsOf) ∧ ∀ (j : Nat) id js, axs[j]? = some (.lam id js) → ∃ f, vs[j]? = some (.ref f) ∧ LamAt C G id (cloOf C cells id) f
  | [], [], _ => ⟨trivial, fun j id js h => by simp at h⟩
  | v :: vs, a :: l, h => by
    obtain ⟨h1, h2⟩ := WaitsL.get h.2
    refine ⟨⟨?_, h1⟩, fun j id js e => ?_⟩
    · cases a with
      | x x => exact h.1
      | lam id js => exact IsD.opq v
    · cases j with
      | zero =>
        simp at e; subst e
        obtain ⟨f, rfl, q⟩ := h.1
        exact ⟨f, rfl, q⟩
      | succ j => simpa using h2 j id js (by simpa using e)
  | [], _ :: _, h => h.elim
  | _ :: _, [], h => h.elim
/-- the slots told better -/
theorem Rel.better {σ : St} {args0 args : List SV} (r : Rel C W σ args0 H G) (hl : args.length = args0.length) (h : ∀ j, Env.at args j = Env.at args0 j ∨ (Env.at args0 j = .dat .opq ∧ (Env.at args j).isOwn = false ∧ SlotOk C W H G j (σ[j]?) (Env.at args j))) : Rel C W σ args H G := by
  have own : ∀ j, (Env.at args j).isOwn = true → (Env.at args0 j).isOwn = true := fun j e => by
    rcases h j with q | ⟨_, q, _⟩
    · rw [← q]; exact e
    · rw [q] at e; cases e
  refine ⟨r.gh, r.zh, r.nn, r.bz, r.pn, by rw [hl]; exact r.ln, fun j => ?_, fun i j a ij h1 h2 e1 e2 => r.ne i j a ij (own i h1) (own j h2) e1 e2, r.sx, r.tb⟩
  rcases h j with q | ⟨_, _, q⟩
  · rw [q]; exact r.at_ j
  · exact q
end
section
variable {ι : Type} {J : Jd} {Xs : ι → Cx} {e : Expr} {es : List Expr} {fs : Env → R (List AX)} {g : FnM} {x : Str} {p pos : Pos} {f : Addr} {fd : FuncData} {ps : List Str} {cells : List (Str × Addr)} {jy : List (Nat × Str)}
theorem callL_ok {W : Fm} {σ : St} {ρ : Env} {H G : Hp} {vs : List V} {axs : List AX} {Q : VK} {S : Addr → Option Obj} (n : Nat) (hnl : axs.length = n) (hok : ∀ a ∈ axs, OkAX J.C jy a) (r : Rel J.C W σ ρ H G) (w : WaitsL J.C cells σ G vs axs) (cf : CapF cells jy σ H S)
    (h : Got J W σ G (callL g axs ρ) (fun x ρ' H' G' => ∀ v, VOk J.C W σ ρ' H' G' v x → Q v H')) : spF J.C n g vs (addS H S) (fun v H' => Q v (subS H' S)) (fun cls d H' => J.EW cls d σ (subS H' S)) := by
  unfold callL at h
  cases z : argsL ρ axs with
  | none => rw [z] at h; exact h.elim
  | some args =>
    rw [z] at h
    dsimp only at h
    split at h
    · rename_i hn
      obtain ⟨args0, a1, a2, a3⟩ := argsL_get z
      obtain ⟨w1, w2⟩ := w.get
      obtain ⟨c1, c2, c3⟩ := call_in r w1 a1 hn
      have c4 := c1.plus cf.un
      have own : ∀ j, (Env.at args j).isOwn = (Env.at args0 j).isOwn := fun j => by
        rcases a3 j with q | ⟨id, js, ds, q1, q2, q3, q4⟩
        · rw [q]
        · rw [q2, q3]; rfl
      have c5 : Rel J.C ((callFm J.C W σ ρ (axs.map xsOf) vs H G).plus S) (vs.map some) args (addS H S) G := c4.better a2 fun j => by
        rcases a3 j with q | ⟨id, js, ds, q1, q2, q3, q4⟩
        · exact .inl q
        · refine .inr ⟨q2, by rw [q3]; rfl, ?_⟩
          rw [q3]
          obtain ⟨f, f1, f2⟩ := w2 j id js q1
          obtain ⟨ws, u1, u2, u3⟩ := caps_ok r q4
          have st := cells_ok (C := J.C) (id := id) cf (hok _ (List.mem_of_getElem? q1)) u2 u3
          have up : ∀ c o, S c = some o → ((callFm J.C W σ ρ (axs.map xsOf) vs H G).plus S).S c = some o := fun c o e => by
            show (S c).or _ = some o
            rw [e]; rfl
          refine ⟨f, _, ws, by rw [List.getElem?_map, f1]; rfl, f2, ⟨st.len, fun y c e => let ⟨o, v, e1, e2⟩ := st.all y c e; ⟨o, v, up _ _ e1, e2⟩, st.inj, fun i y e => let ⟨c, o, u, w, e1, e2, e3⟩ := st.has i y e; ⟨c, o, u, w, e1, up _ _ e2, e3⟩⟩, u1⟩
      refine ⟨_, G, args, by rw [w1.get.1, List.length_map, hnl], rfl, c5, fun p hp => by rw [own]; exact c2 p hp, fun j a hj hv => c3 j a (by rw [← own]; exact hj) hv, ?_⟩
      cases zg : g args with
      | stuck => rw [zg] at h; exact h.elim
      | ok x outs =>
        rw [zg] at h
        intro v H' G' ge r' vk hx
        obtain ⟨m1, m2⟩ := c1.minus cf.un r'
        obtain ⟨o1, o2⟩ := call_out r w1 ge m1
        exact h _ G' ge o1 v (o2 v x hx (m2 v x vk hx))
      | exc c ns ds outs =>
        rw [zg] at h
        intro d H' G' ge r' ex
        obtain ⟨m1, m2⟩ := c1.minus cf.un r'
        obtain ⟨o1, o2⟩ := call_out r w1 ge m1
        exact h d _ G' ge o1 ex
    · exact h.elim
/-- f(e, ..), f a def of the text, lambdas among the arguments -/
theorem ce_fnL (F : ∀ i, FnOk (Xs i).prog (Xs i).w (Xs i).K (Xs i).mg (Xs i).base (L2.CX (Xs i).prog (Xs i).w) J.k f fd ps (spF J.C ps.length g)) (hm : ∀ i, (Xs i).mg x = some (.ref f)) (hk : PySem.W.keepIn J.C.K (.ref f) = true) (hb : Binds J.C.K fd ps []) (ha : CL_ J cells Xs (e :: es) fs)
    (hn : LamsOk J.C jy ps.length fs) (hjy : ∀ i, ∀ p ∈ jy, (Xs i).N[p.1]? = some p.2 ∧ (Xs i).env.scope.names.lookup p.2 = some .cell) (hcl : ∀ i, (Xs i).env.cells = cells := by intro _; rfl) (hfn : ∀ i y, (Xs i).fn y = true := by intro _ _; rfl)
    (hg : ∀ i, Gl (Xs i) x := by intro _; rfl) (hdb : (x == ("__debug__" : Str)) = false := by decide) (he : ∀ i, starEach (e :: es) (Xs i).env = (false, eval e (Xs i).env) :: starEach es (Xs i).env := by intro _; rfl)
    (hpl : ∀ i, (backTo pos (starEach es (Xs i).env)).any (·.1) = false := by intro _; rfl) : CE J Xs (.Call (.Name x p) (e :: es) [] pos) (fnL g fs) := by
  obtain ⟨t, h1, h2⟩ := ha
  refine ⟨tCallL (spF J.C ps.length g) cells jy (fun σ => WE J.EW σ) t, fun i G => pe_callL (F i) G.hr (hg i) (hm i) (by rw [G.hK]; exact hk) (by rw [G.hK]; exact hb) (fun σ => passAt G.tk σ) (h1 i G) (hcl i) (hfn i) (hjy i) hdb (he i) (hpl i), fun W σ ρ H G Q pk rl h => ?_⟩
  refine h2 W σ ρ H G _ pk rl ?_
  unfold fnL at h
  cases z : fs ρ with
  | stuck => rw [z] at h; exact h.elim
  | exc c ns ds ρ' => rw [z] at h; exact h
  | ok xs ρ1 =>
    rw [z] at h
    have h := Got.bind h
    obtain ⟨n1, n2⟩ := hn ρ xs ρ1 z
    intro H' G' ge r' vs wk S cf
    exact callL_ok _ n1 n2 r' wk cf (h H' G' ge r')
end
end DL
namespace DL
open PySem L2

/-! ## a lambda's body -/
def SV.isClo : SV → Bool
  | .clo _ _ => true
  | _ => false
def Fm.sub (W : Fm) (S : Addr → Option Obj) : Fm := { W with Z := subS W.Z S, N := fun a => W.N a ∧ S a = none, B := fun i a => W.B i a ∧ S a = none, S := fun a => match S a with
  | some _ => none
  | none => W.S a }
section
variable {C : Cst} {W : Fm} {σ : St} {ρ ρ' : Env} {H G H' G' : Hp} {S : Addr → Option Obj}
theorem Rel.sub (r : Rel C W σ ρ H G) (hS : ∀ a o, S a = some o → W.S a = some o) (nc : ∀ i, (ρ.at i).isClo = false) : Rel C (W.sub S) σ ρ (subS H S) G := by
  have inH : ∀ a o, S a = some o → W.N a ∧ H a = some (.frz o xTrue) := fun a o e => r.sx (a, o) (hS a o e)
  have keep : ∀ b u, H b = some u → (∀ o, u ≠ .frz o xTrue) → subS H S b = some u := fun b u e n => by
    cases y : S b with
    | some o => have := (inH b o y).2; rw [e] at this; cases this; exact absurd rfl (n o)
    | none => rw [subS_none y]; exact e
  have keepN : ∀ b u, S b = none → H b = some u → subS H S b = some u := fun b u y e => by rw [subS_none y]; exact e
  refine ⟨fun b u e => ?_, fun b u e => ?_, fun b q => ?_, fun i b q => ?_, r.pn, r.ln, fun i => ?_, r.ne, fun p hp => ?_, fun p hp => ?_⟩
  · cases y : S b with
    | some o => rw [(r.nn b (inH b o y).1).1] at e; cases e
    | none => exact keepN b u y (r.gh _ _ e)
  · obtain ⟨e1, y⟩ := subS_of (show subS W.Z S b = some u from e)
    exact keepN b u y (r.zh _ _ e1)
  · obtain ⟨h1, o, h2⟩ := r.nn b q.1
    exact ⟨h1, o, keepN b o q.2 h2⟩
  · obtain ⟨o, ho⟩ := r.bz i b q.1
    exact ⟨o, (subS_none q.2).trans ho⟩
  · have q := r.at_ i
    cases s : ρ.at i with
    | un => trivial
    | dat d => rw [s] at q; exact q
    | own d =>
      rw [s] at q
      obtain ⟨b, h1, h2, h3, h4, h5⟩ := q
      have y : S b = none := by
        cases y : S b with
        | none => rfl
        | some o => exact absurd (inH b o y).1 h5
      exact ⟨b, h1, h2.move (fun o q => keepN b o y q) (Ge.refl _), h3, (subS_none y).trans h4, fun z => h5 z.1⟩
    | brw d =>
      rw [s] at q
      obtain ⟨b, h1, h2, h3⟩ := q
      have y : S b = none := by
        cases y : S b with
        | none => rfl
        | some o =>
          exfalso
          obtain ⟨u, hu⟩ := r.bz i b h3
          have e1 := r.zh _ _ hu
          rw [(inH b o y).2] at e1; cases e1
          cases d with
          | lst _ => obtain ⟨_, z, _⟩ := h2; rw [hu] at z; cases z
          | ins _ _ _ => obtain ⟨_, _, z, _⟩ := h2; rw [hu] at z; cases z
          | dct _ _ =>
            obtain ⟨_, z, _⟩ := h2
            rcases z with z | ⟨o', z⟩ <;> (rw [hu] at z; cases z)
          | _ => exact h2.elim
      exact ⟨b, h1, h2.move (fun o q => (subS_none y).trans q) (Ge.refl _), h3, y⟩
    | exv c ns vs => rw [s] at q; exact q
    | clo id ds => have := nc i; rw [s] at this; cases this
  · have hp : (match S p.1 with | some _ => none | none => W.S p.1) = some p.2 := hp
    cases y : S p.1 with
    | some o => rw [y] at hp; cases hp
    | none => rw [y] at hp; exact ⟨⟨(r.sx p hp).1, y⟩, keepN _ _ y (r.sx p hp).2⟩
  · obtain ⟨h1, h2, h3⟩ := r.tb p hp
    obtain ⟨ps, hP, _⟩ := id h3
    have y : S p.1 = none := by
      cases y : S p.1 with
      | none => rfl
      | some o => have := (inH _ o y).2; rw [hP] at this; cases this
    exact ⟨⟨h1, y⟩, (subS_none y).trans h2, h3.ge (fun o q => keepN _ _ y q) (Ge.refl _)⟩
theorem Rel.unsub {σ0 : St} {ρ0 : Env} {H0 G0 : Hp} (r : Rel C W σ0 ρ0 H0 G0) (hS : ∀ a o, S a = some o → W.S a = some o) (r' : Rel C (W.sub S) σ ρ' H' G') (br : Bare S H') :
    Rel C W σ ρ' (addS H' S) G' ∧ ∀ v x, VOk C (W.sub S) σ ρ' H' G' v x → (∀ i, x ≠ .slot i) → VOk C W σ ρ' (addS H' S) G' v x := by
  have keep : ∀ b o, H' b = some o → addS H' S b = some o := fun b o e => by
    cases y : S b with
    | some u => rw [br b u y] at e; cases e
    | none => rw [addS_none y]; exact e
  have no : ∀ b o, H' b = some o → S b = none := fun b o e => by
    cases y : S b with
    | some u => rw [br b u y] at e; cases e
    | none => rfl
  have inH : ∀ a o, S a = some o → W.N a ∧ H0 a = some (.frz o xTrue) := fun a o e => r.sx (a, o) (hS a o e)
  refine ⟨⟨fun b u e => keep b u (r'.gh _ _ e), fun b u e => ?_, fun b q => ?_, r.bz, r'.pn, r'.ln, fun i => ?_, r'.ne, fun p hp => ⟨(r.sx p hp).1, ?_⟩, fun p hp => ⟨(r.tb p hp).1, (r.tb p hp).2.1, ?_⟩⟩, fun v x h hx => ?_⟩
  · cases y : S b with
    | some o =>
      have e1 := r.zh _ _ e
      rw [(inH b o y).2] at e1; cases e1
      exact addS_some y
    | none => exact keep b u (r'.zh b u ((subS_none y).trans e))
  · cases y : S b with
    | some o =>
      refine ⟨?_, _, addS_some y⟩
      cases z : G' b with
      | none => rfl
      | some u => rw [no b u (r'.gh _ _ z)] at y; cases y
    | none =>
      obtain ⟨h1, o, h2⟩ := r'.nn b ⟨q, y⟩
      exact ⟨h1, o, keep b o h2⟩
  · have q := r'.at_ i
    cases s : ρ'.at i with
    | un => trivial
    | dat d => rw [s] at q; exact q
    | own d =>
      rw [s] at q
      obtain ⟨b, h1, h2, h3, h4, h5⟩ := q
      obtain ⟨u, hu⟩ := h2.there
      have y := no b u hu
      exact ⟨b, h1, h2.move (fun o q => keep b o q) (Ge.refl _), h3, (subS_none y).symm.trans h4, fun z => h5 ⟨z, y⟩⟩
    | brw d =>
      rw [s] at q
      obtain ⟨b, h1, h2, h3, y⟩ := q
      exact ⟨b, h1, h2.move (fun o q => (subS_none y).symm.trans q) (Ge.refl _), h3⟩
    | exv c ns vs => rw [s] at q; exact q
    | clo id ds =>
      rw [s] at q
      obtain ⟨f, cl, ws, h1, h2, h3, h4⟩ := q
      have up : ∀ c o, (W.sub S).S c = some o → W.S c = some o := fun c o e => by
        have e : (match S c with | some _ => none | none => W.S c) = some o := e
        cases y : S c with
        | some u => rw [y] at e; cases e
        | none => rw [y] at e; exact e
      exact ⟨f, cl, ws, h1, h2, ⟨h3.len, fun y c e => let ⟨o, v, e1, e2⟩ := h3.all y c e; ⟨o, v, up _ _ e1, e2⟩, h3.inj, fun i y e => let ⟨c, o, u, w, e1, e2, e3⟩ := h3.has i y e; ⟨c, o, u, w, e1, up _ _ e2, e3⟩⟩, h4⟩
  · cases y : S p.1 with
    | some o => have e1 := hS _ o y; rw [hp] at e1; cases e1; exact addS_some y
    | none => exact keep _ _ (r'.sx p (by show (match S p.1 with | some _ => none | none => W.S p.1) = some p.2; rw [y]; exact hp)).2
  · exact (r'.tb p hp).2.2.ge (fun o q => keep _ _ q) (Ge.refl _)
  · cases x with
    | dat d => exact h
    | slot i => exact absurd rfl (hx i)
    | own d =>
      obtain ⟨a, rfl, h1, h2, h3, h4, h5⟩ := h
      obtain ⟨u, hu⟩ := h1.there
      have y := no a u hu
      exact ⟨a, rfl, h1.move (fun o q => keep a o q) (Ge.refl _), h2, (subS_none y).symm.trans h3, fun z => h4 ⟨z, y⟩, h5⟩
/-- plain values behind the slots -/
theorem Rel.dats (r : Rel C W σ ρ H G) {ws : List V} {ds : List D} (h : IsDs C G ws ds) : Rel C W (σ ++ ws.map some) (ρ ++ ds.map .dat) H G := by
  have lρ := r.ln
  have atL : ∀ i, i < ρ.length → Env.at (ρ ++ ds.map SV.dat) i = ρ.at i := fun i hi => by unfold Env.at; rw [List.getElem?_append_left hi]
  have atR : ∀ i, ρ.length ≤ i → Env.at (ρ ++ ds.map SV.dat) i = match ds[i - ρ.length]? with | some d => .dat d | none => .un := fun i hi => by
    unfold Env.at
    rw [List.getElem?_append_right hi, List.getElem?_map]
    cases ds[i - ρ.length]? <;> rfl
  have own : ∀ i, (Env.at (ρ ++ ds.map SV.dat) i).isOwn = true → i < ρ.length ∧ (ρ.at i).isOwn = true := fun i e => by
    by_cases hi : i < ρ.length
    · rw [atL i hi] at e; exact ⟨hi, e⟩
    · rw [atR i (by omega)] at e
      cases z : ds[i - ρ.length]? <;> (rw [z] at e; cases e)
  refine ⟨r.gh, r.zh, r.nn, r.bz, fun p hp => ?_, by simp [lρ, h.length], fun i => ?_, fun i j a ij h1 h2 e1 e2 => ?_, r.sx, r.tb⟩
  · have := r.pn p hp
    rw [List.getElem?_append_left (List.getElem?_eq_some_iff.mp this).1]; exact this
  · by_cases hi : i < ρ.length
    · rw [atL i hi, List.getElem?_append_left (by omega)]; exact r.at_ i
    · rw [atR i (by omega), List.getElem?_append_right (by omega), List.getElem?_map, lρ]
      cases z : ds[i - ρ.length]? with
      | none => trivial
      | some d =>
        obtain ⟨v, h1, h2⟩ := h.get z
        exact ⟨v, by rw [h1]; rfl, h2⟩
  · obtain ⟨l1, o1⟩ := own i h1
    obtain ⟨l2, o2⟩ := own j h2
    rw [List.getElem?_append_left (by omega)] at e1 e2
    exact r.ne i j a ij o1 o2 e1 e2
/-- the first slots alone -/
theorem Rel.cut {τ : St} {n : Nat} (r : Rel C W (σ ++ τ) ρ H G) (hn : σ.length = n) (pn : ∀ p ∈ W.pin, σ[p.1]? = some (some (.ref p.2))) :
    Rel C W σ (ρ.take n) H G ∧ ∀ v x, VOk C W (σ ++ τ) ρ H G v x → (∀ i, x ≠ .slot i) → VOk C W σ (ρ.take n) H G v x := by
  have hl := r.ln
  rw [List.length_append] at hl
  have tk : ∀ i, Env.at (ρ.take n) i = if i < n then ρ.at i else .un := fun i => by
    unfold Env.at
    rw [List.getElem?_take]
    split <;> rfl
  have own : ∀ i, (Env.at (ρ.take n) i).isOwn = true → i < n ∧ (ρ.at i).isOwn = true := fun i e => by
    rw [tk] at e
    split at e
    · rename_i h; exact ⟨h, e⟩
    · cases e
  refine ⟨⟨r.gh, r.zh, r.nn, r.bz, pn, by rw [List.length_take]; omega, fun i => ?_, fun i j a ij h1 h2 e1 e2 => ?_, r.sx, r.tb⟩, fun v x h hx => ?_⟩
  · rw [tk]
    split
    · rename_i h
      have q := r.at_ i
      rw [List.getElem?_append_left (by omega)] at q
      exact q
    · trivial
  · obtain ⟨l1, o1⟩ := own i h1
    obtain ⟨l2, o2⟩ := own j h2
    exact r.ne i j a ij o1 o2 (by rw [List.getElem?_append_left (by omega)]; exact e1) (by rw [List.getElem?_append_left (by omega)]; exact e2)
  · cases x with
    | dat d => exact h
    | slot i => exact absurd rfl (hx i)
    | own d =>
      obtain ⟨a, rfl, h1, h2, h3, h4, h5⟩ := h
      refine ⟨a, rfl, h1, h2, h3, h4, fun i hi e => ?_⟩
      obtain ⟨l1, o1⟩ := own i hi
      exact h5 i o1 (by rw [List.getElem?_append_left (by omega)]; exact e)
end
def trimF (n : Nat) : FR → FR
  | .ok x outs => .ok x (outs.take n)
  | .exc c ns vs outs => .exc c ns vs (outs.take n)
  | .stuck => .stuck
/-- what a call of a lambda promises: m, its mirror over its parameters and what it captured -/
def LamOk (P : Program) (w : World) (mg : Str → Option Value) (base : Heap) (C : Cst) (k id : Nat) (m : FnM) : Prop := ∀ (A : Around) (outer : List PySem.Env) (s : Shared) (H : Hp) (us : List Value) (vs : List V) (f : Addr) (cl : List (Str × Addr)) (ws : List V) (W : Fm) (G : Hp) (args : List SV) (ds : List D) (Q : VK) (E : XK),
  Room k A → Env0 P w C.K mg base A outer s H → Vals vs us → LamAt C G id cl f → CellsS W.S cl (C.L id).fr ws → IsDs C G ws ds → vs.length = (C.L id).ps.length → W.ex = none → Rel C W (vs.map some) args H G → (∀ i, (Env.at args i).isClo = false) →
  (∀ p ∈ W.pin, (Env.at args p.1).isOwn = true) → (∀ j a, (Env.at args j).isOwn = true → vs[j]? = some (.ref a) → (j, a) ∈ W.pin) →
  (match trimF vs.length (m (args ++ ds.map SV.dat)) with
    | .ok x outs => ∀ v H' G', Ge G G' → Rel C W (vs.map some) outs H' G' → VOk C W (vs.map some) outs H' G' v x → (∀ i, x ≠ .slot i) → Q v H'
    | .exc c ns es outs => ∀ d H' G', Ge G G' → Rel C W (vs.map some) outs H' G' → ExcAt C H' G' d ns es → E (.ref (C.CA c)) d H'
    | .stuck => False) →
  codeAny (model P w) A (.call (.ref f) ⟨us, []⟩) (CR (L2.CX P w) outer P w H s Q E) s
theorem LamOk.mono {P : Program} {w : World} {mg : Str → Option Value} {base : Heap} {C : Cst} {j k id : Nat} {m : FnM} (h : LamOk P w mg base C j id m) (hk : j ≤ k) : LamOk P w mg base C k id m :=
  fun A outer s H us vs f cl ws W G args ds Q E hr => h A outer s H us vs f cl ws W G args ds Q E (hr.mono hk)
abbrev lamNF (L : LamI) (cl : List (Str × Addr)) (c : Addr) : NdefX.NF := ⟨"<lambda>", L.q, L.params, [], L.scope, cl, c⟩
section
variable {P : Program} {w : World} {C : Cst} {mg : Str → Option Value} {base : Heap}
open Classical in
/-- THE RULE of a lambda -/
theorem lam_ok {id k m n : Nat} {N : List Str} {L : LamI} {Pn : List Nat} {fe : Env → R XV} (hL : C.L id = L) (hS : NdefX.nscB N L.ps L.fr L.scope = true) (hn : L.ps.length + L.fr.length = n) (hm : N.length = n + m)
    (hbind : ∀ (cl : List (Str × Addr)) (pm ctv : Value) (c : Addr) (us : List Value), us.length = L.ps.length → bindArgs (PySem.W.kla_fn "<lambda>" L.q L.params L.body L.scope cl pm (.ref c) ctv) ⟨us, []⟩ = pure (L.ps.zip us))
    (hb : ∀ (cl : List (Str × Addr)) (c f : Addr) (A : Around) (outer : List PySem.Env) (s : Shared) (H : Hp) (E : XK), CE ⟨C, k, fun c d _ H => E c d H, Pn, none⟩ (fun _ : Unit => NdefX.ncx (L2.CX P w) P w C.K mg base N (lamNF L cl c) f A outer s H E) L.body fe) :
    LamOk P w mg base C (k + 1) id (runF n m Pn (retS fe)) := by
  subst hL
  intro A outer s H us vs f cl ws W G args ds Q E hr e0 rv la cs hd hl hx r nc hp1 hp2 h
  have S := NdefX.nscope_by hS
  obtain ⟨c, pm, ctv, hf, hc⟩ := la
  have hfH := r.gh _ _ hf
  obtain ⟨ho, _⟩ := e0.hok f _ hfH
  obtain ⟨⟨oc, vv, t, h1, h2, h3⟩, _, _⟩ := e0.hok c _ (r.gh _ _ hc)
  -- the cells of this lambda
  let Sc : Addr → Option Obj := fun a => if ∃ y, cl.lookup y = some a then W.S a else none
  have inS : ∀ y a, cl.lookup y = some a → Sc a = W.S a := fun y a e => if_pos ⟨y, e⟩
  have sub : ∀ a o, Sc a = some o → W.S a = some o := fun a o e => by
    have e : (if ∃ y, cl.lookup y = some a then W.S a else none) = some o := e
    split at e
    · exact e
    · cases e
  have fr : ∀ a o, Sc a = some o → H a = some (.frz o xTrue) := fun a o e => (r.sx (a, o) (sub a o e)).2
  have at0 : ∀ y a, cl.lookup y = some a → subS H Sc a = none := fun y a e => by
    obtain ⟨o, v, e1, e2⟩ := cs.all y a e
    exact subS_some (o := o) (by rw [inS y a e]; exact e1)
  have C0 : NdefX.CellsAt cl (C.L id).fr (ws.map some) s.heap (subS H Sc) := by
    refine ⟨by rw [List.length_map]; exact cs.len, fun y a e => ⟨at0 y a e, ?_⟩, cs.inj, fun i y e => ?_⟩
    · obtain ⟨o, v, e1, e2⟩ := cs.all y a e
      obtain ⟨e3, _⟩ := e0.hok a _ (r.sx (a, o) e1).2
      exact ⟨v, o, e3, e2⟩
    · obtain ⟨a, o, u, w', e1, e2, e3, e4, e5⟩ := cs.has i y e
      refine ⟨a, e1, fun v ev => ?_⟩
      rw [List.getElem?_map, e4] at ev; cases ev
      obtain ⟨e6, _⟩ := e0.hok a _ (r.sx (a, o) e2).2
      exact ⟨u, e5, o, e6, e3⟩
  have lim : s.heap.NoLimit := e0.mod.nolimit.keeps fun b o e => (e0.bs b o e).1
  refine codeAny_mono (R := CR (L2.CX P w) outer P w (subS H Sc) s (fun v H' => Bare Sc H' → Q v (addS H' Sc)) fun cls d H' => Bare Sc H' → E cls d (addS H' Sc)) ?_ fun res s' q => cr_sub fr e0.hok e0.frf q
  refine PySem.W.kla_callFunE hr.depth ho rfl S.co S.gen rfl ⟨c, oc, vv, t, rfl, h1, h2, h3⟩ ?_
  rw [hbind cl pm ctv c us (by rw [← rv.length]; exact hl)]
  refine wpAny_pure (PySem.wpAny_newFunctionEnv S.nocell (fun ⟨x, _⟩ hy => S.par x (List.of_mem_zip hy).1) (fun g hns hsb => ⟨lim.fresh _ hsb, ?_⟩) S.kind)
  show codeAny _ _ (.expr (C.L id).body (NdefX.envF (lamNF (C.L id) cl c) f s.heap.objs.size)) _ _
  have kp : ∀ b o, s.heap.get? b = some o → g.get? b = some o := fun b o e => hsb.extBut b o (Nat.ne_of_lt (Heap.lt_size e)) (Heap.get?_push_of_some _ e)
  have I := NdefX.inv_startN (CX := L2.CX P w) (N := N) (F := lamNF (C.L id) cl c) (f := f) (E := fun cls d H' => Bare Sc H' → E cls d (addS H' Sc)) (tk := s.toks + ((C.L id).ps.zip us).length) S hr.hd (env0_subS e0 fr) hl rv C0 hns kp
  obtain ⟨te, t1, t2⟩ := hb cl c f A outer s (subS H Sc) fun cls d H' => Bare Sc H' → E cls d (addS H' Sc)
  have pe := t1 () ⟨rfl, rfl, S.nd, hr.deeper _, takes_of rfl rfl rfl rfl, passes_of rfl⟩
  refine PySem.W.kla_codeExpr (wpAny_mono (pe.run [] _ _ (subS H Sc) (fun v H' => Bare Sc H' → Q v (addS H' Sc)) I ?_) (fun v s' hq => ?_) fun e s' hq => hq)
  · -- the mirror
    have hlw : ws.length = (C.L id).fr.length := cs.len
    have hal : args.length = vs.length := by rw [← r.ln, List.length_map]
    have est : NdefX.startF N vs (ws.map some) = (vs.map some ++ ws.map some) ++ List.replicate m none := by
      unfold NdefX.startF
      rw [List.length_map, hm, List.append_assoc, show n + m - vs.length - ws.length = m by omega]
    rw [est]
    have rb : Rel C (W.sub Sc) (vs.map some ++ ws.map some) (args ++ ds.map SV.dat) (subS H Sc) G := (r.sub sub nc).dats hd
    have rb' : Rel C (W.sub Sc) ((vs ++ ws).map some) (args ++ ds.map SV.dat) (subS H Sc) G := by rw [List.map_append]; exact rb
    have ownA : ∀ j, (Env.at (args ++ ds.map SV.dat) j).isOwn = true → j < vs.length ∧ (Env.at args j).isOwn = true := fun j e => by
      unfold Env.at at e ⊢
      by_cases hj : j < args.length
      · rw [List.getElem?_append_left hj] at e; exact ⟨by omega, e⟩
      · rw [List.getElem?_append_right (by omega), List.getElem?_map] at e
        cases z : ds[j - args.length]? <;> (rw [z] at e; cases e)
    have hp2' : ∀ j a, (Env.at (args ++ ds.map SV.dat) j).isOwn = true → (vs ++ ws)[j]? = some (.ref a) → (j, a) ∈ (W.sub Sc).pin := fun j a e hv => by
      obtain ⟨h1, h2⟩ := ownA j e
      rw [List.getElem?_append_left h1] at hv
      exact hp2 j a h2 hv
    -- back from the body
    have back : ∀ {ρ' : Env} {H' G' : Hp}, Ge G G' → Rel C (W.sub Sc) ((vs.map some ++ ws.map some) ++ List.replicate m none) ρ' H' G' → Bare Sc H' →
        Rel C W (vs.map some) ((outsOf (args ++ ds.map SV.dat) ρ').take vs.length) (addS H' Sc) G' ∧
        ∀ v x, VOk C (W.sub Sc) ((vs ++ ws).map some) (outsOf (args ++ ds.map SV.dat) ρ') H' G' v x → (∀ i, x ≠ .slot i) → VOk C W (vs.map some) ((outsOf (args ++ ds.map SV.dat) ρ').take vs.length) (addS H' Sc) G' v x := fun {ρ' H' G'} g r' br => by
      have b1 := body_rel rb' g hp2' r'
      rw [List.map_append] at b1
      obtain ⟨c1, c2⟩ := b1.cut (n := vs.length) (by rw [List.length_map]) (fun p hp => r.pn p hp)
      obtain ⟨u1, u2⟩ := r.unsub sub c1 br
      refine ⟨u1, fun v x hv hx => u2 v x (c2 v x ?_ hx) hx⟩
      rw [List.map_append] at hv
      exact hv
    unfold runF at h
    by_cases hoI : ownIn Pn 0 (args ++ ds.map SV.dat) = true
    case neg => rw [if_neg hoI] at h; exact h.elim
    rw [if_pos hoI] at h
    refine t2 (W.sub Sc) _ (args ++ ds.map SV.dat ++ List.replicate m .un) (subS H Sc) G _ ⟨fun p hp => ?_, hx⟩ (rb.more m) ?_
    · have hi : p.1 < args.length := by
        have := own_lt (ρ := args) (i := p.1) fun z => by have := hp1 p hp; rw [z] at this; cases this
        exact this
      have := ownIn_mem (i := p.1) (n := 0) hoI (by
        unfold Env.at
        rw [List.getElem?_append_left hi]
        exact hp1 p hp)
      rwa [Nat.zero_add] at this
    · unfold retS at h
      cases z : fe (args ++ ds.map SV.dat ++ List.replicate m .un) with
      | stuck => rw [z] at h; exact h.elim
      | exc c ns es ρ' =>
        rw [z] at h
        intro d H' G' g r' ex br
        exact h d _ G' g (back g r' br).1 ex
      | ok x ρ' =>
        rw [z] at h
        intro H' G' g r' v vk br
        obtain ⟨b1, b2⟩ := back g r' br
        cases x with
        | dat d => exact h v _ G' g b1 (b2 v (.dat d) vk fun i e => (by cases e)) fun i e => (by cases e)
        | own d =>
          rw [← List.map_append] at r' vk
          have r'' : Rel C (W.sub Sc) ((vs ++ ws).map some ++ List.replicate m none) ρ' H' G' := r'
          exact h v _ G' g b1 (b2 v (.own d) (body_own rb' hp2' r'' vk) fun i e => (by cases e)) fun i e => (by cases e)
        | slot i =>
          simp only [R.bind, endF] at h
          by_cases hni : n ≤ i
          · rw [if_pos hni] at h
            rw [← List.map_append] at r' vk
            have r'' : Rel C (W.sub Sc) ((vs ++ ws).map some ++ List.replicate m none) ρ' H' G' := r'
            rcases vk with ⟨v1, ⟨d, v2⟩ | ⟨d, v2⟩ | ⟨_, _, v2⟩⟩
            · rw [v2] at h
              exact h v _ G' g b1 (b2 v (.own d) (body_slot rb' hp2' r'' (by rw [List.length_append, List.length_map, ← hd.length]; omega) v2 v1) fun i e => (by cases e)) fun i e => (by cases e)
            · rw [v2] at h; exact h.elim
            · rw [v2] at h; exact h.elim
          · rw [if_neg hni] at h; exact h.elim
  · obtain ⟨v', H', J, rvv, q⟩ := hq
    exact ⟨v', H', J.os, J.bare, J.base, J.hok, rvv, q⟩
end
end DL
namespace DL
open PySem L2

/-! ## a handed lambda is called -/
def FzFn (H : Hp) (f : Addr) : Prop := ∃ L cl pm c ctv, H f = some (.frz (lamObj L cl pm c ctv) xTrue)
def tClo (i : Nat) (t : TA) (R : Addr → List V → Hp → VK → XK → Prop) (E : St → XK) : TE := fun σ H Q => ∃ f, σ[i]? = some (some (.ref f)) ∧ FzFn H f ∧ t σ H fun vs H1 => FzFn H1 f ∧ R f vs H1 Q (E σ)
section
variable {X : Cx} {k i : Nat} {x : Str} {p pos : Pos} {e : Expr} {es : List Expr} {t : TA} {R : Addr → List V → Hp → VK → XK → Prop} {E : St → XK}
theorem fzFn_at {pins : List (Addr × Obj)} {σ : St} {H : Hp} {s : Shared} {f : Addr} (I : Inv X pins σ H s) (h : FzFn H f) : PySem.W.FnAt f s.heap := by
  obtain ⟨L, cl, pm, c, ctv, h⟩ := h
  obtain ⟨ho, _⟩ := I.hok f _ h
  exact ⟨_, _, _, _, ho⟩
theorem clo_run {pins : List (Addr × Obj)} {σ : St} {H : Hp} {s : Shared} {Q : VK} {f : Addr} {us : List Value} {vs : List V} (hR : ∀ (A : Around) (outer : List PySem.Env) (s : Shared) (H : Hp) (us : List Value) (vs : List V) (f : Addr) (Q : VK) (E : XK), Room k A → Env0 X.prog X.w X.K X.mg X.base A outer s H → Vals vs us → R f vs H Q E → codeAny (model X.prog X.w) A (.call (.ref f) ⟨us, []⟩) (CR (L2.CX X.prog X.w) outer X.prog X.w H s Q E) s)
    (hr : Room k X.A) (hx : ∀ σ, PassesAt (L2.CX X.prog X.w) X σ (E σ)) (I : Inv X pins σ H s) (r : Vals vs us) (q : R f vs H Q (E σ)) : wpAny (model X.prog X.w) X.A (call (.ref f) us) (EP X pins σ Q) X.xe s := by
  refine wpAny_call (codeAny_mono (hR X.A X.stack s H us vs f Q (E σ) hr I.env0 r q) fun res s' hq => ?_)
  cases res with
  | error e => exact hx σ pins H s e s' I hq
  | ok fl => cases fl <;> first | exact I.after hq | exact False.elim hq
theorem pe_clo (hR : ∀ (A : Around) (outer : List PySem.Env) (s : Shared) (H : Hp) (us : List Value) (vs : List V) (f : Addr) (Q : VK) (E : XK), Room k A → Env0 X.prog X.w X.K X.mg X.base A outer s H → Vals vs us → R f vs H Q E → codeAny (model X.prog X.w) A (.call (.ref f) ⟨us, []⟩) (CR (L2.CX X.prog X.w) outer X.prog X.w H s Q E) s)
    (hr : Room k X.A) (hx : ∀ σ, PassesAt (L2.CX X.prog X.w) X σ (E σ)) (hN : X.N[i]? = some x) (hv : Vis X.env.scope x) (ha : PA X (e :: es) t) (hd : (x == ("__debug__" : Str)) = false) (hcd : (x == ("__classdict__" : Str)) = false)
    (he : starEach (e :: es) X.env = (false, eval e X.env) :: starEach es X.env) (hpl : (backTo pos (starEach es X.env)).any (·.1) = false) : PE X (.Call (.Name x p) (e :: es) [] pos) (tClo i t R E) := by
  refine ⟨fun pins s σ H Q I h => ?_⟩
  obtain ⟨f, hs, hf, ht⟩ := h
  refine wpAny_Call_Name_kw (thn ((pe_var (pos := p) hN hv hd hcd).run pins s σ H (fun v H1 => v = .ref f ∧ H1 = H) I ⟨.ref f, hs, rfl, rfl⟩) fun u s1 q1 => ?_)
  obtain ⟨v, H1, I1, r1, rfl, rfl⟩ := q1
  obtain rfl : u = Value.ref f := r1
  refine PySem.W.callWith_F (first := []) (fzFn_at I1 hf) (thn (ha.run pos pins s1 σ H1 _ I1 ht) fun us s2 q2 => ?_) he hpl
  obtain ⟨vs, H2, I2, r, h1, q⟩ := q2
  exact ⟨fzFn_at I2 h1, clo_run hR hr hx I2 r q⟩
theorem pe_clo0 (hR : ∀ (A : Around) (outer : List PySem.Env) (s : Shared) (H : Hp) (us : List Value) (vs : List V) (f : Addr) (Q : VK) (E : XK), Room k A → Env0 X.prog X.w X.K X.mg X.base A outer s H → Vals vs us → R f vs H Q E → codeAny (model X.prog X.w) A (.call (.ref f) ⟨us, []⟩) (CR (L2.CX X.prog X.w) outer X.prog X.w H s Q E) s)
    (hr : Room k X.A) (hx : ∀ σ, PassesAt (L2.CX X.prog X.w) X σ (E σ)) (hN : X.N[i]? = some x) (hv : Vis X.env.scope x) (hd : (x == ("__debug__" : Str)) = false) (hcd : (x == ("__classdict__" : Str)) = false) : PE X (.Call (.Name x p) [] [] pos) (tClo i tNil R E) := by
  refine ⟨fun pins s σ H Q I h => ?_⟩
  obtain ⟨f, hs, hf, _, ht⟩ := h
  refine wpAny_Call_Name_kw (thn ((pe_var (pos := p) hN hv hd hcd).run pins s σ H (fun v H1 => v = .ref f ∧ H1 = H) I ⟨.ref f, hs, rfl, rfl⟩) fun u s1 q1 => ?_)
  obtain ⟨v, H1, I1, r1, rfl, rfl⟩ := q1
  obtain rfl : u = Value.ref f := r1
  exact PySem.W.callWith_F0 (first := []) (fzFn_at I1 hf) (clo_run hR hr hx I1 .nil ht)
end
/-! ### the mirror -/
def lamF (m : FnM) (ds : List D) : FnM := fun args => if args.all (fun s => !s.isClo) = true then trimF args.length (m (args ++ ds.map SV.dat)) else .stuck
def callC (tab : Nat → Option FnM) (i : Nat) (xs : List XV) (ρ : Env) : R XV := match ρ.at i with
  | .clo id ds => match tab id with
    | some m => callF (lamF m ds) xs ρ
    | none => .stuck
  | _ => .stuck
def cloS (tab : Nat → Option FnM) (i : Nat) (fs : Env → R (List XV)) : Env → R XV := fun ρ => match ρ.at i with
  | .clo _ _ => (fs ρ).bind (callC tab i)
  | _ => .stuck
def LamR (C : Cst) (tab : Nat → Option FnM) (f : Addr) (vs : List V) (H : Hp) (Q : VK) (E : XK) : Prop := ∃ id m cl ws W G args ds, tab id = some m ∧ LamAt C G id cl f ∧ CellsS W.S cl (C.L id).fr ws ∧ IsDs C G ws ds ∧ vs.length = (C.L id).ps.length ∧ W.ex = none ∧ Rel C W (vs.map some) args H G ∧ (∀ i, (Env.at args i).isClo = false) ∧
  (∀ p ∈ W.pin, (Env.at args p.1).isOwn = true) ∧ (∀ j a, (Env.at args j).isOwn = true → vs[j]? = some (.ref a) → (j, a) ∈ W.pin) ∧
  (match trimF vs.length (m (args ++ ds.map SV.dat)) with
    | .ok x outs => ∀ v H' G', Ge G G' → Rel C W (vs.map some) outs H' G' → VOk C W (vs.map some) outs H' G' v x → (∀ i, x ≠ .slot i) → Q v H'
    | .exc c ns es outs => ∀ d H' G', Ge G G' → Rel C W (vs.map some) outs H' G' → ExcAt C H' G' d ns es → E (.ref (C.CA c)) d H'
    | .stuck => False)
/-- the lambdas that may be handed over, by what they promise -/
def TabOk (P : Program) (w : World) (mg : Str → Option Value) (base : Heap) (C : Cst) (k n : Nat) (tab : Nat → Option FnM) : Prop := ∀ id m, tab id = some m → LamOk P w mg base C k id m ∧ (C.L id).ps.length = n
theorem lamR_run {P : Program} {w : World} {mg : Str → Option Value} {base : Heap} {C : Cst} {k n : Nat} {tab : Nat → Option FnM} (h : TabOk P w mg base C k n tab) : ∀ (A : Around) (outer : List PySem.Env) (s : Shared) (H : Hp) (us : List Value) (vs : List V) (f : Addr) (Q : VK) (E : XK), Room k A → Env0 P w C.K mg base A outer s H → Vals vs us → LamR C tab f vs H Q E → codeAny (model P w) A (.call (.ref f) ⟨us, []⟩) (CR (L2.CX P w) outer P w H s Q E) s := by
  intro A outer s H us vs f Q E hr e0 rv q
  obtain ⟨id, m, cl, ws, W, G, args, ds, h0, h1, h2, h3, h4, h5, h6, h7, h8, h9, h10⟩ := q
  exact (h id m h0).1 A outer s H us vs f cl ws W G args ds Q E hr e0 rv h1 h2 h3 h4 h5 h6 h7 h8 h9 h10
theorem isClo_all {args : List SV} (h : args.all (fun s => !s.isClo) = true) (i : Nat) : (Env.at args i).isClo = false := by
  unfold Env.at
  cases z : args[i]? with
  | none => rfl
  | some s => simpa using List.all_eq_true.mp h s (List.mem_of_getElem? z)
section
variable {ι : Type} {J : Jd} {Xs : ι → Cx} {e : Expr} {es : List Expr} {fs : Env → R (List XV)} {tab : Nat → Option FnM} {x : Str} {p pos : Pos} {i n : Nat}
theorem callC_ok {W : Fm} {σ : St} {ρ : Env} {H G : Hp} {vs : List V} {xs : List XV} {Q : VK} {f : Addr} (hT : ∀ id m, tab id = some m → (J.C.L id).ps.length = n) (hnl : xs.length = n) (r : Rel J.C W σ ρ H G) (w : Waits J.C σ G vs xs) (hs : σ[i]? = some (some (.ref f)))
    (h : Got J W σ G (callC tab i xs ρ) (fun x ρ' H' G' => ∀ v, VOk J.C W σ ρ' H' G' v x → Q v H')) : FzFn H f ∧ LamR J.C tab f vs H Q (WE J.EW σ) := by
  unfold callC at h
  have q := r.at_ i
  cases s : ρ.at i with
  | clo id ds =>
    rw [s] at h q
    dsimp only at h
    obtain ⟨f', cl, ws, q1, q2, q3, q4⟩ := q
    rw [hs] at q1; cases q1
    refine ⟨by obtain ⟨c, pm, ctv, z, _⟩ := q2; exact ⟨_, _, _, _, _, r.gh _ _ z⟩, ?_⟩
    cases ht : tab id with
    | none => rw [ht] at h; exact h.elim
    | some m =>
      rw [ht] at h
      dsimp only at h
      unfold callF at h
      cases z : argsOf ρ xs with
      | none => rw [z] at h; exact h.elim
      | some args =>
        rw [z] at h
        dsimp only at h
        split at h
        · rename_i hn
          obtain ⟨c1, c2, c3⟩ := call_in r w z hn
          by_cases hcl : args.all (fun s => !s.isClo) = true
          case neg => simp only [lamF, if_neg hcl] at h; exact h.elim
          simp only [lamF, if_pos hcl] at h
          have hal : args.length = vs.length := by rw [← c1.ln, List.length_map]
          refine ⟨id, m, cl, ws, callFm J.C W σ ρ xs vs H G, G, args, ds, ht, q2, q3, q4, by rw [w.get.1, hnl, hT id m ht], rfl, c1, isClo_all hcl, c2, c3, ?_⟩
          rw [hal] at h
          cases zg : trimF vs.length (m (args ++ ds.map SV.dat)) with
          | stuck => rw [zg] at h; exact h.elim
          | ok x outs =>
            rw [zg] at h
            intro v H' G' ge r' vk hx
            obtain ⟨o1, o2⟩ := call_out r w ge r'
            exact h H' G' ge o1 v (o2 v x hx vk)
          | exc c ns es outs =>
            rw [zg] at h
            intro d H' G' ge r' ex
            obtain ⟨o1, o2⟩ := call_out r w ge r'
            exact h d H' G' ge o1 ex
        · exact h.elim
  | un => rw [s] at h; exact h.elim
  | dat _ => rw [s] at h; exact h.elim
  | own _ => rw [s] at h; exact h.elim
  | brw _ => rw [s] at h; exact h.elim
  | exv _ _ _ => rw [s] at h; exact h.elim
theorem ev_clo {ta : TA} (hT : ∀ id m, tab id = some m → (J.C.L id).ps.length = n) (ha : EvA J ta fs) (hn : ∀ ρ xs ρ', fs ρ = .ok xs ρ' → xs.length = n) : EvE J (tClo i ta (LamR J.C tab) fun σ => WE J.EW σ) (cloS tab i fs) := by
  intro W σ ρ H G Q pk rl h
  unfold cloS at h
  have q := rl.at_ i
  cases s : ρ.at i with
  | clo id ds =>
    rw [s] at h q
    dsimp only at h
    obtain ⟨f, cl, ws, q1, ⟨c, pm, ctv, q2, _⟩, _⟩ := q
    refine ⟨f, q1, ⟨_, _, _, _, _, rl.gh _ _ q2⟩, ?_⟩
    refine ha W σ ρ H G _ pk rl ?_
    cases z : fs ρ with
    | stuck => rw [z] at h; exact h.elim
    | exc c ns ds ρ' => rw [z] at h; exact h
    | ok xs ρ1 =>
      rw [z] at h
      have h := Got.bind h
      intro H' G' ge r' vs wk
      exact callC_ok hT (hn ρ xs ρ1 z) r' wk q1 (h H' G' ge r')
  | un => rw [s] at h; exact h.elim
  | dat _ => rw [s] at h; exact h.elim
  | own _ => rw [s] at h; exact h.elim
  | brw _ => rw [s] at h; exact h.elim
  | exv _ _ _ => rw [s] at h; exact h.elim
/-- a(e, ..), a a name that holds a handed lambda -/
theorem ce_clo (i : Nat) (T : ∀ j, TabOk (Xs j).prog (Xs j).w (Xs j).mg (Xs j).base J.C J.k n tab) (hT : ∀ id m, tab id = some m → (J.C.L id).ps.length = n) (ha : CA_ J Xs (e :: es) fs) (hn : ∀ ρ xs ρ', fs ρ = .ok xs ρ' → xs.length = n)
    (hN : ∀ j, (Xs j).N[i]? = some x := by intro _; rfl) (hv : ∀ j, Vis (Xs j).env.scope x := by first | exact fun _ => Or.inl rfl | exact fun _ => Or.inr (Or.inl rfl) | exact fun _ => Or.inr (Or.inr rfl))
    (hd : (x == ("__debug__" : Str)) = false := by decide) (hcd : (x == ("__classdict__" : Str)) = false := by decide) (he : ∀ i, starEach (e :: es) (Xs i).env = (false, eval e (Xs i).env) :: starEach es (Xs i).env := by intro _; rfl)
    (hpl : ∀ i, (backTo pos (starEach es (Xs i).env)).any (·.1) = false := by intro _; rfl) : CE J Xs (.Call (.Name x p) (e :: es) [] pos) (cloS tab i fs) := by
  obtain ⟨t, h1, h2⟩ := ha
  refine ⟨_, fun j G => pe_clo (k := J.k) (fun A outer s H us vs f Q E hr e0 => ?_) G.hr (fun σ => passAt G.tk σ) (hN j) (hv j) (h1 j G) hd hcd (he j) (hpl j), ev_clo hT h2 hn⟩
  rw [G.hK] at e0
  exact lamR_run (T j) A outer s H us vs f Q E hr e0
theorem ce_clo0 (i : Nat) (T : ∀ j, TabOk (Xs j).prog (Xs j).w (Xs j).mg (Xs j).base J.C J.k 0 tab) (hT : ∀ id m, tab id = some m → (J.C.L id).ps.length = 0) (hN : ∀ j, (Xs j).N[i]? = some x := by intro _; rfl)
    (hv : ∀ j, Vis (Xs j).env.scope x := by first | exact fun _ => Or.inl rfl | exact fun _ => Or.inr (Or.inl rfl) | exact fun _ => Or.inr (Or.inr rfl)) (hd : (x == ("__debug__" : Str)) = false := by decide) (hcd : (x == ("__classdict__" : Str)) = false := by decide) : CE J Xs (.Call (.Name x p) [] [] pos) (cloS tab i nilS) := by
  refine ⟨_, fun j G => pe_clo0 (k := J.k) (fun A outer s H us vs f Q E hr e0 => ?_) G.hr (fun σ => passAt G.tk σ) (hN j) (hv j) hd hcd, ev_clo (n := 0) hT (fun W σ ρ H G Q pk rl k => k H G (Ge.refl _) rl [] trivial) fun ρ xs ρ' z => by cases z; rfl⟩
  rw [G.hK] at e0
  exact lamR_run (T j) A outer s H us vs f Q E hr e0
end
end DL
namespace DL
open PySem L2 PyProof.Rows
open PySem.W (EachIs AllAlike dataKind SortsAt dataLe alike alikeAll dataLt)

/-! ## sorted: tuples among which some are empty -/
section
variable {prog : Program} {w : World} {A : Around} {E : Value → Shared → Prop} {s : Shared}
theorem call_tuple_lt {Q : Value → Shared → Prop} {l b : Addr} {items items2 : Array Value} {e r : Nat → Bool} (hl : s.heap.IsTuple l items) (hb : s.heap.IsTuple b items2)
    (he : ∀ j (h1 : j < items.size) (h2 : j < items2.size), SeqAt.EqAt A.in1 s items[j] items2[j] (e j)) (hr : ∀ j (h1 : j < items.size) (h2 : j < items2.size), e j = false → SeqAt.RcLt A.in1 s items[j] items2[j] (r j))
    (h : Q (.bool (SeqAt.firstLt e r (decide (items.size < items2.size)) (List.range (min items.size items2.size)))) s) : wpAny (model prog w) A (call (.builtin "tuple.__lt__") [.ref l, .ref b]) Q E s := by
  obtain ⟨⟨c1, d1, x1, s1⟩, ho, hc, n, hd⟩ := id hl
  obtain ⟨⟨c2, d2, x2, s2⟩, ho2, hc2, n2, hd2⟩ := id hb
  simp only at hc hd hc2 hd2
  subst hc hd hc2 hd2
  exact call_meets F.slot_tuple_lt ⟨_, ho, rfl⟩ F.entry_tuple_lt (F.args_tuple_lt_2 _ _) (SeqAt.tuple_ltAt l b items items2 n n2 d1 d2 s1 s2 e r) ⟨ho, ho2, he, hr, h⟩
theorem oneLt_tups {xs ys : List PyData} {a b : Value} {as bs : List Addr} {Q : Bool → Shared → Prop} (ra : Reads s.heap a (.tuple xs) as) (rb : Reads s.heap b (.tuple ys) bs) (h : alike (.tuple xs) (.tuple ys) = true)
    (hu : A.units + min (PyData.depth (.tuple xs)) (PyData.depth (.tuple ys)) < cLine) (hq : Q (dataLt (.tuple xs) (.tuple ys)) s) : wpAny (model prog w) A (oneLt' true a b) Q E s := by
  have hal : alikeAll xs ys = true := by simpa [alike] using h
  cases ra with
  | @tuple l o vs n _ as₁ h1 h2 h3 h4 =>
    cases rb with
    | @tuple l' o' vs' n' _ bs₁ k1 k2 k3 k4 =>
      have n1 : vs.size = xs.length := by simpa using SeqAt.ReadsAll.length _ _ _ h4
      have n2 : vs'.size = ys.length := by simpa using SeqAt.ReadsAll.length _ _ _ k4
      rw [PySem.W.dataLt_tuple, ← PySem.W.firstLt_toks xs ys hal, ← n1, ← n2] at hq
      rw [oneLt'_eq]
      simp only [if_true]
      refine wpAny_bind (wpAny_cRoomFor (SeqAt.room_here hu) ?_)
      refine wpAny_bind (wpAny_callSpecialIfBound?_slot (T := "tuple") ⟨_, h1, h2⟩ F.slot_tuple_lt (call_tuple_lt (e := SeqAt.pairEq xs ys) (r := fun j => dataLt (xs.getD j .none) (ys.getD j .none)) ⟨_, h1, h2, _, h3⟩ ⟨_, k1, k2, _, k3⟩ (fun j j1 j2 => ?_) (fun j j1 j2 hj => ?_) ?_))
      · have q := PySem.W.eqAt_alikeAll xs ys A.in1 s vs.toList vs'.toList _ _ h4 k4 hal (SeqAt.room_in hu) j (by simpa using j1) (by simpa using j2)
        simpa using q
      · have q := PySem.W.rcLt_alikeAll xs ys A.in1 s vs.toList vs'.toList _ _ h4 k4 hal (SeqAt.room_in hu) j (by simpa using j1) (by simpa using j2) hj
        simpa using q
      · exact wpAny_truthy_bool hq
def isTupP : PyData → Bool
  | .tuple _ => true
  | _ => false
def hasItem : PyData → Bool
  | .tuple (_ :: _) => true
  | _ => false
theorem firsts_opt {M : Model} : ∀ {vs : List Value} {ds : List PyData}, EachIs (fun v d => ∃ as, Reads s.heap v d as) vs ds → (∀ d ∈ ds, isTupP d = true) →
    ∃ os : List (Option Value), os.map Option.isSome = ds.map hasItem ∧ ∀ {Q : List (Option Value) → Shared → Prop}, Q os s → wpAny M A (vs.mapM firstOfTuple') Q E s
  | _, _, .nil, _ => ⟨[], rfl, fun h => by rw [List.mapM_nil]; exact wpAny_pure h⟩
  | _, _, .cons (a := v) (b := d) (as := vs) ⟨as, r⟩ t, ht => by
    obtain ⟨os, h1, h2⟩ := firsts_opt t fun d hd => ht d (List.mem_cons_of_mem _ hd)
    have hd := ht _ List.mem_cons_self
    cases d with
    | tuple xs =>
      cases r with
      | @tuple a o ws n _ _ ho hc hdt hr =>
        have hl : ws.size = xs.length := by simpa using SeqAt.ReadsAll.length _ _ _ hr
        refine ⟨ws[0]? :: os, ?_, fun {Q} h => ?_⟩
        · rw [List.map_cons, List.map_cons, h1]
          congr 1
          cases xs with
          | nil => simp at hl; simp [hasItem, hl]
          | cons x r =>
            have : 0 < ws.size := by rw [hl]; simp
            simp [hasItem, this]
        · rw [List.mapM_cons]
          refine wpAny_bind ?_
          rw [PySem.W.kas_first_eq]
          refine wpAny_bind (PySem.W.Looks.here (show PySem.W.Looks M s.heap (typeOf (.ref a)) o.cls from (PySem.W.Looks.ld ho).andThen .now) ?_)
          rw [hc, if_neg (by first | decide | simp)]
          refine wpAny_bind (listItems_at ho hdt (wpAny_pure ?_))
          exact wpAny_bind (h2 (Q := fun bs s' => wpAny M A (pure (ws[0]? :: bs)) Q E s') (wpAny_pure h))
    | _ => cases hd
/-- tuples, some of them empty, can be sorted -/
theorem sortsAt_mixed {vs : List Value} {ds : List PyData} (e : EachIs (fun v d => ∃ as, Reads s.heap v d as) vs ds) (hal : AllAlike ds) (ht : ∀ d ∈ ds, isTupP d = true) (he : ∃ d ∈ ds, hasItem d = false) (hu : ∀ d, d ∈ ds → A.units + d.depth < cLine) : SortsAt prog w A s (dataKind s.heap ds) vs := by
  have room : ∀ {d d' : PyData}, d ∈ ds → A.units + min d.depth d'.depth < cLine := fun {d d'} hd => Nat.lt_of_le_of_lt (Nat.add_le_add_left (Nat.min_le_left _ _) _) (hu d hd)
  have tupE : ∀ d ∈ ds, ∃ xs, d = .tuple xs := fun d hd => by
    have := ht d hd
    cases d <;> first | exact ⟨_, rfl⟩ | cases this
  have nn : ∀ d ∈ ds, d ≠ .none := fun d hd z => by obtain ⟨xs, rfl⟩ := tupE d hd; cases z
  refine ⟨fun v hv => ?_, ?_⟩
  · obtain ⟨d, hd, as, r⟩ := e.left v hv
    exact ⟨_, PySem.W.dataKind_some hal hd r⟩
  · have kindOf' : ∀ {E' : Value → Shared → Prop} {Q : SortKind → Shared → Prop} (kd : SortKind), 2 ≤ vs.length → ((ds.head?.map hasItem = some true → kd = general') ∧ (ds.head?.map hasItem ≠ some true → kd = oneType')) → Q kd s → wpAny (model prog w) A (keyKind' vs.toArray) Q E' s := fun {E' Q} kd h2 hk hq => by
      obtain ⟨os, o1, o2⟩ := firsts_opt (A := A) (E := E') (M := model prog w) e ht
      rw [keyKind'_eq, List.mapM_toArray, map_eq_pure_bind]
      refine wpAny_bind (wpAny_bind (o2 (wpAny_pure ?_)))
      have no : ¬ (os.toArray.all fun x => x.isSome) = true := fun z => by
        simp only [List.all_toArray, List.all_eq_true] at z
        obtain ⟨d, hd, hf⟩ := he
        have hm : hasItem d ∈ os.map Option.isSome := by rw [o1]; exact List.mem_map_of_mem hd
        obtain ⟨o, ho, hoe⟩ := List.mem_map.mp hm
        have := z o ho
        rw [hoe, hf] at this; cases this
      rw [if_neg no]
      have hd0 : (os.toArray[0]?.bind id).isSome = true ↔ ds.head?.map hasItem = some true := by
        cases os with
        | nil =>
          cases ds with
          | nil => simp
          | cons d ds => simp at o1
        | cons o os =>
          cases ds with
          | nil => simp at o1
          | cons d ds =>
            have o2 : o.isSome = hasItem d := (List.cons.inj o1).1
            simp only [List.head?_cons, Option.map_some, ← o2]
            cases o <;> simp
      by_cases h0 : ds.head?.map hasItem = some true
      · rw [if_pos (hd0.mpr h0), ← hk.1 h0]
        exact wpAny_pure hq
      · rw [if_neg (fun z => h0 (hd0.mp z)), ← hk.2 h0]
        rw [oneTypeOnly'_eq, List.mapM_toArray, map_eq_pure_bind]
        refine wpAny_bind (wpAny_bind (wpAny_bind (PySem.W.kas_mapM (r := Value.type "tuple") _ (fun v hv Q' hq' => ?_) (wpAny_pure ?_))))
        · obtain ⟨d, hd, as, r⟩ := e.left v hv
          obtain ⟨xs, rfl⟩ := tupE d hd
          exact (PySem.W.looks_reads r).here hq'
        · obtain ⟨v1, v2, rest, rfl⟩ : ∃ v1 v2 rest, vs = v1 :: v2 :: rest := by
            match vs, h2 with
            | [], h2 => simp at h2
            | [_], h2 => simp at h2
            | v1 :: v2 :: rest, _ => exact ⟨v1, v2, rest, rfl⟩
          have e0 : (List.map (fun _ => Value.type "tuple") (v1 :: v2 :: rest)).toArray[0]? = some (Value.type "tuple") := by simp
          have e1 : ((List.map (fun _ => Value.type "tuple") (v1 :: v2 :: rest)).toArray.all fun x => x == Value.type "tuple") = true := by
            simp only [List.all_toArray, List.all_map, List.all_eq_true]
            intro _ _
            rfl
          rw [e0]
          simp only [e1, if_true]
          refine wpAny_pure (wpAny_pure ?_)
          exact hq
    by_cases h0 : ds.head?.map hasItem = some true
    · refine ⟨general', ?_, fun h2 E' Q hq => kindOf' general' h2 ⟨fun _ => rfl, fun z => absurd h0 z⟩ hq⟩
      intro E' x y a b Q ha hb hq
      obtain ⟨d, as, hd, ra, rfl⟩ := PySem.W.dataKind_inv ha
      obtain ⟨d', as', hd', rb, rfl⟩ := PySem.W.dataKind_inv hb
      show wpAny _ _ (oneLt' false x y) _ _ _
      exact PySem.W.oneLt_alike (fun z => by cases z) ra rb (hal d hd d' hd') (nn d hd) (room hd) hq
    · refine ⟨oneType', ?_, fun h2 E' Q hq => kindOf' oneType' h2 ⟨fun z => absurd z h0, fun _ => rfl⟩ hq⟩
      intro E' x y a b Q ha hb hq
      obtain ⟨d, as, hd, ra, rfl⟩ := PySem.W.dataKind_inv ha
      obtain ⟨d', as', hd', rb, rfl⟩ := PySem.W.dataKind_inv hb
      obtain ⟨xs, rfl⟩ := tupE d hd
      obtain ⟨ys, rfl⟩ := tupE d' hd'
      rw [keyLt'_oneType]
      exact oneLt_tups ra rb (hal _ hd _ hd') (room hd) hq
/-- any alike data, None apart -/
theorem sortsAt_any {vs : List Value} {ds : List PyData} (e : EachIs (fun v d => ∃ as, Reads s.heap v d as) vs ds) (hal : AllAlike ds) (hn : ∀ d ∈ ds, d ≠ .none) (hu : ∀ d, d ∈ ds → A.units + d.depth < cLine) : SortsAt prog w A s (dataKind s.heap ds) vs := by
  by_cases ht : ∃ d ∈ ds, isTupP d = true
  · obtain ⟨d0, h0, t0⟩ := ht
    have all : ∀ d ∈ ds, isTupP d = true := fun d hd => by
      have := hal d0 h0 d hd
      cases d0 <;> first | cases t0 | skip
      cases d <;> first | rfl | (simp [alike] at this)
    by_cases he : ∃ d ∈ ds, hasItem d = false
    · exact sortsAt_mixed e hal all he hu
    · refine SortsAt.data e hal (.inl fun d hd => ?_) hu
      have h1 := all d hd
      have h2 : hasItem d ≠ false := fun z => he ⟨d, hd, z⟩
      cases d with
      | tuple xs => cases xs with
        | nil => exact absurd rfl h2
        | cons x r => exact ⟨x, r, rfl⟩
      | _ => cases h1
  · refine SortsAt.data e hal (.inr fun d hd => ⟨hn d hd, fun xs z => ht ⟨d, hd, by rw [z]; rfl⟩⟩) hu
/-- a list's or a tuple's items, in a new list -/
theorem collect_at {l : Addr} {T : String} {o : Obj} {vs : List Value} {n : Nat} {Q : List Value → Shared → Prop} (hT : T = "list" ∨ T = "tuple") (ho : s.heap.get? l = some o) (hc : o.cls = .type T) (hd : o.data = .seq vs.toArray n) (hsz : vs.length ≤ sizeLine)
    (h : Q vs { s with heap := (s.heap.push (seqObj "list" #[] 0)).update s.heap.objs.size (Obj.mapSeq (· ++ vs.toArray)) }) : wpAny (model prog w) A (collect (.ref l)) Q E s := by
  rcases hT with rfl | rfl
  · exact collect_list ⟨o, ho, hc, n, hd⟩ h hsz
  · unfold collect
    refine wpAny_bind (wpAny_runValue (codeAny_builtin entry_proto_collect' ?_))
    show wpAny _ _ (do again (.builtin "list.__iadd__" ⟨[← newList [], .ref l], []⟩)) _ _ s
    refine wpAny_bind (wpAny_newList (wpAny_pure ⟨Code.quiet_builtin _ (by decide +kernel), codeAny_builtin entry_list_iadd' ?_⟩))
    show wpAny _ _ (Builtin.List.listExtendWith (.ref s.heap.objs.size) (.ref l) (.ref s.heap.objs.size)) _ _ { s with heap := s.heap.push (seqObj "list" #[] 0) }
    unfold Builtin.List.listExtendWith
    have ho2 : (s.heap.push (seqObj "list" #[] 0)).get? l = some o := Heap.get?_push_of_some _ ho
    have own : (s.heap.push (seqObj "list" #[] 0)).get? s.heap.objs.size = some (seqObj "list" #[] 0) := Heap.get?_push_size _ rfl
    refine wpAny_bind (wpAny_typeOf (T := "tuple") ⟨o, ho2, hc⟩ ?_)
    rw [if_pos (by rw [show (Value.type "tuple" == Value.type "tuple") = true by rfl, Bool.or_true])]
    refine wpAny_bind (listItems_at ho2 hd (wpAny_bind (listItems_at (xs := #[]) (n := 0) own rfl ?_)))
    rw [if_neg (by simp)]
    refine wpAny_bind (listUpdate_at (xs := #[]) (n := 0) own rfl ?_ (Nat.zero_le _) (by show (#[] ++ vs.toArray).size ≤ sizeLine + 1; simp only [Array.size_append, List.size_toArray, List.length_nil]; omega))
    refine wpAny_pure (wpAny_bind (wpAny_load (get?_update_seq own _) ?_))
    have e : ((#[] : Array Value) ++ vs.toArray).toList = vs := by simp
    show wpAny _ _ (pure ((#[] : Array Value) ++ vs.toArray).toList) Q E _
    rw [e]
    exact wpAny_pure h
/-- sorted(xs), xs a list or a tuple -/
theorem sorted_seq {l : Addr} {T : String} {o : Obj} {vs : List Value} {n : Nat} {κ : Heap → PyProof.Rows.KeyKind} {Q : Value → Shared → Prop} (hT : T = "list" ∨ T = "tuple") (ho : s.heap.get? l = some o) (hc : o.cls = .type T) (hd : o.data = .seq vs.toArray n) (hL : vs.length ≤ sizeLine)
    (S : ∀ (h' : Heap), (∀ b o, s.heap.get? b = some o → h'.get? b = some o) → SortsAt prog w A.in1.in1 { s with heap := h' } (κ h') vs)
    (h : ∀ (g h' : Heap) (a : Addr) (ep : Nat), (∀ b o, s.heap.get? b = some o → g.get? b = some o) → (∀ b o, s.heap.get? b = some o → h'.get? b = some o) → s.heap.objs.size ≤ a → h'.get? a = some (seqObj "list" (PySem.W.sortVals (κ g) false vs vs).toArray ep) → Q (.ref a) { s with heap := h' }) :
    wpAny (model prog w) A (call (.builtin "sorted") [.ref l]) Q E s := by
  refine Calls.call_function_entry kind_sorted plain_sorted entry_sorted (args_sorted1 _) ?_
  unfold Builtin.«sorted»
  refine wpAny_bind (m := checkCount "sorted" 1 1 _) (wpAny_pure ?_)
  refine wpAny_bind (collect_at hT ho hc hd hL ?_)
  generalize hgd : (s.heap.push (seqObj "list" #[] 0)).update s.heap.objs.size (Obj.mapSeq (· ++ vs.toArray)) = g
  have gz : s.heap.objs.size ≤ g.objs.size := by rw [← hgd, Heap.size_update, size_push']; exact Nat.le_succ _
  have hg : ∀ b o, s.heap.get? b = some o → g.get? b = some o := fun b o e => by
    rw [← hgd, Heap.get?_update_ne _ _ _ _ (Nat.ne_of_lt (Heap.lt_size e))]
    exact Heap.get?_push_of_some _ e
  refine wpAny_bind (wpAny_newList ?_ (by simpa using hL))
  have at0 : (g.push (seqObj "list" vs.toArray 0)).get? g.objs.size = some (seqObj "list" vs.toArray 0) := Heap.get?_push_size _ rfl
  have old : ∀ b o, s.heap.get? b = some o → b ≠ g.objs.size ∧ (g.push (seqObj "list" vs.toArray 0)).get? b = some o := fun b o e => ⟨Nat.ne_of_lt (Heap.lt_size (hg b o e)), Heap.get?_push_of_some _ (hg b o e)⟩
  show wpAny _ _ _ _ _ { s with heap := g.push (seqObj "list" vs.toArray 0) }
  have skeep : ∀ b o, s.heap.get? b = some o → (PySem.W.sortingHeap (g.push (seqObj "list" vs.toArray 0)) g.objs.size vs).get? b = some o := fun b o e => PySem.W.sortingHeap_old (old b o e).1 (old b o e).2
  refine wpAny_bind (wpAny_holding (wpAny_call_entry slot_list_sort ⟨_, at0, rfl⟩ entry_list_sort (PySem.W.list_sort_vals at0 (S _ skeep) hL ⟨_, rfl, ?_⟩) (args_list_sort _)))
  obtain ⟨ep, he⟩ := sortedHeap_at (vs := vs) (out := (PySem.W.sortVals (κ (PySem.W.sortingHeap (g.push (seqObj "list" vs.toArray 0)) g.objs.size vs)) false vs vs).toArray) at0
  refine wpAny_pure ⟨_, rfl, h _ _ _ ep skeep (fun b o e => ?_) gz he⟩
  rw [sortedHeap_old (old b o e).1 (Heap.lt_size (old b o e).2)]
  exact (old b o e).2
end
/-! ### the reading -/
abbrev leV : V × PyData → V × PyData → Bool := dataLe false Prod.snd
def rSortD (K : PySem.W.Frag) : List V → Hp → VK → Prop := fun vs H Q => ∃ (a : Addr) (xs : List V) (ps : List PyData), vs = [.ref a] ∧ (SqL K H a xs ∨ SqT K H a xs) ∧ DpAll K H xs ps ∧ AllAlike ps ∧ (∀ p ∈ ps, p ≠ .none ∧ p.depth ≤ 50) ∧ xs.length ≤ sizeLine ∧
  ∀ p, H p = none → Q (.ref p) (upd H p (.lst (((xs.zip ps).mergeSort leV).map Prod.fst)))
section
variable {X : Cx} {pins : List (Addr × Obj)} {σ : L2.St} {H : Hp} {s : Shared}
theorem dpAll_len {K : PySem.W.Frag} : ∀ {xs : List V} {ps : List PyData}, DpAll K H xs ps → xs.length = ps.length
  | _, _, .nil => rfl
  | _, _, .cons _ h => by rw [List.length_cons, List.length_cons, dpAll_len h]
theorem each_dps (I : Inv X pins σ H s) : ∀ {xs : List V} {ps : List PyData} {us : List Value}, DpAll X.K H xs ps → Vals xs us → EachIs (fun u (b : V × PyData) => RelV b.1 u ∧ ∃ as, Reads s.heap u b.2 as) us (xs.zip ps)
  | _, _, _, .nil, .nil => .nil
  | _, _, _, .cons h t, .cons r rs => .cons ⟨r, Dp.reads I _ _ _ h r⟩ (each_dps I t rs)
theorem vals_each : ∀ {us : List Value} {bs : List (V × PyData)}, EachIs (fun u b => RelV b.1 u) us bs → Vals (bs.map Prod.fst) us
  | _, _, .nil => .nil
  | _, _, .cons h t => .cons h (vals_each t)
theorem zip_snds {α β : Type} : ∀ {xs : List α} {ps : List β}, xs.length = ps.length → (xs.zip ps).map Prod.snd = ps
  | [], [], _ => rfl
  | x :: xs, p :: ps, h => by simp [zip_snds (by simpa using h : xs.length = ps.length)]
  | [], _ :: _, h => by simp at h
  | _ :: _, [], h => by simp at h
theorem cr_sortD {k : Nat} (hr : Room k X.A) : CallR X (.builtin "sorted") (rSortD X.K) := by
  intro pins s σ H vs us Q I r h
  obtain ⟨a, xs, ps, rfl, hs, hd, hal, hp, hz, q⟩ := h
  rw [Vals.ref1 r]
  have hl := dpAll_len hd
  have main : ∀ (T : String) (o : Obj) (its : List Value) (n : Nat), (T = "list" ∨ T = "tuple") → s.heap.get? a = some o → o.cls = .type T → o.data = .seq its.toArray n → Vals xs its → wpAny (model X.prog X.w) X.A (call (.builtin "sorted") [.ref a]) (EP X pins σ Q) X.xe s := by
    intro T o its n hT ho hc hdt rv
    have e := each_dps I hd rv
    have un := hr.un
    have eM : ∀ h' : Heap, (∀ b o, s.heap.get? b = some o → h'.get? b = some o) → EachIs (fun v d => ∃ as, Reads h' v d as) its ((xs.zip ps).map Prod.snd) := fun h' k => PySem.W.each_map Prod.snd (e.mono fun u b ⟨_, as, q⟩ => ⟨as, PyProof.Rows.Reads.keeps k q⟩)
    have eP : (xs.zip ps).map Prod.snd = ps := zip_snds hl
    have alz : AllAlike ((xs.zip ps).map Prod.snd) := by rw [eP]; exact hal
    refine sorted_seq (κ := fun h' => dataKind h' ((xs.zip ps).map Prod.snd)) hT ho hc hdt (by rw [← rv.length]; exact hz) (fun h' k => ?_) fun g h' p ep k0 k hp1 hp2 => ?_
    · refine sortsAt_any (s := { s with heap := h' }) (eM h' k) alz (fun d hd' => (hp d (by rw [← eP]; exact hd')).1) fun d hd' => ?_
      have := (hp d (by rw [← eP]; exact hd')).2
      show X.A.units + 1 + 1 + d.depth < cLine
      omega
    · have out := PySem.W.sortVals_data (h' := g) (R := fun u (b : V × PyData) => RelV b.1 u) (enc := Prod.snd) false (e.mono fun u b q => q.1) (e.mono fun u b ⟨_, as, q⟩ => ⟨as, PyProof.Rows.Reads.keeps k0 q⟩) alz
      have vo := vals_each out
      have hlen : (((xs.zip ps).mergeSort leV).map Prod.fst).length ≤ sizeLine := by
        rw [List.length_map, List.length_mergeSort, List.length_zip]
        omega
      exact ⟨.ref p, upd H p (.lst (((xs.zip ps).mergeSort leV).map Prod.fst)), I.laid (t' := s.toks) k hp1 ⟨hlen, _, ep, vo, hp2⟩, rfl, q p (I.hok.fresh hp1)⟩
  rcases hs with hs | hs
  · obtain ⟨its, rv, ⟨o, n, ho, hc, _, hdt⟩, _⟩ := I.list hs
    exact main "list" o its n (.inl rfl) ho hc hdt rv
  · obtain ⟨its, rv, ⟨o, ho, hc, n, hdt⟩, _⟩ := I.tuple hs
    exact main "tuple" o its n (.inr rfl) ho hc hdt rv
end
/-! ### on contents -/
def encD (d : D) : PyData := (toP d).getD .none
def sleD (a b : D) : Bool := dataLe false encD a b
def isNoneP : PyData → Bool
  | .none => true
  | _ => false
def sortOk (l : List D) : Bool := decide (l.length ≤ LIM) && l.all (fun d => (toP d).isSome && !isNoneP (encD d) && decide ((encD d).depth ≤ 50)) && l.all fun a => l.all fun b => alike (encD a) (encD b)
def sortL : List D → Option XV
  | [d] => (seqD d).bind fun l => if sortOk l = true then some (.own (.lst (l.mergeSort sleD))) else none
  | _ => none
theorem isDs_zip {C : Cst} {G : Hp} : ∀ {xs : List V} {ds : List D}, IsDs C G xs ds → ∀ z ∈ xs.zip ds, IsD C G z.1 z.2
  | _, _, .nil, z, h => by simp at h
  | _, _, .cons a t, z, h => by
    rw [List.zip_cons_cons] at h
    rcases List.mem_cons.mp h with rfl | h
    · exact a
    · exact isDs_zip t z h
theorem isDs_of_zip {C : Cst} {G : Hp} : ∀ {zs : List (V × D)}, (∀ z ∈ zs, IsD C G z.1 z.2) → IsDs C G (zs.map Prod.fst) (zs.map Prod.snd)
  | [], _ => .nil
  | z :: zs, h => .cons (h z List.mem_cons_self) (isDs_of_zip fun y hy => h y (List.mem_cons_of_mem _ hy))
theorem dpAll_of {C : Cst} {H : Hp} : ∀ {xs : List V} {ds : List D}, IsDs C H xs ds → (∀ d ∈ ds, (toP d).isSome = true) → DpAll C.K H xs (ds.map encD)
  | _, _, .nil, _ => .nil
  | _, _, .cons (d := d) a t, h => by
    have h0 := h _ List.mem_cons_self
    refine .cons ?_ (dpAll_of t fun e he => h e (List.mem_cons_of_mem _ he))
    unfold encD
    cases z : toP d with
    | none => rw [z] at h0; cases h0
    | some p => exact dp_of d a z
theorem sortL_ok {C : Cst} : OpNOk C (rSortD C.K) sortL := by
  intro W σ ρ H G vs ds x Q rl t eq k
  unfold sortL at eq
  split at eq
  · rename_i d
    cases z : seqD d with
    | none => rw [z] at eq; cases eq
    | some l =>
      rw [z] at eq
      simp only [Option.bind_some] at eq
      split at eq
      case isFalse => cases eq
      rename_i ok
      cases eq
      obtain ⟨v, rfl, t0⟩ := t.one
      obtain ⟨a, xs, rfl, h1, h2⟩ := t0.seq rl.gh z
      unfold sortOk at ok
      simp only [Bool.and_eq_true, decide_eq_true_eq, List.all_eq_true, Bool.not_eq_true'] at ok
      obtain ⟨⟨o1, o2⟩, o3⟩ := ok
      have hl := h2.length
      refine ⟨a, xs, l.map encD, rfl, h1, dpAll_of (h2.ge rl.gh) fun d hd => (o2 d hd).1.1, fun p hp q hq => ?_, fun p hp => ?_, by rw [hl]; exact lim_le o1, fun p hp => ?_⟩
      · obtain ⟨d, hd, rfl⟩ := List.mem_map.mp hp
        obtain ⟨e, he, rfl⟩ := List.mem_map.mp hq
        exact o3 d hd e he
      · obtain ⟨d, hd, rfl⟩ := List.mem_map.mp hp
        refine ⟨fun z => ?_, (o2 d hd).2⟩
        have := (o2 d hd).1.2
        rw [z] at this; cases this
      · let zs := (xs.zip l).mergeSort fun a b => sleD a.2 b.2
        have e1 : ((xs.zip (l.map encD)).mergeSort leV).map Prod.fst = zs.map Prod.fst := by
          have ez : xs.zip (l.map encD) = (xs.zip l).map fun z => (z.1, encD z.2) := by rw [List.zip_map_right]; rfl
          rw [ez, ← List.map_mergeSort (r := fun a b => sleD a.2 b.2) (f := fun z : V × D => (z.1, encD z.2)) (fun a _ b _ => rfl), List.map_map]
          rfl
        have e2 : l.mergeSort sleD = zs.map Prod.snd := by
          have ez : l = (xs.zip l).map Prod.snd := (zip_snds hl).symm
          conv => lhs; rw [ez]
          exact (List.map_mergeSort (r := fun a b => sleD a.2 b.2) (s := sleD) (f := Prod.snd) (l := xs.zip l) (fun a _ b _ => rfl)).symm
        rw [e1]
        rw [e2] at k
        refine rl.backLst (isDs_of_zip fun z hz => isDs_zip h2 z ?_) k hp
        exact (List.mergeSort_perm _ _).mem_iff.mp hz
  · cases eq
section
variable {ι : Type} {J : Jd} {Xs : ι → Cx} {e : Expr} {fs : Env → R (List XV)} {p pos : Pos}
/-- sorted(e) -/
theorem ce_sorted (hm : ∀ i, (Xs i).mg "sorted" = none) (ha : CA_ J Xs [e] fs) (hg : ∀ i, Gl (Xs i) "sorted" := by intro _; rfl)
    (he : ∀ i, starEach [e] (Xs i).env = (false, eval e (Xs i).env) :: starEach [] (Xs i).env := by intro _; rfl) (hpl : ∀ i, (backTo pos (starEach [] (Xs i).env)).any (·.1) = false := by intro _; rfl) : CE J Xs (.Call (.Name "sorted" p) [e] [] pos) (callS sortL fs) :=
  ce_callB (fun X G => by have := cr_sortD (X := X) G.hr; rw [G.hK] at this; exact this) sortL_ok hm (by decide +kernel) ha hg (by decide) (by decide) he hpl
end
end DL
namespace DL
open PySem L2 PyProof.Rows
open PySem.W (EachIs AllAlike dataLe KeyEnd KeyIs)

/-! ## sorted(xs, key=len) -/
section
variable {prog : Program} {w : World} {A : Around} {E : Value → Shared → Prop} {s : Shared} {h₀ : Heap} {L : Addr} {m : Str → Option Value} {news : List (Addr × Obj)}
theorem sorted_keyed {β : Type} {R : Value → β → Prop} {l : Addr} {T : String} {o : Obj} {vs : List Value} {bs : List β} {n : Nat} {f : Value} {kw : List (Str × Value)} {Q : Value → Shared → Prop} (k : β → PyData) (F : Fr h₀ L s.heap m) (N : News h₀ L s.heap news) (hT : T = "list" ∨ T = "tuple") (ho : s.heap.get? l = some o) (hc : o.cls = .type T) (hd : o.data = .seq vs.toArray n)
    (e : EachIs R vs bs) (hal : AllAlike (bs.map k)) (hk : PySem.W.Sortable (bs.map k)) (hL : vs.length ≤ sizeLine) (hu : ∀ x, x ∈ bs → A.units + 2 + (k x).depth < cLine) (ha1 : argsOk "sorted" ⟨[.ref l], kw⟩) (ha2 : ∀ x, argsOk "list.sort" ⟨[.ref x], kw⟩) (ht : ∀ x, Builtin.«list.sort» ⟨[.ref x], kw⟩ = ksk_tree x f false)
    (turn : ∀ (v : Value) (x : β), R v x → x ∈ bs → ∀ (h : Heap) (tk : Nat) (own : List (Addr × Obj)), Fr h₀ L h m → News h₀ L h (news ++ own) →
      wpAny (model prog w) A.in1.in1 (call f [v]) (KeyEnd h₀ L m (news ++ own) (k x) { s with heap := h, toks := tk }) (fun _ _ => False) { s with heap := h, toks := tk })
    (h : ∀ D out c h' tk, Fr h₀ L h' m → News h₀ L h' ((D, PySem.W.listOf (List.toArray out) c) :: news) → s.heap.objs.size ≤ D → EachIs R out (bs.mergeSort (dataLe false k)) → Q (.ref D) { s with heap := h', toks := tk }) :
    wpAny (model prog w) A (call (.builtin "sorted") [.ref l] kw) Q E s := by
  refine call_function_entry_kw kind_sorted plain_sorted entry_sorted ha1 ?_
  unfold Builtin.«sorted»
  refine wpAny_bind (m := checkCount "sorted" 1 1 _) (wpAny_pure (wpAny_bind (collect_at hT ho hc hd hL (wpAny_bind (wpAny_newList ?_ hL)))))
  have hz : ((s.heap.push (seqObj "list" #[] 0)).update s.heap.objs.size (Obj.mapSeq (· ++ vs.toArray))).objs.size = s.heap.objs.size + 1 := by rw [Heap.size_update, size_push']
  show wpAny _ _ _ _ _ { s with heap := PySem.W.copyHeap s.heap vs }
  rw [hz]
  have hLt : L < s.heap.objs.size := F.ns.lt
  refine wpAny_bind (wpAny_holding (wpAny_call_entry_kw slot_list_sort ⟨_, PySem.W.copyHeap_at s.heap vs, rfl⟩ entry_list_sort ?_ (ha2 _)))
  rw [ht]
  refine PySem.W.key_tree (kz := bs.map k) (s := { s with heap := PySem.W.copyHeap s.heap vs }) (F.kept fun _ _ => PySem.W.copyHeap_old) (N.grown fun _ _ => PySem.W.copyHeap_old) (PySem.W.copyHeap_at s.heap vs) (Nat.ne_of_gt (Nat.lt_succ_of_lt hLt)) (Heap.get?_none_of_le (Nat.le_trans F.above (Nat.le_succ_of_le (Nat.le_of_lt hLt))))
    (fun p hp => Nat.ne_of_lt (Nat.lt_succ_of_lt (Heap.lt_size (N p hp).1))) (by rw [List.length_map]; exact e.length.symm) hL hal hk (PySem.W.bound_map (A := A.in1.in1) hu) (PySem.W.key_turns e turn) fun h' tk out c F' N' ko => ⟨.none, rfl, wpAny_pure ⟨_, rfl, ?_⟩⟩
  exact h _ out c h' tk F' N' (Nat.le_succ _) (PySem.W.keyedOut_each k ko e)
end
/-! ### the reading -/
abbrev leN : V × Nat → V × Nat → Bool := fun a b => decide (a.2 ≤ b.2)
/-- xs: tuples (or lists), ns: how long they are -/
inductive LenAll (K : PySem.W.Frag) (H : Hp) : List V → List Nat → Prop
  | nil : LenAll K H [] []
  | cons {t : Addr} {ys : List V} {xs : List V} {ns : List Nat} : SqT K H t ys → LenAll K H xs ns → LenAll K H (.ref t :: xs) (ys.length :: ns)
def rSortLen (K : PySem.W.Frag) : V → Hp → VK → Prop := fun v H Q => ∃ (a : Addr) (xs : List V) (ns : List Nat), v = .ref a ∧ (SqL K H a xs ∨ SqT K H a xs) ∧ LenAll K H xs ns ∧ xs.length ≤ sizeLine ∧ ∀ p, H p = none → Q (.ref p) (upd H p (.lst (((xs.zip ns).mergeSort leN).map Prod.fst)))
theorem lenAll_len {K : PySem.W.Frag} {H : Hp} : ∀ {xs : List V} {ns : List Nat}, LenAll K H xs ns → xs.length = ns.length
  | _, _, .nil => rfl
  | _, _, .cons _ h => by rw [List.length_cons, List.length_cons, lenAll_len h]
section
variable {X : Cx} {pins : List (Addr × Obj)} {σ : L2.St} {H : Hp} {s : Shared}
theorem each_lens (I : Inv X pins σ H s) : ∀ {xs : List V} {ns : List Nat} {us : List Value}, LenAll X.K H xs ns → Vals xs us →
    EachIs (fun u (b : V × Nat) => RelV b.1 u ∧ ∃ t its, u = .ref t ∧ IsTup s.heap t its ∧ its.size = b.2 ∧ b.2 ≤ sizeLine) us (xs.zip ns)
  | _, _, _, .nil, .nil => .nil
  | _, _, _, .cons h t, .cons r rs => by
    refine .cons ⟨r, ?_⟩ (each_lens I t rs)
    cases r
    obtain ⟨its, rv, ht, hz⟩ := I.tuple h
    exact ⟨_, its.toArray, rfl, ht, by rw [List.size_toArray, ← rv.length], hz⟩
theorem vals_eachN : ∀ {us : List Value} {bs : List (V × Nat)}, EachIs (fun u b => RelV b.1 u) us bs → Vals (bs.map Prod.fst) us
  | _, _, .nil => .nil
  | _, _, .cons h t => .cons h (vals_eachN t)
theorem run_sortLen {k : Nat} (hr : Room k X.A) {u : Value} {v : V} {Q : VK} (I : Inv X pins σ H s) (r : RelV v u) (h : rSortLen X.K v H Q) : wpAny (model X.prog X.w) X.A (call (.builtin "sorted") [u] [(Str.ofString "key", .builtin "len")]) (EP X pins σ Q) X.xe s := by
  obtain ⟨a, xs, ns, rfl, hs, hd, hz, q⟩ := h
  cases r
  have un := hr.un
  obtain ⟨m, F⟩ := I.fr
  have main : ∀ (T : String) (o : Obj) (its : List Value) (n : Nat), (T = "list" ∨ T = "tuple") → s.heap.get? a = some o → o.cls = .type T → o.data = .seq its.toArray n → Vals xs its → wpAny (model X.prog X.w) X.A (call (.builtin "sorted") [.ref a] [(Str.ofString "key", .builtin "len")]) (EP X pins σ Q) X.xe s := by
    intro T o its n hT ho hc hdt rv
    have e := each_lens I hd rv
    refine sorted_keyed (R := fun u (b : V × Nat) => RelV b.1 u ∧ ∃ t its, u = .ref t ∧ IsTup s.heap t its ∧ its.size = b.2 ∧ b.2 ≤ sizeLine) (fun b => .int (b.2 : Nat)) F (news_all (L := X.env.locals)) hT ho hc hdt e (fun d hd d' hd' => ?_) (.inr fun d hd => ?_) (by rw [← rv.length]; exact hz) (fun x _ => ?_) (ksk_s1 _ _) (fun _ => ksk_l1 _ _) (fun x => ksk_t4 "len" x) (fun v x hR hx g tk own F' N' => ?_) fun D out c g tk F' N' hD eo => ?_
    · obtain ⟨b, _, rfl⟩ := List.mem_map.mp hd
      obtain ⟨b', _, rfl⟩ := List.mem_map.mp hd'
      rfl
    · obtain ⟨b, _, rfl⟩ := List.mem_map.mp hd
      exact ⟨fun z => (by cases z), fun xs z => (by cases z)⟩
    · show X.A.units + 2 + 0 < cLine
      omega
    · obtain ⟨_, t, ts, rfl, ⟨ot, hot, hct, nt, hdt'⟩, hsz, hle⟩ := hR
      have gt : g.get? t = some ot := by
        cases z : X.base.get? t with
        | some o' =>
          have := I.bk t o' z
          rw [hot] at this; cases this
          exact F'.keep _ _ z
        | none =>
          have tL : t ≠ X.env.locals := fun z => by
            obtain ⟨mm, ⟨oL, es, ep, h1, h2, _⟩, _⟩ := I.loc
            rw [← z, hot] at h1; cases h1
            rw [hdt'] at h2; cases h2
          exact (N' (t, ot) (List.mem_append_left _ (mem_allNews tL z hot))).1
      have hl63 := line63
      have hs : sizeLine = 16777216 := sizeLine_eq
      refine len_tuple (s := { s with heap := g, toks := tk }) (items := ts) ⟨ot, gt, hct, nt, hdt'⟩ (by rw [hsz]; omega) ?_
      rw [hsz]
      exact ⟨g, _, [], rfl, KeyIs.int _ _, fun p hp => (by cases hp), F', by rw [List.append_nil]; exact N'⟩
    · have hDn : H D = none := I.hok.fresh hD
      have eo' : EachIs (fun u (b : V × Nat) => RelV b.1 u) out ((xs.zip ns).mergeSort leN) := by
        have : (dataLe false fun b : V × Nat => PyData.int (b.2 : Nat)) = leN := by
          rw [PySem.W.dataLe_int]
          funext a b
          exact decide_eq_decide.mpr Int.ofNat_le
        rw [this] at eo
        exact eo.mono fun u b q => q.1
      have vo : Vals (((xs.zip ns).mergeSort leN).map Prod.fst) out := vals_eachN eo'
      have hlen : (((xs.zip ns).mergeSort leN).map Prod.fst).length ≤ sizeLine := by
        rw [List.length_map, List.length_mergeSort, List.length_zip]
        omega
      have hDL : D ≠ X.env.locals := Nat.ne_of_gt (Nat.lt_of_lt_of_le I.lt hD)
      have keep : ∀ b o, b ≠ X.env.locals → s.heap.get? b = some o → g.get? b = some o := fun b o hb e => by
        cases z : X.base.get? b with
        | some o' =>
          have := I.bk b o' z
          rw [e] at this; cases this
          exact F'.keep _ _ z
        | none => exact (N' (b, o) (List.mem_cons_of_mem _ (mem_allNews hb z e))).1
      have gD := (N' _ List.mem_cons_self).1
      have hok : HOk X.prog X.w (upd H D (.lst (((xs.zip ns).mergeSort leN).map Prod.fst))) g := fun b u eb => by
        by_cases hb : b = D
        · subst hb
          rw [upd_same] at eb; cases eb
          exact ⟨hlen, out, c, vo, gD⟩
        · rw [upd_ne hb] at eb
          refine (I.hok b u eb).stay (fun b' u' hb' q => keep b' u' (fun z => ?_) q) (fun b' q => by rw [upd_ne (ne_of_none q hDn)]; exact q) fun b' ys q => by rw [upd_ne (ne_of_none q hDn)]; exact q
          rcases hb' with rfl | hb'
          · rw [z, I.free] at eb; cases eb
          · rw [z, I.free] at hb'; cases hb'
      refine ⟨.ref D, _, I.step (g' := s.gens) (d' := s.drawn) (t' := tk) (h' := g) (ch := []) (fun _ z => nomatch z) (fun b o hb _ _ e _ => keep b o hb e) (fun b o hb _ _ e _ => ⟨o.slots, keep b o hb e⟩) (fun b o _ e nb => ?_) (fun b o _ e => ?_) (fun b ys q => by rw [upd_ne (ne_of_none q hDn)]; exact q)
        (fun b o u q => by rw [upd_ne (ne_of_none q hDn)]; exact q) (fun b ps q => ⟨#[], by rw [upd_ne (ne_of_none q hDn), q]; simp⟩) (fun m' hm => ?_) hok I.bare, rfl, q D hDn⟩
      · rw [upd_ne (Nat.ne_of_lt (Nat.lt_of_lt_of_le (Heap.lt_size e) hD))]; exact nb
      · by_cases hb : b = X.env.locals
        · obtain ⟨oL, _, _, h1, _⟩ := F'.ns
          exact ⟨oL, by rw [hb]; exact h1⟩
        · exact ⟨o, keep b o hb e⟩
      · rw [SlX.ns_only hm F.ns]
        exact F'.ns
  rcases hs with hs | hs
  · obtain ⟨its, rv, ⟨o, n, ho, hc, _, hdt⟩, _⟩ := I.list hs
    exact main "list" o its n (.inl rfl) ho hc hdt rv
  · obtain ⟨its, rv, ⟨o, ho, hc, n, hdt⟩, _⟩ := I.tuple hs
    exact main "tuple" o its n (.inr rfl) ho hc hdt rv
def tSortLen (K : PySem.W.Frag) (t : TE) : TE := fun σ H Q => t σ H fun v H1 => rSortLen K v H1 Q
theorem pe_sortLen {k : Nat} {e : Expr} {t : TE} {p p2 kpos pos : Pos} (hr : Room k X.A) (hg : Gl X "sorted") (hm : X.mg "sorted" = none) (hg2 : Gl X "len") (hm2 : X.mg "len" = none) (ha : PE X e t) (hs : starEach [e] X.env = (false, eval e X.env) :: starEach [] X.env) :
    PE X (.Call (.Name "sorted" p) [e] [⟨some "key", .Name "len" p2, kpos⟩] pos) (tSortLen X.K t) := by
  refine ⟨fun pins s σ H Q I h => ?_⟩
  refine wpAny_Call_Name_kw (ld_blt I hg hm (by decide +kernel : bootBuiltins "sorted" = some (.builtin "sorted")) ?_)
  have pa := pa_cons ha pa_nil hs
  refine callWith_kw (thn (pa.run pos pins s σ H (fun vs H1 => match vs with | [v] => rSortLen X.K v H1 Q | _ => False) I h) fun us s1 q1 => ?_) (by rw [hs]; rfl) (by rw [hs]; rfl) rfl rfl
  obtain ⟨vs, H1, I1, r1, q⟩ := q1
  match vs, q, r1 with
  | [], q, _ => exact q.elim
  | _ :: _ :: _, q, _ => exact q.elim
  | [v], q, r1 =>
    obtain ⟨u, rfl, ru⟩ := vals1 r1
    show wpAny _ _ (evalAll [do let v ← eval (.Name "len" p2) X.env; standAt pos; pure v]) _ _ _
    refine wpAny_evalAll_cons (wpAny_bind (ld_blt I1 hg2 hm2 (by decide +kernel : bootBuiltins "len" = some (.builtin "len")) (wpAny_bind (wpAny_standAt (wpAny_pure ?_)))))
    refine wpAny_evalAll_nil ?_
    exact run_sortLen hr I1 ru q
end
/-! ### on contents -/
def lenT : D → Option Nat
  | .tup l => some l.length
  | _ => none
def lensT : List D → Option (List Nat)
  | [] => some []
  | d :: ds => match lenT d, lensT ds with
    | some n, some ns => some (n :: ns)
    | _, _ => none
abbrev lenLe : D × Nat → D × Nat → Bool := fun a b => decide (a.2 ≤ b.2)
def sortLenD (d : D) : Option XV := (seqD d).bind fun l => (lensT l).bind fun ns => if l.length ≤ LIM then some (.own (.lst (((l.zip ns).mergeSort lenLe).map Prod.fst))) else none
theorem lenAll_of {C : Cst} {H : Hp} : ∀ {xs : List V} {ds : List D} {ns : List Nat}, IsDs C H xs ds → lensT ds = some ns → LenAll C.K H xs ns
  | _, _, _, .nil, e => by cases e; exact .nil
  | _, _, _, .cons (d := d) (ds := ds) a t, e => by
    unfold lensT at e
    cases z : lenT d with
    | none => rw [z] at e; cases e
    | some n =>
      rw [z] at e
      cases z1 : lensT ds with
      | none => rw [z1] at e; cases e
      | some ns =>
        rw [z1] at e; cases e
        cases d <;> first | (cases z; done) | skip
        cases z
        cases a with
        | tup h hs => rw [← hs.length]; exact .cons h (lenAll_of t z1)
theorem lensT_len : ∀ {ds : List D} {ns : List Nat}, lensT ds = some ns → ds.length = ns.length
  | [], _, e => by cases e; rfl
  | d :: ds, _, e => by
    unfold lensT at e
    cases z : lenT d with
    | none => rw [z] at e; cases e
    | some n =>
      rw [z] at e
      cases z1 : lensT ds with
      | none => rw [z1] at e; cases e
      | some ns => rw [z1] at e; cases e; simp [lensT_len z1]
theorem zip_mem3 {C : Cst} {G : Hp} : ∀ {xs : List V} {ds : List D} {ns : List Nat}, IsDs C G xs ds → ∀ z ∈ xs.zip (ds.zip ns), IsD C G z.1 z.2.1
  | _, _, _, .nil, z, h => by simp at h
  | _, _, [], .cons a t, z, h => by simp at h
  | _, _, n :: ns, .cons a t, z, h => by
    simp only [List.zip_cons_cons] at h
    rcases List.mem_cons.mp h with rfl | h
    · exact a
    · exact zip_mem3 t z h
theorem zip_3a {α β γ : Type} : ∀ {xs : List α} {ds : List β} {ns : List γ}, xs.length = ds.length → ds.length = ns.length → (xs.zip (ds.zip ns)).map (fun z => (z.1, z.2.2)) = xs.zip ns ∧ (xs.zip (ds.zip ns)).map Prod.snd = ds.zip ns
  | [], [], [], _, _ => ⟨rfl, rfl⟩
  | x :: xs, d :: ds, n :: ns, h, h' => by
    obtain ⟨h1, h2⟩ := zip_3a (xs := xs) (ds := ds) (ns := ns) (by simpa using h) (by simpa using h')
    exact ⟨by simp only [List.zip_cons_cons, List.map_cons, h1], by simp only [List.zip_cons_cons, List.map_cons, h2]⟩
  | [], _ :: _, _, h, _ => by simp at h
  | _ :: _, [], _, h, _ => by simp at h
  | [], [], _ :: _, _, h => by simp at h
  | _ :: _, _ :: _, [], _, h => by simp at h
theorem sortLen_ok {C : Cst} : Op1Ok C (rSortLen C.K) sortLenD := by
  intro W σ ρ H G v d x Q rl t eq k
  unfold sortLenD at eq
  cases z : seqD d with
  | none => rw [z] at eq; cases eq
  | some l =>
    rw [z] at eq
    simp only [Option.bind_some] at eq
    cases z1 : lensT l with
    | none => rw [z1] at eq; cases eq
    | some ns =>
      rw [z1] at eq
      simp only [Option.bind_some] at eq
      split at eq
      case isFalse => cases eq
      rename_i o1
      cases eq
      obtain ⟨a, xs, rfl, h1, h2⟩ := t.seq rl.gh z
      have hl := h2.length
      have hn := lensT_len z1
      refine ⟨a, xs, ns, rfl, h1, lenAll_of (h2.ge rl.gh) z1, by rw [hl]; exact lim_le o1, fun p hp => ?_⟩
      obtain ⟨e1, e2⟩ := zip_3a hl hn
      let zs := (xs.zip (l.zip ns)).mergeSort fun a b => decide (a.2.2 ≤ b.2.2)
      have f1 : (xs.zip ns).mergeSort leN = zs.map fun z => (z.1, z.2.2) := by
        rw [← e1]
        exact (List.map_mergeSort (r := fun a b => decide (a.2.2 ≤ b.2.2)) (s := leN) (f := fun z : V × D × Nat => (z.1, z.2.2)) (fun a _ b _ => rfl)).symm
      have f2 : (l.zip ns).mergeSort lenLe = zs.map Prod.snd := by
        rw [← e2]
        exact (List.map_mergeSort (r := fun a b => decide (a.2.2 ≤ b.2.2)) (s := lenLe) (f := fun z : V × D × Nat => z.2) (l := xs.zip (l.zip ns)) (fun a _ b _ => rfl)).symm
      rw [f1]
      rw [f2] at k
      rw [List.map_map]
      rw [List.map_map] at k
      have g : IsDs C G ((zs.map fun z => (z.1, z.2.1)).map Prod.fst) ((zs.map fun z => (z.1, z.2.1)).map Prod.snd) := isDs_of_zip fun y hy => by
        obtain ⟨z, hz, rfl⟩ := List.mem_map.mp hy
        exact zip_mem3 h2 z ((List.mergeSort_perm _ _).mem_iff.mp hz)
      rw [List.map_map, List.map_map] at g
      exact rl.backLst g k hp
section
variable {ι : Type} {J : Jd} {Xs : ι → Cx} {e : Expr} {f : Env → R XV} {p p2 kpos pos : Pos}
/-- sorted(e, key=len) -/
theorem ce_sortLen (hm : ∀ i, (Xs i).mg "sorted" = none) (hm2 : ∀ i, (Xs i).mg "len" = none) (ha : CE J Xs e f) (hg : ∀ i, Gl (Xs i) "sorted" := by intro _; rfl) (hg2 : ∀ i, Gl (Xs i) "len" := by intro _; rfl)
    (he : ∀ i, starEach [e] (Xs i).env = (false, eval e (Xs i).env) :: starEach [] (Xs i).env := by intro _; rfl) : CE J Xs (.Call (.Name "sorted" p) [e] [⟨some "key", .Name "len" p2, kpos⟩] pos) (op1S sortLenD f) := by
  obtain ⟨t, h1, h2⟩ := ha
  refine ⟨tUn (rSortLen J.C.K) t, fun i G => ?_, ev_op1 h2 sortLen_ok⟩
  have := pe_sortLen (p := p) (p2 := p2) (kpos := kpos) (pos := pos) G.hr (hg i) (hm i) (hg2 i) (hm2 i) (h1 i G) (he i)
  rw [G.hK] at this
  exact this
end
end DL
namespace DL
open PySem L2

/-! ## ==, != of instances with an own def of it -/
/-- what a class must have -/
structure OwnC (P : Program) (w : World) (mg : Str → Option Value) (base : Heap) (C : Cst) (k : Nat) (op : CmpOp) (c : String) (m : FnM) (f : Addr) (fd : FuncData) (ps : List Str) : Prop where
  hs : PySem.W.findIn C.K (.ref (C.CA c)) (cmpInfo op).2.1 = some (some (.ref f))
  hf : PySem.W.isFn C.K (.ref f) = true
  hb : Binds C.K fd ps []
  hl : ps.length = 2
  F : FnOk P w C.K mg base (L2.CX P w) k f fd ps (spF C 2 m)
  ht : PySem.W.notFirst C.K (C.CA c) (.type "tuple") = true
/-- of which class the right side is -/
def YOk (C : Cst) (c : String) (y : V) (H : Hp) : Prop := ∃ b, y = .ref b ∧ ((∃ dx fs, H b = some (.ins (C.CA c) dx fs)) ∨ ∃ xs, SqT C.K H b xs)
def rOwn (P : Program) (w : World) (mg : Str → Option Value) (base : Heap) (C : Cst) (k : Nat) (op : CmpOp) (r : R2) (E : St → XK) (σ : St) : R2 := fun x y H Q => r x y H Q ∨ ∃ a c dx fs m f fd ps, x = .ref a ∧ H a = some (.ins (C.CA c) dx fs) ∧ OwnC P w mg base C k op c m f fd ps ∧ YOk C c y H ∧ spF C 2 m [x, y] H (fun v H' => ∃ b, v = .bl b ∧ Q (.bl b) H') (E σ)
def tOpS (r : St → R2) (ta tb : TE) : TE := fun σ H Q => ta σ H fun x H1 => tb σ H1 fun y H2 => r σ x y H2 Q
section
variable {X : Cx} {a b : Expr} {ta tb : TE} {pos : Pos} {op : CmpOp} {r : R2} {C : Cst} {k : Nat} {E : St → XK}
theorem own_run (hK : X.K = C.K) (ho : OpR X (compareOp op) r) (hop : ∀ v u, compareOp op v u = richCompare op v u) (hr : Room k X.A) (hx : ∀ σ, PassesAt (L2.CX X.prog X.w) X σ (E σ)) {pins : List (Addr × Obj)} {s : Shared} {σ : St} {H : Hp} {x y : V} {v u : Value} {Q : VK} (I : Inv X pins σ H s) (rx : RelV x v) (ry : RelV y u)
    (h : rOwn X.prog X.w X.mg X.base C k op r E σ x y H Q) : wpAny (model X.prog X.w) X.A (compareOp op v u) (EP X pins σ Q) X.xe s := by
  rcases h with h | ⟨a, c, dx, fs, m, f, fd, ps, rfl, ha, O, hy, hsp⟩
  · exact ho pins s σ H x y v u Q I rx ry h
  · rw [hop]
    cases rx
    obtain ⟨mA, J, _⟩ := ins_get I.hok ha
    obtain ⟨od, J, _⟩ := J.look
    obtain ⟨mm, hF⟩ := I.fr
    obtain ⟨b, rfl, hb⟩ := hy
    cases ry
    have kin : C.K.In X.base := by rw [← hK]; exact I.ok.mod.kin
    have fin : wpAny (model X.prog X.w) X.A (call (.ref f) [.ref a, .ref b]) (PySem.W.CmpBack (EP X pins σ Q)) X.xe s := by
      have b2 := O.hb s [.ref a, .ref b] (by rw [← hK]; exact I.kIn) (by rw [O.hl]; rfl)
      refine wpAny_call (codeAny_mono (O.F.run X.A X.stack s H ⟨[.ref a, .ref b], []⟩ [.ref a, .ref b] [.ref a, .ref b] _ (E σ) hr (by rw [← hK]; exact I.env0) (by simpa using b2) (.cons rfl (.cons rfl .nil)) hsp) fun res s' hq => ?_)
      cases res with
      | error e => exact hx σ pins H s e s' I hq
      | ok fl =>
        cases fl with
        | ret z =>
          obtain ⟨v', H', I', rz, bb, rfl, q⟩ := I.after hq
          cases rz
          exact ⟨.bl bb, H', I', rfl, q⟩
        | next => exact False.elim hq
        | brk => exact False.elim hq
        | cont => exact False.elim hq
    rcases hb with ⟨dy, gs, hb⟩ | ⟨xs, hb⟩
    · obtain ⟨mB, J', _⟩ := ins_get I.hok hb
      obtain ⟨od', J', _⟩ := J'.look
      exact PySem.W.cmp_K (tb := .ref (C.CA c)) hr.units0 hF kin J J'.type (by simp [PySem.W.notFirst]) O.hs O.hf fin
    · rw [← hK] at hb
      obtain ⟨its, _, ⟨o, ho', hc', _⟩, _⟩ := I.tuple hb
      exact PySem.W.cmp_K (tb := .type "tuple") hr.units0 hF kin J (show PySem.W.Looks _ s.heap (typeOf (.ref b)) (.type "tuple") from hc' ▸ (PySem.W.Looks.ld ho').andThen .now) O.ht O.hs O.hf fin
theorem pe_cmpO (hK : X.K = C.K) (ho : OpR X (compareOp op) r) (hop : ∀ v u, compareOp op v u = richCompare op v u) (hr : Room k X.A) (hx : ∀ σ, PassesAt (L2.CX X.prog X.w) X σ (E σ)) (ha : PE X a ta) (hb : PE X b tb) (hm : behindInMarks op b = false) : PE X (.Compare a [op] [b] pos) (tOpS (rOwn X.prog X.w X.mg X.base C k op r E) ta tb) :=
  ⟨fun pins s σ H Q I h => wpAny_Compare1 (binT ha hb I h fun v u s2 x y H2 I2 rx ry q => own_run hK ho hop hr hx I2 rx ry q) hm⟩
theorem pt_cmpO (hK : X.K = C.K) (ho : OpR X (compareOp op) r) (hop : ∀ v u, compareOp op v u = richCompare op v u) (hr : Room k X.A) (hx : ∀ σ, PassesAt (L2.CX X.prog X.w) X σ (E σ)) (ha : PE X a ta) (hb : PE X b tb) (hm : behindInMarks op b = false) : PT X (.Compare a [op] [b] pos) (tTest (tOpS (rOwn X.prog X.w X.mg X.base C k op r E) ta tb)) := by
  refine ⟨fun pins s σ H Q I h => wpAny_isTrue_Compare1 (thn (ha.run pins s σ H _ I h) fun v s1 q1 => ?_) hm⟩
  obtain ⟨x, H1, I1, r1, q1⟩ := q1
  refine thn (hb.run pins s1 σ H1 _ I1 q1) fun u s2 q2 => ?_
  obtain ⟨y, H2, I2, r2, q2⟩ := q2
  refine thn (own_run hK ho hop hr hx I2 r1 r2 q2) fun c s3 q3 => ?_
  obtain ⟨z, H3, I3, r3, kk, rfl, q3⟩ := q3
  cases r3
  exact wpAny_truthy_bool ⟨H3, I3, q3⟩
end
/-! ### the mirror -/
def yOkD (c : String) : D → Bool
  | .ins c' _ _ => c' == c
  | .tup _ => true
  | _ => false
def boolX (r : R XV) : R XV := r.bind fun x ρ => match x with
  | .dat (.bl b) => .ok (.dat (.bl b)) ρ
  | _ => .stuck
def cmpIns (tab : String → Option FnM) (p : D → D → Option XV) (x y : XV) (ρ : Env) : R XV := match cont ρ x, cont ρ y with
  | some (.ins c _ _), some e => match tab c with
    | some m => if yOkD c e = true then boolX (callF m [x, y] ρ) else .stuck
    | none => .stuck
  | _, _ => app2 p x y ρ
def cmpO (tab : String → Option FnM) (p : D → D → Option XV) (f g : Env → R XV) : Env → R XV := fun ρ => (opnd f ρ).bind fun x ρ => (opnd g ρ).bind fun y ρ => cmpIns tab p x y ρ
section
variable {ι : Type} {J : Jd} {Xs : ι → Cx} {a b : Expr} {f g : Env → R XV} {tab : String → Option FnM} {p : D → D → Option XV} {r : R2} {op : CmpOp} {pos : Pos}
theorem yOk_of {C : Cst} {c : String} {H G : Hp} {v : V} {d : D} (t : Top C H G v d) (g : Ge G H) (h : yOkD c d = true) : YOk C c v H := by
  cases d <;> first | (cases h; done) | skip
  · obtain ⟨a, xs, rfl, h1, _⟩ := t.tup g
    exact ⟨a, rfl, .inr ⟨xs, h1⟩⟩
  · obtain ⟨a, dx, fs, rfl, h1, _⟩ := t.ins g
    have e : _ = c := eq_of_beq h
    subst e
    exact ⟨a, rfl, .inl ⟨dx, fs, h1⟩⟩
theorem ev_cmpO {P : Program} {wd : World} {mg : Str → Option Value} {base : Heap} {ta tb : TE} (ha : EvE J ta f) (hb : EvE J tb g) (hp : Op2Ok J.C r p) (hT : ∀ c m, tab c = some m → ∃ fa fd ps, OwnC P wd mg base J.C J.k op c m fa fd ps) :
    EvE J (tOpS (rOwn P wd mg base J.C J.k op r fun σ => WE J.EW σ) ta tb) (cmpO tab p f g) := by
  intro W σ ρ H G Q pk rl h
  refine ha.opnd W σ ρ H G _ pk rl ((Got.bind h).imp fun x ρ1 H1 G1 e1 r1 k v vk => ?_)
  refine hb.opnd W σ ρ1 H1 G1 _ pk r1 ((Got.bind k).imp fun y ρ2 H2 G2 e2 r2 k w wk => ?_)
  have vk := vk.ge e2
  unfold cmpIns at k
  split at k
  · rename_i c ns ds e zx zy
    have tx := vk.top r2 zx
    have ty := wk.top r2 zy
    obtain ⟨a, dx, fs, rfl, h1, _⟩ := tx.ins r2.gh
    cases zt : tab c with
    | none => rw [zt] at k; exact k.elim
    | some m =>
      rw [zt] at k
      dsimp only at k
      split at k
      case isFalse => exact k.elim
      rename_i hy
      obtain ⟨fa, fd, ps, O⟩ := hT c m zt
      refine .inr ⟨a, c, dx, fs, m, fa, fd, ps, rfl, h1, O, yOk_of ty r2.gh hy, ?_⟩
      refine callF_ok (xs := [x, y]) 2 rfl r2 ⟨vk, wk, trivial⟩ ((Got.bind k).imp fun z ρ3 H3 G3 e3 r3 k u uk => ?_)
      cases z with
      | dat d =>
        cases d <;> first | exact k.elim | skip
        cases uk
        exact ⟨_, rfl, k H3 G3 (Ge.refl _) r3 _ (.bl _)⟩
      | own d => exact k.elim
      | slot i => exact k.elim
  · exact .inl (app2_ok (C := J.C) hp r2 vk wk k)
theorem ce_cmpO (ho : ∀ X, Good J X → OpR X (compareOp op) r) (hp : Op2Ok J.C r p) (hop : ∀ v u, compareOp op v u = richCompare op v u) {P : Program} {wd : World} {mg : Str → Option Value} {base : Heap} (hT : ∀ c m, tab c = some m → ∃ fa fd ps, OwnC P wd mg base J.C J.k op c m fa fd ps)
    (hP : ∀ i, (Xs i).prog = P ∧ (Xs i).w = wd ∧ (Xs i).mg = mg ∧ (Xs i).base = base) (ha : CE J Xs a f) (hb : CE J Xs b g) (hm : behindInMarks op b = false) : CE J Xs (.Compare a [op] [b] pos) (cmpO tab p f g) := by
  obtain ⟨ta, a1, a2⟩ := ha
  obtain ⟨tb, b1, b2⟩ := hb
  refine ⟨_, fun i G => ?_, ev_cmpO (P := P) (wd := wd) (mg := mg) (base := base) a2 b2 hp hT⟩
  obtain ⟨e1, e2, e3, e4⟩ := hP i
  rw [← e1, ← e2, ← e3, ← e4]
  exact pe_cmpO G.hK (ho _ G) hop G.hr (fun σ => passAt G.tk σ) (a1 i G) (b1 i G) hm
theorem ct_cmpO (ho : ∀ X, Good J X → OpR X (compareOp op) r) (hp : Op2Ok J.C r p) (hop : ∀ v u, compareOp op v u = richCompare op v u) {P : Program} {wd : World} {mg : Str → Option Value} {base : Heap} (hT : ∀ c m, tab c = some m → ∃ fa fd ps, OwnC P wd mg base J.C J.k op c m fa fd ps)
    (hP : ∀ i, (Xs i).prog = P ∧ (Xs i).w = wd ∧ (Xs i).mg = mg ∧ (Xs i).base = base) (ha : CE J Xs a f) (hb : CE J Xs b g) (hm : behindInMarks op b = false) : CT J Xs (.Compare a [op] [b] pos) (testS (cmpO tab p f g)) := by
  obtain ⟨ta, a1, a2⟩ := ha
  obtain ⟨tb, b1, b2⟩ := hb
  refine ⟨_, fun i G => ?_, ev_test (ev_cmpO (P := P) (wd := wd) (mg := mg) (base := base) a2 b2 hp hT)⟩
  obtain ⟨e1, e2, e3, e4⟩ := hP i
  rw [← e1, ← e2, ← e3, ← e4]
  exact pt_cmpO G.hK (ho _ G) hop G.hr (fun σ => passAt G.tk σ) (a1 i G) (b1 i G) hm
end
end DL
namespace DL
open PySem L2

/-! ## the law's start, with tables -/
theorem cx_false {P : Program} {w : World} {H : Hp} {s s2 : Shared} {e : Value} (h : L2.CX P w [] H s (fun _ _ _ => False) e s2) : False := by
  obtain ⟨_, _, _, _, _, _, _, _, _, _, _, _, hE⟩ := h
  exact hE
theorem isD_ints {C : Cst} {H : Hp} : ∀ l : List Int, IsDs C H (l.map V.int) (l.map D.int)
  | [] => .nil
  | x :: l => .cons (.int x) (isD_ints l)
open Classical in
theorem sp_startT {C : Cst} {f : FnM} {H : Hp} {a : Addr} {ns : List Int} (hS : SqL C.K H a (ns.map V.int)) (hT : ∀ p ∈ C.T, H p.1 = some (.tbl #[])) (h : ∃ outs, f [.dat (.rol (ns.map .int))] = .ok (.dat (.bl true)) outs) : spF C 1 f [.ref a] H (fun v _ => v = .bl true) fun _ _ _ => False := by
  obtain ⟨outs, h⟩ := h
  have inT : ∀ b, b ∈ C.T.map Prod.fst → H b = some (.tbl #[]) := fun b hb => by
    obtain ⟨p, hp, rfl⟩ := List.mem_map.mp hb
    exact hT p hp
  have G0 : ∀ b o, H b = some o → (∀ ps, o ≠ .tbl ps) → (if b ∈ C.T.map Prod.fst then none else H b) = some o := fun b o e n => by
    rw [if_neg fun z => ?_]
    · exact e
    · rw [inT b z] at e; cases e; exact n _ rfl
  have hSG : SqL C.K (fun b => if b ∈ C.T.map Prod.fst then none else H b) a (ns.map V.int) := by
    rcases hS with (e | ⟨o, e⟩) | e
    · exact .inl (.inl (G0 _ _ e fun _ z => by cases z))
    · exact .inl (.inr ⟨o, G0 _ _ e fun _ z => by cases z⟩)
    · exact .inr e
  have at1 : ∀ i, Env.at [SV.dat (.rol (ns.map .int))] (i + 1) = .un := fun i => Env.at_out (by simp)
  refine ⟨⟨fun _ => none, fun b => b ∈ C.T.map Prod.fst, fun _ _ => False, [], none, fun _ => none⟩, fun b => if b ∈ C.T.map Prod.fst then none else H b, [.dat (.rol (ns.map .int))], rfl, rfl, ⟨fun b o e => ?_, fun _ _ e => (by cases e), fun b q => ⟨if_pos q, _, inT b q⟩, fun _ _ q => q.elim, fun _ q => (by cases q), rfl, fun i => ?_, fun i j b ij k1 => ?_, fun p hp => (by cases hp), fun p hp => ⟨List.mem_map_of_mem hp, rfl, #[], hT p hp, trivial, fun pos cv hc => ?_⟩⟩, fun _ q => (by cases q), fun j b hj => ?_, ?_⟩
  · split at e
    · cases e
    · exact e
  · cases i with
    | zero => exact ⟨_, rfl, .rol hSG (isD_ints ns)⟩
    | succ i => rw [at1]; exact trivial
  · cases i with
    | zero => cases k1
    | succ i => rw [at1] at k1; cases k1
  · have z : codeAmong pos [] = some cv := hc
    simp [codeAmong] at z
  · cases j with
    | zero => cases hj
    | succ j => rw [at1] at hj; cases hj
  · rw [h]
    intro v H' G' _ _ vk _
    cases vk
    rfl
/-- the row's walk, the tables of the defs that hold lambdas known -/
theorem walk_tabs {l : PySem.W.OpenLaw} {n k : Nat} {q : Program} {loose : List Str} {XP : (Str → Option Value) → Heap → Prop} {YP : World → Heap → Prop} {d : DefRec} {K : Params → PySem.W.Frag} {CX : World → CXT} {x : Str}
    (hn : l.most = some n) (hn2 : n ≤ sizeLine) (hdf : d.params.defaults = []) (hr : Room k callerA) (hY : ∀ (w : World) (h : Heap), YP w h → (K w.params).In h)
    (F : ∀ (w : World) (mg : Str → Option Value) (fa : Addr) (h : Heap), YP w h → (K w.params).In h → h.Ns mainGlobals mg → mg d.name = some (.ref fa) →
      (∀ (y : Str) (c P : Addr) (e : DefRec), (PyProof.Rows.recsOf q).find? (fun e => e.name == y) = some e → PySem.W.tabIn (K w.params) y = some (c, P) → PySem.W.CodeHd h c P ∧ h.get? P = some { cls := .none, data := .fields #[] }) → LamX.LawAtS l w (K w.params) (CX w) k n x mg fa h)
    (hCX : ∀ (w : World) (H : Hp) (s : Shared) (e : Value) (s' : Shared), CX w [] H s (fun _ _ _ => False) e s' → False) :
    PySem.W.WalkO q loose XP YP l.row.toRowW d [] (fun f vs => PySem.call f vs) := by
  refine Att.attach_callB hn hdf fun w s₀ s₁ mg mb fa o pm cd doc a vs ns G Y ho hd hcd hmg hobj hints hlen hbits hg => ?_
  obtain ⟨fd, cs, sp, hT, nT, C, hb, hsp, hF⟩ := F w mg fa _ Y (hY w _ Y) G.T.g hmg fun y c P e he ht => PySem.W.tab_of G.T (hY w _ Y) he ht
  exact LamX.law_callTs (hY w _ Y) G.T.g G.T.b G.T.builtins G.T.nolimit hg hT nT C G.T.bmain hobj hints (Nat.le_trans hlen hn2) hr hF hb (fun H hH hS => hsp H a ns hlen hbits hH hS) fun H e s' => hCX w H s₁ e s'
end DL
namespace DL
open PySem L2

/-! ## where a lambda stands in the text -/
def noE : Expr := .Constant .none 0 ⟨0, 0, 0, 0⟩
def noSt : Stmt := .Pass ⟨0, 0, 0, 0⟩
def sAt (l : List Stmt) (i : Nat) : Stmt := l.getD i noSt
def stE : Stmt → Expr
  | .Return (some e) _ => e
  | .Assign _ e _ => e
  | .Expr e _ => e
  | .If c _ _ _ => c
  | .While c _ _ _ => c
  | .For _ e _ _ _ => e
  | _ => noE
def stB : Stmt → List Stmt
  | .If _ b _ _ => b
  | .While _ b _ _ => b
  | .For _ _ b _ _ => b
  | .Try b _ _ _ _ => b
  | _ => []
def stO : Stmt → List Stmt
  | .If _ _ b _ => b
  | _ => []
/-- the parts of an expression, in order -/
def exE (i : Nat) : Expr → Expr
  | .Call f as _ _ => (f :: as).getD i noE
  | .Compare l _ cs _ => (l :: cs).getD i noE
  | .BoolOp _ xs _ => xs.getD i noE
  | .BinOp l _ r _ => [l, r].getD i noE
  | .UnaryOp _ e _ => [e].getD i noE
  | .IfExp c a b _ => [c, a, b].getD i noE
  | .Tuple es _ _ => es.getD i noE
  | .List es _ => es.getD i noE
  | .Subscript v s _ => [v, s].getD i noE
  | .Attribute v _ _ => [v].getD i noE
  | .Starred v _ => [v].getD i noE
  | _ => noE
def noArgs : Arguments := ⟨[], [], none, [], [], none, []⟩
def lamOf (q : Str) (ps fr : List Str) : Expr → LamI
  | .Lambda params body scope _ => ⟨q, params, body, scope, ps, fr⟩
  | _ => ⟨q, noArgs, noE, default, ps, fr⟩
/-! ## what is decided of the text -/
def freeB (sc scope : Scope) : Bool := scope.names.all fun y => !decide (y.2 = .free) || decide (sc.names.lookup y.1 = some .cell) || decide (sc.names.lookup y.1 = some .free)
theorem free_of {sc scope : Scope} (h : freeB sc scope = true) : ∀ y ∈ scope.names, y.2 = .free → sc.names.lookup y.1 = some .cell ∨ sc.names.lookup y.1 = some .free := fun y hy e => by
  have h2 := List.all_eq_true.mp h y hy
  simp only [Bool.or_eq_true, Bool.not_eq_true', decide_eq_true_eq, decide_eq_false_iff_not] at h2
  rcases h2 with (z | z) | z
  · exact absurd e z
  · exact .inl z
  · exact .inr z
def jyB (N : List Str) (sc : Scope) (jy : List (Nat × Str)) : Bool := jy.all fun p => decide (N[p.1]? = some p.2) && decide (sc.names.lookup p.2 = some .cell)
theorem jy_of {N : List Str} {sc : Scope} {jy : List (Nat × Str)} (h : jyB N sc jy = true) : ∀ p ∈ jy, N[p.1]? = some p.2 ∧ sc.names.lookup p.2 = some .cell := fun p hp => by
  have h2 := List.all_eq_true.mp h p hp
  simpa using h2
theorem TabOk.mono {P : Program} {w : World} {mg : Str → Option Value} {base : Heap} {C : Cst} {j k n : Nat} {tab : Nat → Option FnM} (h : TabOk P w mg base C j n tab) (hk : j ≤ k) : TabOk P w mg base C k n tab := fun id m e => ⟨(h id m e).1.mono hk, (h id m e).2⟩
/-! ## isinstance(x, C), C an own class -/
def plainTys : List String := ["NoneType", "bool", "int", "str", "tuple", "list"]
def tCls (c : String) : IsiT := ⟨fun t => if plainTys.contains t = true then some false else none, fun d => if d = c then some true else none⟩
theorem isi_cls {C : Cst} {c : String} {u : Value} (h1 : ∀ t ∈ plainTys, PySem.W.kitOne C.K (.type t) u = some false) (h2 : InsF C.K (C.CA c)) (h3 : PySem.W.kitOne C.K (.ref (C.CA c)) u = some true) : IsiOk C (tCls c) u := by
  refine ⟨fun t b e => ?_, fun d b e => ?_⟩
  · have e : (if plainTys.contains t = true then some false else none) = some b := e
    split at e
    · rename_i h
      cases e
      exact h1 t (List.contains_iff_mem.mp h)
    · cases e
  · have e : (if d = c then some true else none) = some b := e
    by_cases h : d = c
    · rw [if_pos h] at e
      cases e
      rw [h]
      exact ⟨h2, h3⟩
    · rw [if_neg h] at e; cases e
/-- the facts of an own comparison -/
structure OwnF (C : Cst) (c : String) (op : CmpOp) (f : Addr) : Prop where
  hs : PySem.W.findIn C.K (.ref (C.CA c)) (cmpInfo op).2.1 = some (some (.ref f))
  hf : PySem.W.isFn C.K (.ref f) = true
  ht : PySem.W.notFirst C.K (C.CA c) (.type "tuple") = true
theorem OwnF.ok {P : Program} {w : World} {mg : Str → Option Value} {base : Heap} {C : Cst} {j k : Nat} {op : CmpOp} {c : String} {m : FnM} {f : Addr} {fd : FuncData} {ps : List Str} (o : OwnF C c op f) (hb : Binds C.K fd ps []) (hl : ps.length = 2) (F : FnOk P w C.K mg base (L2.CX P w) j f fd ps (spF C 2 m)) (hk : j ≤ k) :
    OwnC P w mg base C k op c m f fd ps := ⟨o.hs, o.hf, hb, hl, F.mono hk, o.ht⟩
end DL
namespace DL
open PySem L2

/-! ## list comprehensions of two clauses -/
def EvJ (J : Jd) (wi : TI) (fi : Env → R (List D)) : Prop := ∀ W σ ρ H G (K : It → Hp → Prop), PinOk W J.P J.ex → Rel J.C W σ ρ H G →
  Got J W σ G (fi ρ) (fun items _ H' G' => ∀ It, (∀ W', WalkOk J.C W' G' It items) → K It H') → wi σ H K
def CJ {ι : Type} (J : Jd) (Xs : ι → Cx) (tg iter : Expr) (fi : Env → R (List D)) : Prop := ∃ wi, (∀ i, Good J (Xs i) → PI (Xs i) tg iter wi) ∧ EvJ J wi fi
section
variable {J : Jd} {te : TE} {f : Env → R XV}
theorem ev_jnL (h : EvE J te f) : EvJ J (iList J.C.K te) (inV_ f itL) := by
  intro W σ ρ H G K pk r k
  refine h.val W σ ρ H G _ pk r ((Got.bind k).imp fun d ρ1 H1 G1 e1 r1 k v vk => ?_)
  unfold itL at k
  cases z : lstD d with
  | none => rw [z] at k; exact k.elim
  | some l =>
    rw [z] at k
    cases d <;> cases z
    · cases vk with
      | lst h1 h2 => exact ⟨_, rfl, ⟨_, SqL.of (r1.gh _ _ h1)⟩, k H1 G1 (Ge.refl _) r1 _ fun _ => walk_lstD (SqL.of h1) h2⟩
    · cases vk with
      | rol h1 h2 => exact ⟨_, rfl, ⟨_, r1.gh.sqL h1⟩, k H1 G1 (Ge.refl _) r1 _ fun _ => walk_lstD h1 h2⟩
theorem ev_jnT (h : EvE J te f) : EvJ J (iTup J.C.K te) (inV_ f itT) := by
  intro W σ ρ H G K pk r k
  refine h.val W σ ρ H G _ pk r ((Got.bind k).imp fun d ρ1 H1 G1 e1 r1 k v vk => ?_)
  cases d <;> first | (exact k.elim) | skip
  cases vk with
  | tup h1 h2 => exact ⟨_, rfl, ⟨_, r1.gh.sqT h1⟩, k H1 G1 (Ge.refl _) r1 _ fun _ => walk_tupD h1 h2⟩
theorem EvJ.or {t u : TI} {f f1 f2 : Env → R (List D)} (h1 : EvJ J t f1) (h2 : EvJ J u f2) (h : ∀ ρ, f ρ = f1 ρ ∨ f ρ = f2 ρ) : EvJ J (fun σ H Q => t σ H Q ∨ u σ H Q) f := by
  intro W σ ρ H G Q pk rl g
  rcases h ρ with e | e
  · rw [e] at g; exact .inl (h1 W σ ρ H G Q pk rl g)
  · rw [e] at g; exact .inr (h2 W σ ρ H G Q pk rl g)
end
section
variable {ι : Type} {J : Jd} {Xs : ι → Cx} {tg e a b : Expr} {f : Env → R XV} {fs : Env → R (List XV)} {p pos : Pos}
theorem cj_val (h : CE J Xs e f) : CJ J Xs tg e (inV_ f itV) := by
  obtain ⟨te, h1, h2⟩ := h
  refine ⟨_, fun i G => ?_, EvJ.or (ev_jnL h2) (ev_jnT h2) inV_or⟩
  have := PI.or (pi_list (tg := tg) (h1 i G)) (pi_tup (tg := tg) (h1 i G))
  rw [G.hK] at this
  exact this
end
/-- the second clause's loop goes on with the first's list -/
def lc2L (vs vs1 : List Nat) (ft : D → Env → Option Env) (tt : Env → R Bool) (fi1 : Env → R (List D)) (ft1 : D → Env → Option Env) (tt1 : Env → R Bool) (fe : Env → R XV) : List D → List D → Env → R (List D)
  | [], acc, ρ => .ok acc ρ
  | d :: ds, acc, ρ => match ft d ρ with
    | none => .stuck
    | some ρ1 => match tt ρ1 with
      | .ok true ρ2 => match fi1 ρ2 with
        | .ok its ρ3 => match lcL vs1 ft1 tt1 fe its acc (forget vs1 ρ3) with
          | .ok acc' ρ4 => lc2L vs vs1 ft tt fi1 ft1 tt1 fe ds acc' (forget vs ρ4)
          | _ => .stuck
        | _ => .stuck
      | .ok false ρ2 => lc2L vs vs1 ft tt fi1 ft1 tt1 fe ds acc (forget vs ρ2)
      | _ => .stuck
def lc2R (vs vs1 : List Nat) (ft : D → Env → Option Env) (tt : Env → R Bool) (fi1 : Env → R (List D)) (ft1 : D → Env → Option Env) (tt1 : Env → R Bool) (fe : Env → R XV) (items : List D) (ρ : Env) : R XV :=
  if clear vs ρ = true then match lc2L vs vs1 ft tt fi1 ft1 tt1 fe items [] (forget vs ρ) with
    | .ok out ρ2 => .ok (.own (.lst out)) (restore vs ρ ρ2)
    | _ => .stuck
  else .stuck
def lc2S (vs vs1 : List Nat) (fi : Env → R (List D)) (ft : D → Env → Option Env) (tt : Env → R Bool) (fi1 : Env → R (List D)) (ft1 : D → Env → Option Env) (tt1 : Env → R Bool) (fe : Env → R XV) : Env → R XV := fun ρ => (fi ρ).bind (lc2R vs vs1 ft tt fi1 ft1 tt1 fe)
theorem wipe_sub {σ : St} {vs vs1 : List Nat} (h : ∀ j ∈ vs1, j ∈ vs) : wipe (wipe σ vs1) vs = wipe σ vs := by
  apply List.ext_getElem?
  intro i
  by_cases m : i ∈ vs
  · have e : ∀ τ : St, τ.length = σ.length → (wipe τ vs)[i]? = if i < σ.length then some none else none := fun τ hτ => by
      cases z : (wipe τ vs)[i]? with
      | none =>
        have := List.getElem?_eq_none_iff.mp z
        rw [wipe_length] at this
        rw [if_neg (by omega)]
      | some o =>
        have hl := (List.getElem?_eq_some_iff.mp z).1
        rw [wipe_length] at hl
        rw [if_pos (by omega)]
        cases o with
        | none => rfl
        | some v => exact absurd m (wipe_some z).2
    rw [e _ (wipe_length _ _), e _ rfl]
  · rw [wipe_out m, wipe_out m, wipe_out fun z => m (h i z)]
theorem it_gen {It : It} {n : Nat} {Gd : Hp → Prop} {Y : Nat → Hp → V → Hp → Prop} (wk : Walk It n Gd Y) {H0 : Hp} {Bd : V → Hp → (Hp → Prop) → Prop} {Qd : Hp → Prop} (Pv : Nat → Hp → Prop) (h0 : Pv 0 H0) (hG : ∀ i H, Pv i H → Gd H)
    (hs : ∀ i x H H', i < n → Pv i H → Y i H x H' → Bd x H' (Pv (i + 1))) (hd : ∀ H, Pv n H → Qd H) :
    ∃ W' : Nat → Nat → Hp → Prop, (∃ m, W' 0 m H0) ∧ ∀ i m H, W' i m H → (It.stop i H ∧ Qd H) ∨ (It.go i H ∧ ∃ Nx : Hp → Prop, (∀ H', Nx H' → ∃ m', m' < m ∧ W' (i + 1) m' H') ∧ ∀ x H', It.yld i H x H' → Bd x H' Nx) := by
  refine ⟨fun i m H => m = n - i ∧ i ≤ n ∧ Pv i H, ⟨n, by simp, Nat.zero_le _, h0⟩, ?_⟩
  rintro i m H ⟨rfl, hi, p⟩
  have q := hG i H p
  by_cases hlt : i < n
  · exact .inr ⟨wk.goes i H hlt q, Pv (i + 1), fun H' p' => ⟨n - (i + 1), by omega, rfl, hlt, p'⟩, fun x H' y => hs i x H H' hlt p (wk.yields i H x H' hlt q y)⟩
  · have e : i = n := by omega
    subst e
    exact .inl ⟨wk.stops H q, hd H p⟩
section
variable {J : Jd} {W : Fm} {σ : St} {ρ : Env} {H G : Hp} {g : TG} {tt : TT} {te : TE} {ts vs : List Nat} {ft : D → Env → Option Env} {ftt : Env → R Bool} {fe : Env → R XV}
/-- a loop that goes on with the list at D -/
theorem li_core {It : It} {items : List D} {D : Addr} {accV : List V} {accD : List DL.D} {Nx : Hp → Prop} (w : WalkOk J.C (W.hold D (.lst accV)) G It items ∧ ∀ W', WalkOk J.C W' G It items) (hzD : W.Z D = none) (hnD : ¬ W.N D) (hbD : ∀ i, ¬ W.B i D)
    (r : Rel J.C (W.hold D (.lst accV)) σ ρ H G) (ha : IsDs J.C G accV accD) (pk : PinOk W J.P J.ex) (hP : ∀ j ∈ vs, j ∉ J.P) (hts : ∀ j ∈ ts, j ∈ vs) (hg : EvG J g ts ft) (ht : EvT J tt ftt) (he : EvE J te fe)
    (h : match lcL vs ft ftt fe items accD (forget vs ρ) with
      | .ok out ρ2 => ∀ H2 G2 outV, Ge G G2 → H2 D = some (.lst outV) → IsDs J.C G2 outV out → Rel J.C (W.hold D (.lst outV)) (wipe σ vs) ρ2 H2 G2 → Nx H2
      | _ => False) :
    ∃ W' : Nat → Nat → Hp → Prop, (∃ m, W' 0 m H) ∧ ∀ i m H, W' i m H →
      (It.stop i H ∧ Nx H) ∨ (It.go i H ∧ ∃ Nx1 : Hp → Prop, (∀ H', Nx1 H' → ∃ m', m' < m ∧ W' (i + 1) m' H') ∧ ∀ x H', It.yld i H x H' → g x (wipe σ vs) H' fun σ2 H2 => wipe σ2 vs = wipe σ vs ∧ tt σ2 H2 fun b H3 =>
        if b = true then te σ2 H3 fun y H4 => ∃ acc, H4 D = some (.lst acc) ∧ acc.length < sizeLine ∧ Nx1 (upd H4 D (.lst (acc ++ [y]))) else Nx1 H3) := by
  obtain ⟨-, w⟩ := w
  obtain ⟨Gd, Y, wk, hG, hY⟩ := w W
  have hp : ∀ p ∈ W.pin, p.1 ∉ vs := fun p q z => hP p.1 z (pk.1 p q)
  let Rest (G' : Hp) (r : R (List DL.D)) : Prop := match r with
    | .ok out ρ2 => ∀ H2 G2 outV, Ge G' G2 → H2 D = some (.lst outV) → IsDs J.C G2 outV out → Rel J.C (W.hold D (.lst outV)) (wipe σ vs) ρ2 H2 G2 → Nx H2
    | _ => False
  have later : ∀ {G1 G2 : Hp} {r : R (List DL.D)}, Ge G1 G2 → Rest G1 r → Rest G2 r := fun {G1 G2 r} e k => by
    cases r with
    | ok out ρ2 => exact fun H2 G2 V e2 => k H2 G2 V (e.trans e2)
    | exc _ _ _ _ => exact k
    | stuck => exact k
  have h0 : Rest G (lcL vs ft ftt fe items accD (forget vs ρ)) := h
  have un : ∀ {ρ : Env}, ∀ j ∈ vs, (forget vs ρ).at j = .un := fun {ρ} j hj => by rw [forget_at, if_pos hj]
  let Pv : Nat → Hp → Prop := fun i H => ∃ ρi Gi accV accD, Ge G Gi ∧ H D = some (.lst accV) ∧ IsDs J.C Gi accV accD ∧ Rel J.C (W.hold D (.lst accV)) (wipe σ vs) ρi H Gi ∧ (∀ j ∈ vs, ρi.at j = .un) ∧ Rest Gi (lcL vs ft ftt fe (items.drop i) accD ρi)
  have p0 : Pv 0 H := ⟨forget vs ρ, G, accV, accD, Ge.refl _, r.zh D _ hold_eq, ha, (r.forget (l := vs)).wiped un hp, un, h0⟩
  have pG : ∀ i H, Pv i H → Gd H := by
    rintro i H ⟨ρi, Gi, accV, accD, e, hD, ha, ri, _, _⟩
    exact hG (wipe σ vs) ρi H Gi e (ri.release hzD hnD hbD).1
  refine it_gen wk Pv p0 pG (fun i x H H' hlt p y => ?_) fun H p => ?_
  case refine_2 =>
    obtain ⟨ρi, Gi, accV, accD, e, hDi, ha, ri, hu, hr⟩ := p
    rw [List.drop_length] at hr
    exact hr H Gi accV (Ge.refl _) hDi ha ri
  obtain ⟨ρi, Gi, accV, accD, e, hDi, ha, ri, hu, hr⟩ := p
  have hd : items.drop i = items[i] :: items.drop (i + 1) := List.drop_eq_getElem_cons hlt
  rw [hd, lcL] at hr
  obtain ⟨G2, e2, r2, d2⟩ := hY i items[i] (List.getElem?_eq_getElem hlt) _ (wipe σ vs) ρi H Gi x H' ri e y fun a o z => by
    rw [hold_ne (fun q => by subst q; rw [hzD] at z; cases z)]; exact z
  cases z : ft items[i] ρi with
  | none => rw [z] at hr; exact hr.elim
  | some ρ1 =>
    rw [z] at hr
    dsimp only at hr
    refine hg (W.hold D (.lst accV)) (wipe σ vs) ρi H' G2 x _ ρ1 _ pk r2 d2 z fun σ1 w1 r3 => ⟨(w1 vs hts).trans wipe_wipe, ?_⟩
    have hw : wipe σ1 vs = wipe σ vs := (w1 vs hts).trans wipe_wipe
    refine ht (W.hold D (.lst accV)) σ1 ρ1 H' G2 _ pk r3 ?_
    cases zt : ftt ρ1 with
    | stuck => rw [zt] at hr; exact hr.elim
    | exc _ _ _ _ => rw [zt] at hr; exact hr.elim
    | ok b ρ2 =>
      rw [zt] at hr
      intro H3 G3 e3 r4
      cases b with
      | false =>
        rw [if_neg (by decide)]
        dsimp only at hr
        have r5 : Rel J.C (W.hold D (.lst accV)) (wipe σ vs) (forget vs ρ2) H3 G3 := by
          have := (r4.forget (l := vs)).wiped un (fun p q => hp p q)
          rwa [hw] at this
        exact ⟨forget vs ρ2, G3, accV, accD, e.trans (e2.trans e3), r4.zh D _ hold_eq, ha.ge (e2.trans e3), r5, un, later (e2.trans e3) hr⟩
      | true =>
        rw [if_pos rfl]
        dsimp only at hr
        refine he.val (W.hold D (.lst accV)) σ1 ρ2 H3 G3 _ pk r4 ?_
        cases zv : valS fe ρ2 with
        | stuck => rw [zv] at hr; exact hr.elim
        | exc _ _ _ _ => rw [zv] at hr; exact hr.elim
        | ok yd ρ3 =>
          rw [zv] at hr
          dsimp only at hr
          intro H4 G4 e4 r5 yv hy
          by_cases hlen : accD.length < LIM
          · rw [if_pos hlen] at hr
            have hD4 := r5.zh D _ hold_eq
            have r6 : Rel J.C (W.hold D (.lst accV)) (wipe σ vs) (forget vs ρ3) H4 G4 := by
              have := (r5.forget (l := vs)).wiped un (fun p q => hp p q)
              rwa [hw] at this
            have ee := e2.trans (e3.trans e4)
            refine ⟨accV, hD4, by rw [ha.length]; exact lim_lt hlen, forget vs ρ3, G4, accV ++ [yv], accD ++ [yd], e.trans ee, upd_same, (ha.ge ee).append (.cons hy .nil), r6.rehold hbD, un, later ee hr⟩
          · rw [if_neg hlen] at hr; exact hr.elim
end
section
variable {J : Jd} {W : Fm} {σ : St} {ρ : Env} {H G : Hp} {Q : VK} {g g1 : TG} {tt tt1 : TT} {te : TE} {wi1 : TI} {ts vs ts1 vs1 : List Nat} {ft ft1 : D → Env → Option Env} {ftt ftt1 : Env → R Bool} {fi1 : Env → R (List D)} {fe : Env → R XV}
theorem lc2_core {It : It} {items : List D} (w : WalkOk J.C W G It items) (r : Rel J.C W σ ρ H G) (pk : PinOk W J.P J.ex) (hP : ∀ j ∈ vs, j ∉ J.P) (hv : ∀ j ∈ vs1, j ∈ vs) (hts : ∀ j ∈ ts, j ∈ vs) (hts1 : ∀ j ∈ ts1, j ∈ vs1)
    (hg : EvG J.blk g ts ft) (ht : EvT J.blk tt ftt) (hi : EvJ J.blk wi1 fi1) (hg1 : EvG J.blk g1 ts1 ft1) (ht1 : EvT J.blk tt1 ftt1) (he : EvE J.blk te fe)
    (h : Got J W σ G (lc2R vs vs1 ft ftt fi1 ft1 ftt1 fe items ρ) (fun x ρ' H' G' => ∀ v, VOk J.C W σ ρ' H' G' v x → Q v H')) : ∀ D, H D = none →
    ∃ W' : Nat → Nat → Hp → Prop, (∃ m, W' 0 m (upd H D (.lst []))) ∧ ∀ i m H, W' i m H →
      (It.stop i H ∧ Q (.ref D) H) ∨ (It.go i H ∧ ∃ Nx : Hp → Prop, (∀ H', Nx H' → ∃ m', m' < m ∧ W' (i + 1) m' H') ∧ ∀ x H', It.yld i H x H' → g x (wipe σ vs) H' fun σ2 H2 => wipe σ2 vs = wipe σ vs ∧ tt σ2 H2 fun b H3 =>
        if b = true then wi1 σ2 H3 fun J1 H4 => ∃ W1 : Nat → Nat → Hp → Prop, (∃ m, W1 0 m H4) ∧ ∀ j k H, W1 j k H →
          (J1.stop j H ∧ Nx H) ∨ (J1.go j H ∧ ∃ Nx1 : Hp → Prop, (∀ H', Nx1 H' → ∃ k', k' < k ∧ W1 (j + 1) k' H') ∧ ∀ x H', J1.yld j H x H' → g1 x (wipe σ2 vs1) H' fun σ3 H5 => wipe σ3 vs1 = wipe σ2 vs1 ∧ tt1 σ3 H5 fun b H6 =>
            if b = true then te σ3 H6 fun y H7 => ∃ acc, H7 D = some (.lst acc) ∧ acc.length < sizeLine ∧ Nx1 (upd H7 D (.lst (acc ++ [y]))) else Nx1 H6)
        else Nx H3) := by
  intro D hD
  obtain ⟨Gd, Y, wk, hG, hY⟩ := w
  have hp : ∀ p ∈ W.pin, p.1 ∉ vs := fun p q z => hP p.1 z (pk.1 p q)
  have hzD : W.Z D = none := by
    cases z : W.Z D with
    | none => rfl
    | some u => have := r.zh _ _ z; rw [hD] at this; cases this
  have hnD : ¬ W.N D := fun q => by obtain ⟨u, hu⟩ := (r.nn D q).2; rw [hD] at hu; cases hu
  have hbD := r.noB hzD
  unfold lc2R at h
  by_cases c : clear vs ρ = true
  case neg => rw [if_neg c] at h; exact h.elim
  rw [if_pos c] at h
  let Rest (G' : Hp) (r : R (List DL.D)) : Prop := match r with
    | .ok out ρ2 => ∀ H2 G2, Ge G' G2 → Rel J.C W σ (restore vs ρ ρ2) H2 G2 → ∀ v, VOk J.C W σ (restore vs ρ ρ2) H2 G2 v (.own (.lst out)) → Q v H2
    | _ => False
  have later : ∀ {G1 G2 : Hp} {r : R (List DL.D)}, Ge G1 G2 → Rest G1 r → Rest G2 r := fun {G1 G2 r} e k => by
    cases r with
    | ok out ρ2 => exact fun H2 G2 e2 => k H2 G2 (e.trans e2)
    | exc _ _ _ _ => exact k
    | stuck => exact k
  have h0 : Rest G (lc2L vs vs1 ft ftt fi1 ft1 ftt1 fe items [] (forget vs ρ)) := by
    cases z : lc2L vs vs1 ft ftt fi1 ft1 ftt1 fe items [] (forget vs ρ) with
    | ok out ρ2 => rw [z] at h; exact h
    | exc _ _ _ _ => rw [z] at h; exact h
    | stuck => rw [z] at h; exact h
  have un : ∀ {ρ : Env}, ∀ j ∈ vs, (forget vs ρ).at j = .un := fun {ρ} j hj => by rw [forget_at, if_pos hj]
  refine it_gen wk (fun i H => ∃ ρi Gi accV accD, Ge G Gi ∧ H D = some (.lst accV) ∧ IsDs J.C Gi accV accD ∧ Rel J.C (W.hold D (.lst accV)) (wipe σ vs) ρi H Gi ∧ (∀ j ∈ vs, ρi.at j = .un) ∧ Rest Gi (lc2L vs vs1 ft ftt fi1 ft1 ftt1 fe (items.drop i) accD ρi)) ?_ ?_ ?_ ?_
  · have r1 : Rel J.C W (wipe σ vs) (forget vs ρ) H G := (r.forget (l := vs)).wiped un hp
    have r2 := (r1.new (o := .lst []) hD).hold (d := .lst []) (r1.newV hD ⟨[], upd_same, .nil⟩) upd_same
    exact ⟨forget vs ρ, G, [], [], Ge.refl _, upd_same, .nil, r2, un, h0⟩
  · rintro i H ⟨ρi, Gi, accV, accD, e, hD, ha, ri, _, _⟩
    exact hG (wipe σ vs) ρi H Gi e (ri.release hzD hnD hbD).1
  · rintro i x H H' hi' ⟨ρi, Gi, accV, accD, e, hDi, ha, ri, hu, hr⟩ y
    have hd : items.drop i = items[i] :: items.drop (i + 1) := List.drop_eq_getElem_cons hi'
    rw [hd, lc2L] at hr
    obtain ⟨G2, e2, r2, d2⟩ := hY i items[i] (List.getElem?_eq_getElem hi') _ (wipe σ vs) ρi H Gi x H' ri e y fun a o z => by
      rw [hold_ne (fun q => by subst q; rw [hzD] at z; cases z)]; exact z
    cases z : ft items[i] ρi with
    | none => rw [z] at hr; exact hr.elim
    | some ρ1 =>
      rw [z] at hr
      dsimp only at hr
      refine hg (W.hold D (.lst accV)) (wipe σ vs) ρi H' G2 x _ ρ1 _ pk r2 d2 z fun σ1 w1 r3 => ⟨(w1 vs hts).trans wipe_wipe, ?_⟩
      have hw : wipe σ1 vs = wipe σ vs := (w1 vs hts).trans wipe_wipe
      refine ht (W.hold D (.lst accV)) σ1 ρ1 H' G2 _ pk r3 ?_
      cases zt : ftt ρ1 with
      | stuck => rw [zt] at hr; exact hr.elim
      | exc _ _ _ _ => rw [zt] at hr; exact hr.elim
      | ok b ρ2 =>
        rw [zt] at hr
        intro H3 G3 e3 r4
        cases b with
        | false =>
          rw [if_neg (by decide)]
          dsimp only at hr
          have r5 : Rel J.C (W.hold D (.lst accV)) (wipe σ vs) (forget vs ρ2) H3 G3 := by
            have := (r4.forget (l := vs)).wiped un (fun p q => hp p q)
            rwa [hw] at this
          exact ⟨forget vs ρ2, G3, accV, accD, e.trans (e2.trans e3), r4.zh D _ hold_eq, ha.ge (e2.trans e3), r5, un, later (e2.trans e3) hr⟩
        | true =>
          rw [if_pos rfl]
          dsimp only at hr
          refine hi (W.hold D (.lst accV)) σ1 ρ2 H3 G3 _ pk r4 ?_
          cases zi : fi1 ρ2 with
          | stuck => rw [zi] at hr; exact hr.elim
          | exc _ _ _ _ => rw [zi] at hr; exact hr.elim
          | ok its ρ3 =>
            rw [zi] at hr
            dsimp only at hr
            intro H4 G4 e4 r5 It1 w2
            refine li_core (W := W) (accV := accV) (accD := accD) (ρ := ρ3) ⟨w2 _, w2⟩ hzD hnD hbD r5 (ha.ge (e2.trans (e3.trans e4))) pk (fun j hj => hP j (hv j hj)) hts1 hg1 ht1 he ?_
            cases zl : lcL vs1 ft1 ftt1 fe its accD (forget vs1 ρ3) with
            | stuck => rw [zl] at hr; exact hr.elim
            | exc _ _ _ _ => rw [zl] at hr; exact hr.elim
            | ok out ρ4 =>
              rw [zl] at hr
              dsimp only at hr
              intro H5 G5 outV e5 hD5 ho r6
              have ee := e2.trans (e3.trans (e4.trans e5))
              have r7 : Rel J.C (W.hold D (.lst outV)) (wipe σ vs) (forget vs ρ4) H5 G5 := by
                have := (r6.forget (l := vs)).wiped un (fun p q => hp p q)
                rwa [wipe_sub hv, hw] at this
              exact ⟨forget vs ρ4, G5, outV, out, e.trans ee, hD5, ho, r7, un, later ee hr⟩
  · rintro H ⟨ρi, Gi, accV, accD, e, hDi, ha, ri, hu, hr⟩
    rw [List.drop_length] at hr
    obtain ⟨r1, v1⟩ := ri.release hzD hnD hbD
    obtain ⟨r2, v2⟩ := r.unwiped e c hp r1
    exact hr H Gi (Ge.refl _) r2 _ (v2 _ _ (v1 (.lst accD) ⟨accV, hDi, ha⟩))
end
section
variable {ι : Type} {J : Jd} {Xs : ι → Cx} {tg iter tg1 iter1 elt : Expr} {ifs ifs1 : List Expr} {scope : Scope} {own : List (Str × Nat)} {pos : Pos} {ts vs ts1 vs1 : List Nat} {fi fi1 : Env → R (List D)} {ft ft1 : D → Env → Option Env} {tt tt1 : Env → R Bool} {fe : Env → R XV}
theorem ev_lc2 {wi wi1 : TI} {g g1 : TG} {t t1 : TT} {te : TE} (hi : EvI J wi fi) (hP : ∀ j ∈ vs, j ∉ J.P) (hv : ∀ j ∈ vs1, j ∈ vs) (hts : ∀ j ∈ ts, j ∈ vs) (hts1 : ∀ j ∈ ts1, j ∈ vs1) (hg : EvG J.blk g ts ft) (ht : EvT J.blk t tt) (hi1 : EvJ J.blk wi1 fi1) (hg1 : EvG J.blk g1 ts1 ft1) (ht1 : EvT J.blk t1 tt1) (he : EvE J.blk te fe) :
    EvE J (tLc2 wi g t wi1 g1 t1 te vs vs1) (lc2S vs vs1 fi ft tt fi1 ft1 tt1 fe) := by
  intro W σ ρ H G Q pk r h
  refine hi W σ ρ H G _ pk r ((Got.bind h).imp fun items ρ1 H1 G1 e1 r1 k It w => ?_)
  exact lc2_core w r1 pk hP hv hts hts1 hg ht hi1 hg1 ht1 he k
/-- [elt for tg in iter if .. for tg1 in iter1 if ..] -/
theorem ce_lc2 (vs1 : List Nat) (hi : CI J Xs tg iter fi) (ok : ∀ i, BlkOk (Xs i).N (Xs i).env.scope scope own) (hg : CG J.blk (blkF Xs scope) tg ts ft) (ht : CTs J.blk (blkF Xs scope) ifs tt) (hi1 : CJ J.blk (blkF Xs scope) tg1 iter1 fi1) (hg1 : CG J.blk (blkF Xs scope) tg1 ts1 ft1) (ht1 : CTs J.blk (blkF Xs scope) ifs1 tt1) (he : CE J.blk (blkF Xs scope) elt fe)
    (hvs : own.map (·.2) = vs) (hv : ∀ j ∈ vs1, j ∈ vs) (hts : ∀ j ∈ ts, j ∈ vs) (hts1 : ∀ j ∈ ts1, j ∈ vs1) (hP : ∀ j ∈ vs, j ∉ J.P) (hs : ∀ i x, foldedSetIterable iter (Xs i).env x = pure x := by intro _ _; rfl) (hs1 : ∀ env x, foldedSetIterable iter1 env x = pure x := by intro _ _; rfl) :
    CE J Xs (.ListComp elt [⟨tg, iter, ifs, 0⟩, ⟨tg1, iter1, ifs1, 0⟩] scope pos) (lc2S vs vs1 fi ft tt fi1 ft1 tt1 fe) := by
  obtain ⟨wi, i1, i2⟩ := hi
  obtain ⟨g, g1', g2⟩ := hg
  obtain ⟨t, t1', t2⟩ := ht
  obtain ⟨wi1, j1, j2⟩ := hi1
  obtain ⟨gg, k1, k2⟩ := hg1
  obtain ⟨tq, l1, l2⟩ := ht1
  obtain ⟨te, e1, e2⟩ := he
  subst hvs
  exact ⟨_, fun i G => pe_lc2 G.calm G.nd (i1 i G) (ok i) hv (fun s H C cl fp => g1' (i, s, H, C, cl, fp) G.blk) (fun s H C cl fp => t1' (i, s, H, C, cl, fp) G.blk) (fun s H C cl fp => j1 (i, s, H, C, cl, fp) G.blk) (fun s H C cl fp => k1 (i, s, H, C, cl, fp) G.blk) (fun s H C cl fp => l1 (i, s, H, C, cl, fp) G.blk) (fun s H C cl fp => e1 (i, s, H, C, cl, fp) G.blk) (hs i) hs1, ev_lc2 i2 hP hv hts hts1 g2 t2 j2 k2 l2 e2⟩
/-- y = [..] on one line, y a local -/
theorem cs_setLc2 (vs1 : List Nat) {j : Nat} {y : Str} {py spos : Pos} (hi : CI J Xs tg iter fi) (ok : ∀ i, BlkOk (Xs i).N (Xs i).env.scope scope own) (hg : CG J.blk (blkF Xs scope) tg ts ft) (ht : CTs J.blk (blkF Xs scope) ifs tt) (hi1 : CJ J.blk (blkF Xs scope) tg1 iter1 fi1) (hg1 : CG J.blk (blkF Xs scope) tg1 ts1 ft1) (ht1 : CTs J.blk (blkF Xs scope) ifs1 tt1) (he : CE J.blk (blkF Xs scope) elt fe)
    (hvs : own.map (·.2) = vs) (hv : ∀ j ∈ vs1, j ∈ vs) (hts : ∀ j ∈ ts, j ∈ vs) (hts1 : ∀ j ∈ ts1, j ∈ vs1) (hP : ∀ j ∈ vs, j ∉ J.P) (hp : j ∉ J.P) (hy : ∀ i, (Xs i).N[j]? = some y := by intro _; rfl) (hyl : ∀ i, (Xs i).env.scope.names.lookup y = some .local := by intro _; rfl)
    (hsw : ∀ i, swapsWith (.ListComp elt [⟨tg, iter, ifs, 0⟩, ⟨tg1, iter1, ifs1, 0⟩] scope pos) (some (.Name y py)) spos.line (Xs i).env = pure true) (hs : ∀ i x, foldedSetIterable iter (Xs i).env x = pure x := by intro _ _; rfl) (hs1 : ∀ env x, foldedSetIterable iter1 env x = pure x := by intro _ _; rfl) :
    CS J Xs (.Assign [.Name y py] (.ListComp elt [⟨tg, iter, ifs, 0⟩, ⟨tg1, iter1, ifs1, 0⟩] scope pos) spos) (asgS j (lc2S vs vs1 fi ft tt fi1 ft1 tt1 fe)) := by
  obtain ⟨wi, i1, i2⟩ := hi
  obtain ⟨g, g1', g2⟩ := hg
  obtain ⟨t, t1', t2⟩ := ht
  obtain ⟨wi1, j1, j2⟩ := hi1
  obtain ⟨gg, k1, k2⟩ := hg1
  obtain ⟨tq, l1, l2⟩ := ht1
  obtain ⟨te, e1, e2⟩ := he
  subst hvs
  exact ⟨_, fun i G => ps_setLc2 G.calm G.nd (hy i) (hyl i) (hsw i) (i1 i G) (ok i) hv (fun s H C cl fp => g1' (i, s, H, C, cl, fp) G.blk) (fun s H C cl fp => t1' (i, s, H, C, cl, fp) G.blk) (fun s H C cl fp => j1 (i, s, H, C, cl, fp) G.blk) (fun s H C cl fp => k1 (i, s, H, C, cl, fp) G.blk) (fun s H C cl fp => l1 (i, s, H, C, cl, fp) G.blk) (fun s H C cl fp => e1 (i, s, H, C, cl, fp) G.blk) (hs i) hs1, ev_asg (ev_lc2 i2 hP hv hts hts1 g2 t2 j2 k2 l2 e2) hp⟩
/-! ### the first source a slot's own list -/
theorem ev_lc2B {i : Nat} {wi1 : TI} {g g1 : TG} {t t1 : TT} {te : TE} (hP : ∀ j ∈ vs, j ∉ (J.pin i).P) (hv : ∀ j ∈ vs1, j ∈ vs) (hts : ∀ j ∈ ts, j ∈ vs) (hts1 : ∀ j ∈ ts1, j ∈ vs1) (hg : EvG (J.pin i).blk g ts ft) (ht : EvT (J.pin i).blk t tt) (hi1 : EvJ (J.pin i).blk wi1 fi1) (hg1 : EvG (J.pin i).blk g1 ts1 ft1) (ht1 : EvT (J.pin i).blk t1 tt1) (he : EvE (J.pin i).blk te fe) :
    EvE J (tLc2 (iSlot J.C.K i) g t wi1 g1 t1 te vs vs1) (overS i (lc2R vs vs1 ft tt fi1 ft1 tt1 fe)) := by
  intro W σ ρ H G Q pk r h
  unfold overS at h
  have q := r.at_ i
  cases s : ρ.at i with
  | un => rw [s] at h; exact h.elim
  | dat d =>
    rw [s] at q h
    obtain ⟨v, q1, q2⟩ := q
    cases d <;> first | (exact h.elim) | skip
    · cases q2 with
      | tup h1 h2 => exact .inr ⟨_, q1, _, rfl, ⟨_, r.gh.sqT h1⟩, lc2_core (J := J.pin i) (walk_tupD h1 h2) r (pk.pin i) hP hv hts hts1 hg ht hi1 hg1 ht1 he h⟩
    · cases q2 with
      | lst h1 h2 => exact .inl ⟨_, q1, _, rfl, ⟨_, SqL.of (r.gh _ _ h1)⟩, lc2_core (J := J.pin i) (walk_lstD (SqL.of h1) h2) r (pk.pin i) hP hv hts hts1 hg ht hi1 hg1 ht1 he h⟩
    · cases q2 with
      | rol h1 h2 => exact .inl ⟨_, q1, _, rfl, ⟨_, r.gh.sqL h1⟩, lc2_core (J := J.pin i) (walk_lstD h1 h2) r (pk.pin i) hP hv hts hts1 hg ht hi1 hg1 ht1 he h⟩
  | exv _ _ _ => rw [s] at h; exact h.elim
  | clo _ _ => rw [s] at h; exact h.elim
  | brw d =>
    rw [s] at q h
    obtain ⟨a, q1, q2, q3⟩ := q
    cases d <;> first | (exact h.elim) | skip
    obtain ⟨xs, q4, q5⟩ := q2
    exact .inl ⟨_, q1, a, rfl, ⟨xs, SqL.of (r.zh _ _ q4)⟩, lc2_core (J := J.pin i) (WalkOk.of walk_list q5 fun σ ρ H G' g r => SqL.of (r.zh _ _ q4)) r (pk.pin i) hP hv hts hts1 hg ht hi1 hg1 ht1 he h⟩
  | own d =>
    rw [s] at h
    obtain ⟨a, q1, q2, q3, q4, q5⟩ := r.own s
    cases d <;> first | (exact h.elim) | skip
    rename_i l
    obtain ⟨xs, q6, q7⟩ := q2
    exact .inl ⟨_, q1, a, rfl, ⟨xs, SqL.of q6⟩, lc2_core (J := J.pin i) (W := W.lend i a (.lst xs)) (WalkOk.of walk_list q7 fun σ ρ H G' g r => SqL.of (r.zh _ _ upd_same)) (r.lend s q1 q6) (lend_pk pk) hP hv hts hts1 hg ht hi1 hg1 ht1 he (Got.lend r s q1 q6 h)⟩
variable (i : Nat) {x : Str} {p : Pos} (hN : ∀ j, (Xs j).N[i]? = some x := by intro _; rfl) (hv' : ∀ j, Vis (Xs j).env.scope x := by first | exact fun _ => Or.inl rfl | exact fun _ => Or.inr (Or.inl rfl) | exact fun _ => Or.inr (Or.inr rfl))
  (hd : (x == ("__debug__" : Str)) = false := by decide) (hcd : (x == ("__classdict__" : Str)) = false := by decide)
include hN hv' hd hcd
theorem ce_lc2B (vs1 : List Nat) (ok : ∀ j, BlkOk (Xs j).N (Xs j).env.scope scope own) (hg : CG (J.pin i).blk (blkF Xs scope) tg ts ft) (ht : CTs (J.pin i).blk (blkF Xs scope) ifs tt) (hi1 : CJ (J.pin i).blk (blkF Xs scope) tg1 iter1 fi1) (hg1 : CG (J.pin i).blk (blkF Xs scope) tg1 ts1 ft1) (ht1 : CTs (J.pin i).blk (blkF Xs scope) ifs1 tt1) (he : CE (J.pin i).blk (blkF Xs scope) elt fe)
    (hvs : own.map (·.2) = vs) (hv : ∀ j ∈ vs1, j ∈ vs) (hts : ∀ j ∈ ts, j ∈ vs) (hts1 : ∀ j ∈ ts1, j ∈ vs1) (hP : ∀ j ∈ vs, j ∉ (J.pin i).P) (hs : ∀ j y, foldedSetIterable (.Name x p) (Xs j).env y = pure y := by intro _ _; rfl) (hs1 : ∀ env x, foldedSetIterable iter1 env x = pure x := by intro _ _; rfl) :
    CE J Xs (.ListComp elt [⟨tg, (.Name x p), ifs, 0⟩, ⟨tg1, iter1, ifs1, 0⟩] scope pos) (overS i (lc2R vs vs1 ft tt fi1 ft1 tt1 fe)) := by
  obtain ⟨g, g1', g2⟩ := hg
  obtain ⟨t, t1', t2⟩ := ht
  obtain ⟨wi1, j1, j2⟩ := hi1
  obtain ⟨gg, k1, k2⟩ := hg1
  obtain ⟨tq, l1, l2⟩ := ht1
  obtain ⟨te, e1, e2⟩ := he
  subst hvs
  exact ⟨_, fun j G => pe_lc2 G.calm G.nd (pi_slot i G (hN j) (hv' j) hd hcd) (ok j) hv (fun s H C cl fp => g1' (j, s, H, C, cl, fp) (G.pin i).blk) (fun s H C cl fp => t1' (j, s, H, C, cl, fp) (G.pin i).blk) (fun s H C cl fp => j1 (j, s, H, C, cl, fp) (G.pin i).blk) (fun s H C cl fp => k1 (j, s, H, C, cl, fp) (G.pin i).blk) (fun s H C cl fp => l1 (j, s, H, C, cl, fp) (G.pin i).blk) (fun s H C cl fp => e1 (j, s, H, C, cl, fp) (G.pin i).blk) (hs j) hs1, ev_lc2B hP hv hts hts1 g2 t2 j2 k2 l2 e2⟩
theorem cs_setLc2B (vs1 : List Nat) {n : Nat} {y : Str} {py spos : Pos} (ok : ∀ j, BlkOk (Xs j).N (Xs j).env.scope scope own) (hg : CG (J.pin i).blk (blkF Xs scope) tg ts ft) (ht : CTs (J.pin i).blk (blkF Xs scope) ifs tt) (hi1 : CJ (J.pin i).blk (blkF Xs scope) tg1 iter1 fi1) (hg1 : CG (J.pin i).blk (blkF Xs scope) tg1 ts1 ft1) (ht1 : CTs (J.pin i).blk (blkF Xs scope) ifs1 tt1) (he : CE (J.pin i).blk (blkF Xs scope) elt fe)
    (hvs : own.map (·.2) = vs) (hv : ∀ j ∈ vs1, j ∈ vs) (hts : ∀ j ∈ ts, j ∈ vs) (hts1 : ∀ j ∈ ts1, j ∈ vs1) (hP : ∀ j ∈ vs, j ∉ (J.pin i).P) (hp : n ∉ J.P) (hy : ∀ j, (Xs j).N[n]? = some y := by intro _; rfl) (hyl : ∀ j, (Xs j).env.scope.names.lookup y = some .local := by intro _; rfl)
    (hsw : ∀ j, swapsWith (.ListComp elt [⟨tg, (.Name x p), ifs, 0⟩, ⟨tg1, iter1, ifs1, 0⟩] scope pos) (some (.Name y py)) spos.line (Xs j).env = pure true) (hs : ∀ j y, foldedSetIterable (.Name x p) (Xs j).env y = pure y := by intro _ _; rfl) (hs1 : ∀ env x, foldedSetIterable iter1 env x = pure x := by intro _ _; rfl) :
    CS J Xs (.Assign [.Name y py] (.ListComp elt [⟨tg, (.Name x p), ifs, 0⟩, ⟨tg1, iter1, ifs1, 0⟩] scope pos) spos) (asgS n (overS i (lc2R vs vs1 ft tt fi1 ft1 tt1 fe))) := by
  obtain ⟨g, g1', g2⟩ := hg
  obtain ⟨t, t1', t2⟩ := ht
  obtain ⟨wi1, j1, j2⟩ := hi1
  obtain ⟨gg, k1, k2⟩ := hg1
  obtain ⟨tq, l1, l2⟩ := ht1
  obtain ⟨te, e1, e2⟩ := he
  subst hvs
  exact ⟨_, fun j G => ps_setLc2 G.calm G.nd (hy j) (hyl j) (hsw j) (pi_slot i G (hN j) (hv' j) hd hcd) (ok j) hv (fun s H C cl fp => g1' (j, s, H, C, cl, fp) (G.pin i).blk) (fun s H C cl fp => t1' (j, s, H, C, cl, fp) (G.pin i).blk) (fun s H C cl fp => j1 (j, s, H, C, cl, fp) (G.pin i).blk) (fun s H C cl fp => k1 (j, s, H, C, cl, fp) (G.pin i).blk) (fun s H C cl fp => l1 (j, s, H, C, cl, fp) (G.pin i).blk) (fun s H C cl fp => e1 (j, s, H, C, cl, fp) (G.pin i).blk) (hs j) hs1, ev_asg (ev_lc2B hP hv hts hts1 g2 t2 j2 k2 l2 e2) hp⟩
end
end DL
namespace DL
open PySem L2

/-! ## list(range(..)), tuple(range(..)) -/
def EvR (J : Jd) (te : St → Hp → (Int → Int → Hp → Prop) → Prop) (f : Env → R (Int × Int)) : Prop := ∀ W σ ρ H G (Q : Int → Int → Hp → Prop), PinOk W J.P J.ex → Rel J.C W σ ρ H G →
  Got J W σ G (f ρ) (fun ab _ H' _ => Q ab.1 ab.2 H') → te σ H Q
def CRg {ι : Type} (J : Jd) (Xs : ι → Cx) (e : Expr) (f : Env → R (Int × Int)) : Prop := ∃ te, (∀ i, Good J (Xs i) → PRg (Xs i) e te) ∧ EvR J te f
def intD (d : D) (ρ : Env) : R Int := match d with
  | .int n => .ok n ρ
  | _ => .stuck
def rgO1 (f : Env → R XV) : Env → R (Int × Int) := fun ρ => (valS f ρ).bind fun d ρ1 => (intD d ρ1).bind fun n ρ2 => .ok (0, n) ρ2
def rgO2 (f g : Env → R XV) : Env → R (Int × Int) := fun ρ => (valS f ρ).bind fun d ρ1 => (intD d ρ1).bind fun i ρ2 => (valS g ρ2).bind fun e ρ3 => (intD e ρ3).bind fun j ρ4 => .ok (i, j) ρ4
def rgFit (ab : Int × Int) : Bool := decide (ab.1.natAbs < 4611686018427387904 ∧ ab.2.natAbs < 4611686018427387904 ∧ (ab.2 - ab.1).toNat ≤ 16777216)
def lrgS (f : Env → R (Int × Int)) : Env → R XV := fun ρ => (f ρ).bind fun ab ρ1 => if rgFit ab = true then .ok (.own (.lst (rangeD ab.1 (ab.2 - ab.1).toNat))) ρ1 else .stuck
def trgS (f : Env → R (Int × Int)) : Env → R XV := fun ρ => (f ρ).bind fun ab ρ1 => if rgFit ab = true then .ok (.dat (.tup (rangeD ab.1 (ab.2 - ab.1).toNat))) ρ1 else .stuck
theorem rangeD_map : ∀ (a : Int) (n : Nat), rangeD a n = (List.range n).map fun i => D.int (a + (i : Nat)) := by
  intro a n
  apply List.ext_getElem?
  intro i
  by_cases h : i < n
  · rw [rangeD_get a n i h, List.getElem?_map, List.getElem?_range h]; rfl
  · rw [List.getElem?_eq_none (by rw [rangeD_len]; omega), List.getElem?_eq_none (by simp; omega)]
theorem ints_isD {C : Cst} {G : Hp} : ∀ l : List Int, IsDs C G (l.map V.int) (l.map D.int)
  | [] => .nil
  | _ :: r => .cons (.int _) (ints_isD r)
theorem rgV_isD {C : Cst} {G : Hp} {a b : Int} : IsDs C G (rgV a b) (rangeD a (b - a).toNat) := by
  rw [rangeD_map]
  unfold rgV
  have := ints_isD (C := C) (G := G) ((List.range (b - a).toNat).map fun i => a + ((i : Nat) : Int))
  rwa [List.map_map, List.map_map] at this
theorem rgFit_ok {ab : Int × Int} (h : rgFit ab = true) : RgOk ab.1 ab.2 := by
  have := of_decide_eq_true h
  obtain ⟨h1, h2, h3⟩ := this
  exact ⟨by omega, by omega, by omega, by omega, by omega⟩
section
variable {J : Jd} {te : St → Hp → (Int → Int → Hp → Prop) → Prop} {f : Env → R (Int × Int)}
theorem ev_lrg (h : EvR J te f) : EvE J (tLstRg te) (lrgS f) := by
  intro W σ ρ H G Q pk r k
  refine h W σ ρ H G _ pk r ((Got.bind k).imp fun ab ρ1 H1 G1 e1 r1 k => ?_)
  by_cases z : rgFit ab = true
  case neg => rw [if_neg z] at k; exact k.elim
  rw [if_pos z] at k
  exact ⟨rgFit_ok z, fun q hq => k _ G1 (Ge.refl _) (r1.new hq) _ (r1.newV hq ⟨_, upd_same, rgV_isD⟩)⟩
theorem ev_trg (h : EvR J te f) : EvE J (tTupRg te) (trgS f) := by
  intro W σ ρ H G Q pk r k
  refine h W σ ρ H G _ pk r ((Got.bind k).imp fun ab ρ1 H1 G1 e1 r1 k => ?_)
  by_cases z : rgFit ab = true
  case neg => rw [if_neg z] at k; exact k.elim
  rw [if_pos z] at k
  refine ⟨rgFit_ok z, fun q hq => ?_⟩
  exact k _ _ (Ge.upd (r1.gNone hq)) (r1.frz hq) _ (.tup (SqT.of upd_same) rgV_isD)
end
section
variable {ι : Type} {J : Jd} {Xs : ι → Cx} {a b e : Expr} {f g : Env → R XV} {fr : Env → R (Int × Int)} {p pos : Pos}
theorem crg_1 (hm : ∀ i, (Xs i).mg "range" = none) (ha : CE J Xs a f) (hg : ∀ i, Gl (Xs i) "range" := by intro _; rfl) (na : ∀ i, starEach [a] (Xs i).env = (false, eval a (Xs i).env) :: starEach [] (Xs i).env := by intro _; rfl) : CRg J Xs (.Call (.Name "range" p) [a] [] pos) (rgO1 f) := by
  obtain ⟨ta, a1, a2⟩ := ha
  refine ⟨_, fun i G => prg_1 (hg i) (hm i) (a1 i G) (na i), fun W σ ρ H G Q pk r k => ?_⟩
  refine a2.val W σ ρ H G _ pk r ((Got.bind k).imp fun d ρ1 H1 G1 e1 r1 k v vk => ?_)
  cases d <;> first | (exact k.elim) | skip
  cases vk
  exact ⟨_, rfl, k H1 G1 (Ge.refl _) r1⟩
theorem crg_2 (hm : ∀ i, (Xs i).mg "range" = none) (ha : CE J Xs a f) (hb : CE J Xs b g) (hg : ∀ i, Gl (Xs i) "range" := by intro _; rfl) (na : ∀ i, starEach [a, b] (Xs i).env = (false, eval a (Xs i).env) :: starEach [b] (Xs i).env := by intro _; rfl)
    (nb : ∀ i, starEach [b] (Xs i).env = (false, eval b (Xs i).env) :: starEach [] (Xs i).env := by intro _; rfl) (hp : ∀ i, (backTo pos (starEach [b] (Xs i).env)).any (·.1) = false := by intro _; rfl) : CRg J Xs (.Call (.Name "range" p) [a, b] [] pos) (rgO2 f g) := by
  obtain ⟨ta, a1, a2⟩ := ha
  obtain ⟨tb, b1, b2⟩ := hb
  refine ⟨_, fun i G => prg_2 (hg i) (hm i) (a1 i G) (b1 i G) (na i) (nb i) (hp i), fun W σ ρ H G Q pk r k => ?_⟩
  refine a2.val W σ ρ H G _ pk r ((Got.bind k).imp fun d ρ1 H1 G1 e1 r1 k v vk => ?_)
  cases d <;> first | (exact k.elim) | skip
  cases vk
  replace k : Got J W σ G1 ((valS g ρ1).bind _) _ := k
  refine b2.val W σ ρ1 H1 G1 _ pk r1 ((Got.bind k).imp fun d ρ2 H2 G2 e2 r2 k u uk => ?_)
  cases d <;> first | (exact k.elim) | skip
  cases uk
  exact ⟨_, _, rfl, rfl, k H2 G2 (Ge.refl _) r2⟩
theorem ce_listRg (hm : ∀ i, (Xs i).mg "list" = none) (h : CRg J Xs e fr) (hg : ∀ i, Gl (Xs i) "list" := by intro _; rfl) (na : ∀ i, starEach [e] (Xs i).env = (false, eval e (Xs i).env) :: starEach [] (Xs i).env := by intro _; rfl) : CE J Xs (.Call (.Name "list" p) [e] [] pos) (lrgS fr) := by
  obtain ⟨te, h1, h2⟩ := h
  exact ⟨_, fun i G => pe_listRg G.calm (hg i) (hm i) (h1 i G) (na i), ev_lrg h2⟩
theorem ce_tupRg (hm : ∀ i, (Xs i).mg "tuple" = none) (h : CRg J Xs e fr) (hg : ∀ i, Gl (Xs i) "tuple" := by intro _; rfl) (na : ∀ i, starEach [e] (Xs i).env = (false, eval e (Xs i).env) :: starEach [] (Xs i).env := by intro _; rfl) : CE J Xs (.Call (.Name "tuple" p) [e] [] pos) (trgS fr) := by
  obtain ⟨te, h1, h2⟩ := h
  exact ⟨_, fun i G => pe_tupRg G.calm (hg i) (hm i) (h1 i G) (na i), ev_trg h2⟩
end
end DL
namespace DL
open PySem L2

/-- the table of a def's code, from what is written out -/
theorem tab_mk {K : PySem.W.Frag} {x : Str} {f c P : Addr} {o1 o2 : Value} {d1 d2 : Option Addr} {fd : FuncData} {s1 s2 : Array (Option Value)} {vs : Array Value} (h1 : PySem.W.nsIn K mainGlobals x = some (some (.ref f))) (h2 : K.lookup f = some ⟨o1, d1, .func fd, s1⟩) (h3 : fd.code = .ref c)
    (h4 : K.lookup c = some ⟨o2, d2, .fields vs, s2⟩) (h5 : (vs[11]? : Option Value) = some (.ref P)) : PySem.W.tabIn K x = some (c, P) := by
  unfold PySem.W.tabIn
  rw [h1]
  dsimp only
  rw [h2]
  dsimp only
  rw [h3]
  dsimp only
  rw [h4]
  dsimp only
  rw [h5]
end DL
namespace DL
open PySem L2

/-! ## a, b = x, y, one of the names captured: by way of a tuple -/
section
variable {ι : Type} {J : Jd} {Xs : ι → Cx} {a b : Expr} {pos : Pos} {fe ge : Env → R XV}
theorem ev_parT {K : PySem.W.Frag} {ta tb : TE} {i j : Nat} (h : EvE J ta fe) (h' : EvE J tb ge) (hi : i ∉ J.P) (hj : j ∉ J.P) : EvS J (tAsg (tTup (tCons ta (tCons tb tNil))) (gTup K 2 (gCons (gName i) (gCons (gName j) gNil)))) (par2S i j fe ge) := by
  intro W σ ρ H G E pk r k
  have k := GotS.bind (σ := σ) k
  refine h W σ ρ H G _ pk r ((Got.bind k).imp fun x ρ1 H1 G1 e1 r1 k v vk => ?_)
  obtain ⟨x', ρ2, G2, g1, r2, v2, nx, k⟩ := take_ok r1 vk (Got.bind k)
  have fin : ∀ (y : XV) (ρ3 : Env) (H3 G3 : Hp) (w : V), Rel J.C W σ ρ3 H3 G3 → VOk J.C W σ ρ3 H3 G3 v x' → VOk J.C W σ ρ3 H3 G3 w y → (∀ i, y ≠ .slot i) → (∀ d e, x' = .own d → y = .own e → v ≠ w) →
      GotS J W G3 (.ok .nx ((ρ3.set i (svOf x')).set j (svOf y))) E → [v, w].length ≤ sizeLine ∧ ∀ p, H3 p = none → gTup K 2 (gCons (gName i) (gCons (gName j) gNil)) (.ref p) σ (upd H3 p (.tup [v, w])) E.nx := by
    intro y ρ3 H3 G3 w r3 v3 w3 ny nn k
    refine ⟨(by rw [sizeLine_eq]; simp), fun p hp => ⟨p, [v, w], rfl, SqT.of upd_same, rfl, v, [w], rfl, w, [], rfl, rfl, k _ _ G3 (Ge.refl _) (Rel.new ?_ hp)⟩⟩
    have ra := r3.setX (i := i) v3 nx fun p hp e => hi (e ▸ pk.1 p hp)
    refine ra.setX (i := j) ?_ ny fun p hp e => hj (e ▸ pk.1 p hp)
    cases y with
    | dat d => exact w3
    | slot n => exact absurd rfl (ny n)
    | own d =>
      obtain ⟨b, e, q1, q2, q3, q4, q5⟩ := w3
      refine ⟨b, e, q1, q2, q3, q4, fun n hn en => ?_⟩
      by_cases z : n = i
      · subst z
        by_cases hl : n < ρ3.length
        · rw [Env.at_set hl, if_pos rfl] at hn
          cases x' with
          | dat d' => cases hn
          | slot m => cases hn
          | own d' =>
            refine nn d' d rfl rfl ?_
            have hl' : n < σ.length := by rw [r3.ln]; exact hl
            simp [hl'] at en
            exact en
        · rw [List.set_eq_of_length_le (by omega)] at hn
          rw [Env.at_out (by omega)] at hn
          cases hn
      · rw [Env.at_set_ne z] at hn
        rw [List.getElem?_set_ne (Ne.symm z)] at en
        exact q5 n hn en
  cases x' with
  | slot n => exact absurd rfl (nx n)
  | dat d =>
    refine h' W σ ρ2 H1 G2 _ pk r2 ((Got.bind k).imp fun y ρ3 H3 G3 e3 r3 k w wk => ?_)
    obtain ⟨y', ρ4, G4, g4, r4, w4, ny, k⟩ := take_ok r3 wk (Got.bind k)
    exact fin y' ρ4 H3 G4 w r4 (IsD.ge v2 (e3.trans g4)) w4 ny (fun d e z => by cases z) (k H3 G4 (Ge.refl _) r4)
  | own d =>
    obtain ⟨a, rfl, ow, _⟩ := id v2
    obtain ⟨o, ho⟩ := ow.there
    have rh := r2.hold v2 ho
    have pk' : PinOk (W.hold a o) J.P J.ex := pk
    -- the second part runs while the first object is held
    have k2 : Got J (W.hold a o) σ G2 ((ge ρ2).bind fun y ρ => (takeX y ρ).bind fun y ρ => .ok (XV.own d, y) ρ) (fun p ρ _ G' => GotS J W G' (.ok .nx ((ρ.set i (svOf p.1)).set j (svOf p.2))) E) := by
      cases z : (ge ρ2).bind fun y ρ => (takeX y ρ).bind fun y ρ => .ok (XV.own d, y) ρ with
      | stuck => rw [z] at k; exact k
      | ok p ρ' => rw [z] at k; exact fun H' G' e r => k H' G' e (r2.unhold v2 ho e r).1
      | exc c ns vs ρ' => rw [z] at k; exact fun dd H' G' e r x => k dd H' G' e (r2.unhold v2 ho e r).1 x
    refine h' (W.hold a o) σ ρ2 H1 G2 _ pk' rh ((Got.bind k2).imp fun y ρ3 H3 G3 e3 r3 k w wk => ?_)
    obtain ⟨y', ρ4, G4, g4, r4, w4, ny, k⟩ := take_ok r3 wk (Got.bind k)
    obtain ⟨rw, vw⟩ := r2.unhold v2 ho (e3.trans g4) r4
    refine fin y' ρ4 H3 G4 w rw vw ?_ ny (fun d1 e1 _ z => ?_) (k H3 G4 (Ge.refl _) r4)
    · cases y' with
      | dat d => exact w4
      | slot n => exact absurd rfl (ny n)
      | own d' =>
        obtain ⟨b, e, q1, q2, q3, q4, q5⟩ := w4
        have z : b ≠ a := fun z => q4 (.inl z)
        exact ⟨b, e, q1, q2, by rw [← show (W.hold a o).Z b = W.Z b from upd_ne z]; exact q3, fun y => q4 (.inr y), q5⟩
    · subst z
      intro e
      obtain ⟨b, e', _, _, _, q4, _⟩ := w4
      rw [← e] at e'; cases e'
      exact q4 (.inl rfl)
theorem cs_parT {i j : Nat} {x y : Str} {px py pt : Pos} {kt k2 pt2} (h : CE J Xs a fe) (h' : CE J Xs b ge) (hpi : i ∉ J.P) (hpj : j ∉ J.P) (hi : ∀ n, (Xs n).N[i]? = some x := by intro _; rfl) (hj : ∀ n, (Xs n).N[j]? = some y := by intro _; rfl)
    (hx : ∀ n, Loc (Xs n).env.scope x := by first | exact fun _ => Or.inl rfl | exact fun _ => Or.inr rfl) (hy : ∀ n, Loc (Xs n).env.scope y := by first | exact fun _ => Or.inl rfl | exact fun _ => Or.inr rfl)
    (hfx : ∀ n, (Xs n).fn x = true ∨ (Xs n).env.scope.names.lookup x = some .local := by first | exact fun _ => Or.inl rfl | exact fun _ => Or.inr rfl) (hfy : ∀ n, (Xs n).fn y = true ∨ (Xs n).env.scope.names.lookup y = some .local := by first | exact fun _ => Or.inl rfl | exact fun _ => Or.inr rfl)
    (he : ∀ n, starEach [a, b] (Xs n).env = (false, eval a (Xs n).env) :: starEach [b] (Xs n).env := by intro _; rfl) (he2 : ∀ n, starEach [b] (Xs n).env = (false, eval b (Xs n).env) :: starEach [] (Xs n).env := by intro _; rfl)
    (hs : ∀ n, swapsWithSole [.Tuple [.Name x px, .Name y py] kt pt] (.Tuple [a, b] k2 pt2) pos.line (Xs n).env = pure false := by intro _; rfl) (hw : ∀ n, swappedStores [.Tuple [.Name x px, .Name y py] kt pt] (.Tuple [a, b] k2 pt2) (Xs n).env = pure none := by intro _; rfl)
    (h1 : ∀ n, (assignEach [.Tuple [.Name x px, .Name y py] kt pt] (Xs n).env).map (·.2) = [assign (.Tuple [.Name x px, .Name y py] kt pt) (Xs n).env] := by intro _; rfl)
    (hc1 : ∀ n, (assignEach [.Name x px, .Name y py] (Xs n).env).map (·.2) = assign (.Name x px) (Xs n).env :: (assignEach [.Name y py] (Xs n).env).map (·.2) := by intro _; rfl) (hc2 : ∀ n, (assignEach [.Name y py] (Xs n).env).map (·.2) = assign (.Name y py) (Xs n).env :: (assignEach [] (Xs n).env).map (·.2) := by intro _; rfl)
    (hn : ∀ n, (assignEach [.Name x px, .Name y py] (Xs n).env).length = 2 := by intro _; rfl) (hst : ∀ n, (assignEach [.Name x px, .Name y py] (Xs n).env).findIdx? (·.1) = none := by intro _; rfl) :
    CS J Xs (.Assign [.Tuple [.Name x px, .Name y py] kt pt] (.Tuple [a, b] k2 pt2) pos) (par2S i j fe ge) := by
  obtain ⟨t, h1', h2⟩ := h
  obtain ⟨u, k1, k2'⟩ := h'
  refine ⟨_, fun n G => ?_, ev_parT (K := J.C.K) h2 k2' hpi hpj⟩
  have := ps_asg (pos := pos) (pe_tup (x1 := k2) (pos := pt2) (pa_cons (h1' n G) (pa_cons (k1 n G) pa_nil (he2 n)) (he n))) (pg_tup (k := kt) (pos := pt) (n := 2) G.calm (pgs_cons (pg_name (pos := px) G.nd (hi n) (hx n) (hfx n)) (pgs_cons (pg_name (pos := py) G.nd (hj n) (hy n) (hfy n)) pgs_nil (hc2 n)) (hc1 n)) (hn n) (hst n)) (hs n) (hw n) (h1 n)
  rw [G.hK] at this
  exact this
end
end DL
namespace DL
open PySem L2 PyProof.Rows

/-! ## sum of a list or a tuple -/
def rSumQ (K : PySem.W.Frag) : List V → Hp → VK → Prop := fun vs H Q => ∃ (a : Addr) (ns : List Int), vs = [V.ref a] ∧ (SqL K H a (ns.map V.int) ∨ SqT K H a (ns.map V.int)) ∧ Q (.int ns.sum) H
theorem cr_sumQ {X : Cx} (hc : X.calm = true) : CallR X (.builtin "sum") (rSumQ X.K) := by
  intro pins s σ H vs us Q I r h
  obtain ⟨a, ns, rfl, hs | hs, q⟩ := h
  · exact cr_sum hc pins s σ H _ us Q I r ⟨a, ns, rfl, hs, q⟩
  · obtain ⟨its, rv, hl, _⟩ := I.tuple hs
    rw [Vals.ref1 r]
    have hi := rv.ints
    obtain ⟨xs, e⟩ := hi.allInts.items
    have hn : numsOf (intItems xs).toList = ns := by rw [← e]; exact hi.numsOf
    rw [nums_intItems] at hn
    rw [e] at hl
    refine PySem.W.ktm_sumG (I.ok.hd hc) hl fun h' tk t' hk => ?_
    have q' : EP X pins σ Q (.int (preSum (numAt xs) xs.size) t') { s with heap := h', toks := tk } := by
      rw [preSum_eq, List.take_of_length_le (by simp), hn]
      exact ⟨.int _, H, I.kept hk, ⟨_, rfl⟩, q⟩
    exact q'
def sumQ : List D → Option XV
  | [d] => (seqD d).bind fun l => (intsD l).map fun ns => xint ns.sum
  | _ => none
theorem sumQ_ok {C : Cst} : OpNOk C (rSumQ C.K) sumQ := by
  intro W σ ρ H G vs ds x Q rl t eq k
  unfold sumQ at eq
  split at eq
  · rename_i d
    cases z : seqD d with
    | none => rw [z] at eq; cases eq
    | some l =>
      rw [z] at eq
      dsimp only [Option.bind] at eq
      cases z' : intsD l with
      | none => rw [z'] at eq; cases eq
      | some ns =>
        rw [z'] at eq; cases eq
        obtain ⟨v, rfl, t0⟩ := t.one
        cases d <;> cases z
        · obtain ⟨a, xs, rfl, h1, h2⟩ := t0.tup rl.gh
          have := ints_of h2 z'
          subst this
          exact ⟨a, ns, rfl, .inr h1, rl.back (.int _) k⟩
        · obtain ⟨a, xs, rfl, h1, h2⟩ := t0.lst rl.gh
          have := ints_of h2 z'
          subst this
          exact ⟨a, ns, rfl, .inl (SqL.of h1), rl.back (.int _) k⟩
        · obtain ⟨a, xs, rfl, h1, h2⟩ := t0.rol rl.gh
          have := ints_of h2 z'
          subst this
          exact ⟨a, ns, rfl, .inl h1, rl.back (.int _) k⟩
  · cases eq
theorem ce_sumQ {ι : Type} {J : Jd} {Xs : ι → Cx} {e : Expr} {fs : Env → R (List XV)} {pos : Pos} {p : Pos} (hm : ∀ i, (Xs i).mg "sum" = none) (ha : CA_ J Xs [e] fs) (hg : ∀ i, Gl (Xs i) "sum" := by intro _; rfl) (he : ∀ i, starEach [e] (Xs i).env = (false, eval e (Xs i).env) :: starEach [] (Xs i).env := by intro _; rfl) (hpl : ∀ i, (backTo pos (starEach [] (Xs i).env)).any (·.1) = false := by intro _; rfl) :
    CE J Xs (.Call (.Name "sum" p) [e] [] pos) (callS sumQ fs) :=
  ce_callB (fun X G => by have := cr_sumQ (X := X) G.calm; rw [G.hK] at this; exact this) sumQ_ok hm (by decide +kernel) ha hg (by decide) (by decide) he hpl
end DL
namespace DL
open PySem L2
namespace k03
/-! the walk of k03: printed by gen2.py -/
def top (i : Nat) : Stmt := PySem.Challenge.pw_weighortrade_k03_whole_dual_books.main.body.getD i (.Pass ⟨0, 0, 0, 0⟩)
def lam0 : LamI := lamOf "_law_weighed_book.<locals>.<lambda>" ["lot"] ["quota", "weights"] (exE 2 (stE (sAt (defBody (top 38)) 0)))
def lam1 : LamI := lamOf "_law_dual.<locals>.<lambda>" ["lot"] ["book"] (exE 2 (stE (sAt (defBody (top 39)) 0)))
def lam2 : LamI := lamOf "_law_meet.<locals>.<lambda>" ["lot"] ["one", "other"] (exE 2 (stE (sAt (defBody (top 41)) 0)))
def lam3 : LamI := lamOf "_law_join.<locals>.<lambda>" ["lot"] ["one", "other"] (exE 2 (stE (sAt (defBody (top 42)) 0)))
def lamTab (i : Nat) : LamI := [lam0, lam1, lam2, lam3].getD i lam0
def b_law_all_lots : Env → R Out :=
    (seqS (asgS 1 (lstS (consD (tupS nilS) nilS)))
    (seqS (forS [2, 3] (rangeI rg1 (consS (getS 0) nilS)) (nameT 2) (asgS 1 (op2S addD (getS 1) (overS 1 (lcR [3] (nameT 3) yesT (op2S addD (getS 3) (tupS (consD (getS 2) nilS))))))))
    (retS (callS sortL (consS (getS 1) nilS)))))
def m_law_all_lots : FnM := runF 1 3 [0] b_law_all_lots
def b_is_whole : Env → R Out :=
    (retS (andS (isiS tyInt (getS 0)) (notS (isiS tyBool (getS 0)))))
def m_is_whole : FnM := runF 1 0 [0] b_is_whole
def b_is_index : Env → R Out :=
    (retS (andS (fnS m_is_whole (consS (getS 0) nilS)) (chainS leD ltD (constS (.int 0)) (getS 0) (getS 1))))
def m_is_index : FnM := runF 2 0 [0, 1] b_is_index
def b_is_lot : Env → R Out :=
    (seqS (iteS (orT (notT (truS (isiS tyTuple (getS 1)))) (notT (truS (callS allL (consS (overS 1 (lcR [3] (nameT 3) yesT (fnS m_is_index (consS (getS 3) (consS (getS 0) nilS))))) nilS))))) (retS (constS (.bl false))) nextS)
    (retS (callS allL (consS (lcS [2] (rangeI rg1 (consS (op2S subD (callS lenD (consS (getS 1) nilS)) (constS (.int 1))) nilS)) (nameT 2) yesT (op2S ltD (op2S ixA (getS 1) (getS 2)) (op2S ixA (getS 1) (op2S addD (getS 2) (constS (.int 1)))))) nilS))))
def m_is_lot : FnM := runF 2 2 [0, 1] b_is_lot
def b_need_lot : Env → R Out :=
    (seqS (asgS 2 (ifS (truS (isiS tyList (getS 1))) (callS tupL (consS (getS 1) nilS)) (getS 1)))
    (seqS (iteS (notT (truS (fnS m_is_lot (consS (getS 0) (consS (getS 2) nilS))))) neverS nextS)
    (retS (getS 2))))
def m_need_lot : FnM := runF 2 1 [0, 1] b_need_lot
def b_rest_in : Env → R Out :=
    (retS (callS tupL (consS (lcS [2] (rangeI rg1 (consS (getS 0) nilS)) (nameT 2) (testS (op2S notInS (getS 2) (getS 1))) (getS 2)) nilS)))
def m_rest_in : FnM := runF 2 1 [0, 1] b_rest_in
def b_need_many : Env → R Out :=
    (iteS (orT (notT (truS (fnS m_is_whole (consS (getS 0) nilS)))) (notT (testS (chainS leD leD (constS (.int 1)) (getS 0) (getS 1))))) neverS nextS)
def m_need_many : FnM := runF 2 0 [0, 1] b_need_many
def b_rest_of : Env → R Out :=
    (seqS (dropS (fnS m_need_many (consS (getS 0) (consS (constS (.int 20)) nilS))))
    (retS (fnS m_rest_in (consS (getS 0) (consS (fnS m_need_lot (consS (getS 0) (consS (getS 1) nilS))) nilS)))))
def m_rest_of : FnM := runF 2 0 [0, 1] b_rest_of
def b_is_inside : Env → R Out :=
    (retS (callS allL (consS (overS 0 (lcR [2] (nameT 2) yesT (op2S inS (getS 2) (getS 1)))) nilS)))
def m_is_inside : FnM := runF 2 1 [0, 1] b_is_inside
def b_carries_in : Env → R Out :=
    (retS (callS anyL (consS (lcS [2] (inV_ (fldS ["Book"] "least" (getS 0)) itV) (nameT 2) yesT (fnS m_is_inside (consS (getS 2) (consS (getS 1) nilS)))) nilS)))
def m_carries_in : FnM := runF 2 1 [0, 1] b_carries_in
def b_carries : Env → R Out :=
    (retS (fnS m_carries_in (consS (getS 0) (consS (fnS m_need_lot (consS (fldS ["Book"] "many" (getS 0)) (consS (getS 1) nilS))) nilS))))
def m_carries : FnM := runF 2 0 [0, 1] b_carries
def b_law_is (rec : FnM) : Env → R Out :=
    (seqS (iteS (truS (isiS tyTuple (getS 1))) (seqS (iteS (orT (notT (truS (isiS tyTuple (getS 0)))) (testS (op2S neD (callS lenD (consS (getS 0) nilS)) (callS lenD (consS (getS 1) nilS))))) (retS (constS (.bl false))) nextS)
    (retS (op2S eqD (lcS [2] (rangeI rg1 (consS (callS lenD (consS (getS 1) nilS)) nilS)) (nameT 2) (notT (truS (fnS rec (consS (op2S ixA (getS 0) (getS 2)) (consS (op2S ixA (getS 1) (getS 2)) nilS))))) (getS 2)) (lstS nilS)))) nextS)
    (seqS (iteS (testS (op2S isD (getS 1) (constS .non))) (retS (op2S isD (getS 0) (constS .non))) nextS)
    (seqS (iteS (testS (op2S isD (getS 1) (constS (.bl true)))) (retS (op2S isD (getS 0) (constS (.bl true)))) nextS)
    (seqS (iteS (testS (op2S isD (getS 1) (constS (.bl false)))) (retS (op2S isD (getS 0) (constS (.bl false)))) nextS)
    (seqS (iteS (truS (isiS tyStr (getS 1))) (retS (andS (isiS tyStr (getS 0)) (op2S eqD (getS 0) (getS 1)))) nextS)
    (retS (andS (isiS tyInt (getS 0)) (andS (notS (isiS tyBool (getS 0))) (op2S eqD (getS 0) (getS 1))))))))))
def m_law_is : Nat → FnM
  | 0 => runF 2 1 [0, 1] neverS
  | k + 1 => runF 2 1 [0, 1] (b_law_is (m_law_is k))
def b_hits_with : Env → R Out :=
    (seqS (iteS (truS (callS anyL (consS (overS 1 (lcR [2] (nameT 2) yesT (op2S inS (getS 2) (getS 0)))) nilS))) (retS (lstS (consD (getS 0) nilS))) nextS)
    (retS (overS 1 (lcR [2] (nameT 2) yesT (callS tupL (consS (callS sortL (consS (op2S addD (getS 0) (tupS (consD (getS 2) nilS))) nilS)) nilS))))))
def m_hits_with : FnM := runF 2 1 [0, 1] b_hits_with
def b_least_of : Env → R Out :=
    (seqS (asgS 1 (lstS nilS))
    (seqS (forS [2, 3] (inV_ (op1S sortLenD (getS 0)) itV) (nameT 2) (iteS (notT (truS (callS anyL (consS (overS 1 (lcR [3] (nameT 3) yesT (fnS m_is_inside (consS (getS 3) (consS (getS 2) nilS))))) nilS)))) (dropS (methS appendD 1 (consD (getS 2) nilS))) nextS))
    (retS (getS 1))))
def m_least_of : FnM := runF 1 3 [0] b_least_of
def b_meeting : Env → R Out :=
    (seqS (asgS 1 (lstS (consD (tupS nilS) nilS)))
    (seqS (overS 0 (forL [2, 3, 4] (nameT 2) (asgS 1 (fnS m_least_of (consS (overS 1 (lc2R [3, 4] [4] (nameT 3) yesT (inV_ (fnS m_hits_with (consS (getS 3) (consS (getS 2) nilS))) itV) (nameT 4) yesT (getS 4))) nilS)))))
    (retS (getS 1))))
def m_meeting : FnM := runF 1 4 [0] b_meeting
def b_failing : Env → R Out :=
    (retS (callS tupL (consS (callS sortL (consS (lcS [1] (inV_ (fnS m_meeting (consS (fldS ["Book"] "least" (getS 0)) nilS)) itV) (nameT 1) yesT (fnS m_rest_in (consS (fldS ["Book"] "many" (getS 0)) (consS (getS 1) nilS)))) nilS)) nilS)))
def m_failing : FnM := runF 1 1 [0] b_failing
def b_every_lot : Env → R Out :=
    (seqS (asgS 1 (lstS (consD (tupS nilS) nilS)))
    (seqS (forS [2, 3] (rangeI rg3 (consS (op2S subD (getS 0) (constS (.int 1))) (consS (op1S negD (constS (.int 1))) (consS (op1S negD (constS (.int 1))) nilS)))) (nameT 2) (asgS 1 (op2S addD (op2S addD (lstS (consD (tupS nilS) nilS)) (overS 1 (lcR [3] (nameT 3) yesT (tupS (consD (getS 2) (starS (getS 3) nilS)))))) (sliceS (getS 1) (someP (constS (.int 1))) noP))))
    (retS (getS 1))))
def m_every_lot : FnM := runF 1 3 [0] b_every_lot
def b_how_many : Env → R Out :=
    (retS (callS lenD (consS (lcS [1] (inV_ (fnS m_every_lot (consS (fldS ["Book"] "many" (getS 0)) nilS)) itV) (nameT 1) (truS (fnS m_carries_in (consS (getS 0) (consS (getS 1) nilS)))) (getS 1)) nilS)))
def m_how_many : FnM := runF 1 1 [0] b_how_many
def b_law_weight : Env → R Out :=
    (retS (callS sumQ (consS (overS 1 (lcR [2] (nameT 2) yesT (op2S ixA (getS 0) (getS 2)))) nilS)))
def m_law_weight : FnM := runF 2 1 [0, 1] b_law_weight
def b_lam0 : Env → R Out :=
    retS (op2S geD (fnS m_law_weight (consS (getS 2) (consS (getS 0) nilS))) (getS 1))
def m_lam0 : FnM := runF 3 0 [0, 1, 2] b_lam0
def b_law_others : Env → R Out :=
    (retS (callS tupL (consS (lcS [2] (rangeI rg1 (consS (getS 0) nilS)) (nameT 2) (testS (op2S notInS (getS 2) (getS 1))) (getS 2)) nilS)))
def m_law_others : FnM := runF 2 1 [0, 1] b_law_others
def b_law_within : Env → R Out :=
    (retS (op2S eqD (overS 0 (lcR [2] (nameT 2) (testS (op2S notInS (getS 2) (getS 1))) (getS 2))) (lstS nilS)))
def m_law_within : FnM := runF 2 1 [0, 1] b_law_within
def b_law_carries : Env → R Out :=
    (retS (op2S neD (lcS [2] (inV_ (op2S ixA (getS 0) (constS (.int 1))) itV) (nameT 2) (truS (fnS m_law_within (consS (getS 2) (consS (getS 1) nilS)))) (getS 2)) (lstS nilS)))
def m_law_carries : FnM := runF 2 1 [0, 1] b_law_carries
def b_lam1 : Env → R Out :=
    retS (notS (fnS m_law_carries (consS (getS 1) (consS (fnS m_law_others (consS (op2S ixA (getS 1) (constS (.int 0))) (consS (getS 0) nilS))) nilS))))
def m_lam1 : FnM := runF 2 0 [0, 1] b_lam1
def b_lam2 : Env → R Out :=
    retS (andS (fnS m_law_carries (consS (getS 1) (consS (getS 0) nilS))) (fnS m_law_carries (consS (getS 2) (consS (getS 0) nilS))))
def m_lam2 : FnM := runF 3 0 [0, 1, 2] b_lam2
def b_lam3 : Env → R Out :=
    retS (orS (fnS m_law_carries (consS (getS 1) (consS (getS 0) nilS))) (fnS m_law_carries (consS (getS 2) (consS (getS 0) nilS))))
def m_lam3 : FnM := runF 3 0 [0, 1, 2] b_lam3
def tab_law_book_by_is_carrying (i : Nat) : Option FnM := if i = 0 then some m_lam0 else if i = 1 then some m_lam1 else if i = 2 then some m_lam2 else if i = 3 then some m_lam3 else none
def b_law_without : Env → R Out :=
    (retS (callS tupL (consS (overS 0 (lcR [2] (nameT 2) (testS (op2S neD (getS 2) (getS 1))) (getS 2))) nilS)))
def m_law_without : FnM := runF 2 1 [0, 1] b_law_without
def b_law_book_by : Env → R Out :=
    (seqS (asgS 2 (lstS nilS))
    (seqS (forS [3, 4] (inV_ (fnS m_law_all_lots (consS (getS 0) nilS)) itV) (nameT 3) (iteS (andT (truS (cloS tab_law_book_by_is_carrying 1 (consS (getS 3) nilS))) (testS (op2S eqD (overS 3 (lcR [4] (nameT 4) (truS (cloS tab_law_book_by_is_carrying 1 (consS (fnS m_law_without (consS (getS 3) (consS (getS 4) nilS))) nilS))) (getS 4))) (lstS nilS)))) (dropS (methS appendD 2 (consD (getS 3) nilS))) nextS))
    (retS (tupS (consD (getS 0) (consD (callS tupL (consS (getS 2) nilS)) nilS))))))
def m_law_book_by : FnM := runF 2 3 [0, 1] b_law_book_by
def b_law_dual : Env → R Out :=
    (retS (fnL m_law_book_by (consL (op2S ixA (getS 0) (constS (.int 0))) (lamL 1 [0] nilL))))
def m_law_dual : FnM := runF 1 0 [0] b_law_dual
def b_law_plain : Env → R Out :=
    (retS (ifS (truS (isiS (tCls "Book") (getS 0))) (tupS (consD (fldS ["Book"] "many" (getS 0)) (consD (fldS ["Book"] "least" (getS 0)) nilS))) (constS .non)))
def m_law_plain : FnM := runF 1 0 [0] b_law_plain
def b_Book_init : Env → R Out :=
    (seqS (dropS (fnS m_need_many (consS (getS 1) (consS (constS (.int 20)) nilS))))
    (seqS (iteS (notT (truS (isi2S tyList tyTuple (getS 2)))) neverS nextS)
    (seqS (overS 2 (forL [3] (nameT 3) (iteS (notT (truS (fnS m_is_lot (consS (getS 1) (consS (getS 3) nilS))))) neverS nextS)))
    (seqS (setFldS ["Book"] 0 "many" (getS 1))
    (setFldS ["Book"] 0 "least" (callS tupL (consS (callS sortL (consS (fnS m_least_of (consS (getS 2) nilS)) nilS)) nilS)))))))
def m_Book_init : FnM := runF 3 1 [0, 1, 2] b_Book_init
def b_dual : Env → R Out :=
    (retS (makeS "Book" m_Book_init (consS (fldS ["Book"] "many" (getS 0)) (consS (fnS m_meeting (consS (fldS ["Book"] "least" (getS 0)) nilS)) nilS))))
def m_dual : FnM := runF 1 0 [0] b_dual
def b_Book_eq : Env → R Out :=
    (retS (andS (isiS (tCls "Book") (getS 1)) (op2S eqD (tupS (consD (fldS ["Book"] "many" (getS 0)) (consD (fldS ["Book"] "least" (getS 0)) nilS))) (tupS (consD (fldS ["Book"] "many" (getS 1)) (consD (fldS ["Book"] "least" (getS 1)) nilS))))))
def m_Book_eq : FnM := runF 2 0 [0, 1] b_Book_eq
def ownEq (c : String) : Option FnM := if c = "Book" then some m_Book_eq else none
def b_Book_ne : Env → R Out :=
    (retS (notS (cmpO ownEq eqD (getS 0) (getS 1))))
def m_Book_ne : FnM := runF 2 0 [0, 1] b_Book_ne
def ownNe (c : String) : Option FnM := if c = "Book" then some m_Book_ne else none
def b_law_made : Env → R Out :=
    (retS (makeS "Book" m_Book_init (consS (op2S ixA (getS 0) (constS (.int 0))) (consS (op2S ixA (getS 0) (constS (.int 1))) nilS))))
def m_law_made : FnM := runF 1 0 [0] b_law_made
def b_law_meet : Env → R Out :=
    (retS (fnL m_law_book_by (consL (op2S ixA (getS 0) (constS (.int 0))) (lamL 2 [0, 1] nilL))))
def m_law_meet : FnM := runF 2 0 [0, 1] b_law_meet
def b_law_join : Env → R Out :=
    (retS (fnL m_law_book_by (consL (op2S ixA (getS 0) (constS (.int 0))) (lamL 3 [0, 1] nilL))))
def m_law_join : FnM := runF 2 0 [0, 1] b_law_join
def b_law_least_lots : Env → R Out :=
    (seqS (asgS 2 (overS 1 (lcR [3] (nameT 3) (testS (op2S eqD (overS 1 (lcR [4] (nameT 4) (andT (testS (op2S neD (getS 4) (getS 3))) (truS (fnS m_law_within (consS (getS 4) (consS (getS 3) nilS))))) (getS 4))) (lstS nilS))) (getS 3))))
    (retS (callS tupL (consS (callS sortL (consS (getS 2) nilS)) nilS))))
def m_law_least_lots : FnM := runF 2 3 [0, 1] b_law_least_lots
def b_law_draw : Env → R Out :=
    (seqS (itemS 0 (op2S addD (op2S ixA (getS 0) (constS (.str "count"))) (constS (.int 1))) (constS (.str "count")))
    (seqS (iteS (andT (testS (op2S eqD (op2S ixA (getS 0) (constS (.str "digits"))) (constS (.int 0)))) (testS (op2S ltD (op2S ixA (getS 0) (constS (.str "at"))) (callS lenD (consS (op2S ixA (getS 0) (constS (.str "cells"))) nilS))))) (seqS (asgS 3 (op2S ixA (op2S ixA (getS 0) (constS (.str "cells"))) (op2S ixA (getS 0) (constS (.str "at")))))
    (seqS (itemS 0 (op2S addD (op2S ixA (getS 0) (constS (.str "at"))) (constS (.int 1))) (constS (.str "at")))
    (iteS (testS (op2S geD (getS 3) (op2S powD (constS (.int 10)) (constS (.int 18))))) (itemS 0 (op2S subD (getS 3) (op2S powD (constS (.int 10)) (constS (.int 18)))) (constS (.str "digits"))) (itemS 0 (op2S modD (callS intL (consS (op2S addD (op2S mulD (op2S ixA (getS 0) (constS (.str "fold"))) (constS (.int 69069))) (getS 3)) nilS)) (constS (.int 2147483587))) (constS (.str "fold")))))) nextS)
    (seqS (iteS (testS (op2S gtD (op2S ixA (getS 0) (constS (.str "digits"))) (constS (.int 0)))) (seqS (asgS 4 (op2S modD (callS intL (consS (op2S ixA (getS 0) (constS (.str "digits"))) nilS)) (getS 1)))
    (seqS (itemS 0 (op2S fdivD (op2S ixA (getS 0) (constS (.str "digits"))) (getS 1)) (constS (.str "digits")))
    (retS (getS 4)))) nextS)
    (seqS (asgS 2 (op2S modD (callS intL (consS (op2S addD (op2S addD (op2S mulD (op2S ixA (getS 0) (constS (.str "fold"))) (constS (.int 48271))) (op2S mulD (op2S ixA (getS 0) (constS (.str "count"))) (constS (.int 7919)))) (constS (.int 13))) nilS)) (constS (.int 2147483647))))
    (seqS (asgS 2 (op2S modD (callS intL (consS (op2S addD (op2S addD (op2S mulD (getS 2) (getS 2)) (op2S mulD (constS (.int 31)) (getS 2))) (op2S ixA (getS 0) (constS (.str "count")))) nilS)) (constS (.int 2147483629))))
    (seqS (itemS 0 (op2S modD (callS intL (consS (op2S addD (op2S mulD (getS 2) (constS (.int 16807))) (constS (.int 7))) nilS)) (constS (.int 2147483647))) (constS (.str "fold")))
    (retS (op2S modD (callS intL (consS (op2S fdivD (getS 2) (constS (.int 64))) nilS)) (getS 1)))))))))
def m_law_draw : FnM := runF 2 3 [0, 1] b_law_draw
def b_law_shuffled : Env → R Out :=
    (seqS (par2S 2 3 (callS listL (consS (getS 1) nilS)) (lstS nilS))
    (seqS (forS [4] (rangeI rg1 (consS (callS lenD (consS (getS 1) nilS)) nilS)) (nameT 4) (dropS (methS appendD 3 (consD (methS popAtD 2 (consD (fnS m_law_draw (consS (getS 0) (consS (callS lenD (consS (getS 2) nilS)) nilS))) nilS)) nilS))))
    (retS (getS 3))))
def m_law_shuffled : FnM := runF 2 3 [0, 1] b_law_shuffled
def b_law_pick : Env → R Out :=
    (retS (op2S ixA (getS 1) (fnS m_law_draw (consS (getS 0) (consS (callS lenD (consS (getS 1) nilS)) nilS)))))
def m_law_pick : FnM := runF 2 0 [0, 1] b_law_pick
def b_law_drawn_lot : Env → R Out :=
    (retS (callS tupL (consS (lcS [2] (rangeI rg1 (consS (getS 1) nilS)) (nameT 2) (testS (op2S eqD (fnS m_law_draw (consS (getS 0) (consS (constS (.int 2)) nilS))) (constS (.int 0)))) (getS 2)) nilS)))
def m_law_drawn_lot : FnM := runF 2 1 [0, 1] b_law_drawn_lot
def b_law_any_book : Env → R Out :=
    (seqS (par2S 2 3 (op2S addD (constS (.int 1)) (fnS m_law_draw (consS (getS 0) (consS (getS 1) nilS)))) (lstS (consD (fnS m_law_drawn_lot (consS (getS 0) (consS (getS 1) nilS))) nilS)))
    (seqS (forS [4, 5] (rangeI rg1 (consS (op2S addD (constS (.int 1)) (fnS m_law_draw (consS (getS 0) (consS (constS (.int 6)) nilS)))) nilS)) (nameT 4) (seqS (asgS 5 (callS min2 (consS (getS 1) (consS (op2S addD (getS 2) (fnS m_law_pick (consS (getS 0) (consS (lstS (consD (constS (.int 0)) (consD (constS (.int 0)) (consD (constS (.int 0)) (consD (constS (.int 1)) nilS))))) nilS)))) nilS))))
    (dropS (methS appendD 3 (consD (callS tupL (consS (callS sortL (consS (sliceS (fnS m_law_shuffled (consS (getS 0) (consS (lrgS (rgO1 (getS 1))) nilS))) noP (someP (getS 5))) nilS)) nilS)) nilS)))))
    (seqS (asgS 3 (ifS (testS (op2S gtD (fnS m_law_draw (consS (getS 0) (consS (constS (.int 3)) nilS))) (constS (.int 0)))) (sliceS (getS 3) (someP (constS (.int 1))) noP) (getS 3)))
    (seqS (asgS 3 (lcS [6] (rangeI rg1 (consS (callS lenD (consS (getS 3) nilS)) nilS)) (nameT 6) (testS (op2S notInS (op2S ixA (getS 3) (getS 6)) (sliceS (getS 3) noP (someP (getS 6))))) (op2S ixA (getS 3) (getS 6))))
    (retS (tupS (consD (getS 1) (consD (fnS m_law_least_lots (consS (getS 1) (consS (getS 3) nilS))) nilS))))))))
def m_law_any_book : FnM := runF 2 5 [0, 1] b_law_any_book
def b_law_weighed_book : Env → R Out :=
    (retS (fnL m_law_book_by (consL (callS lenD (consS (getS 0) nilS)) (lamL 0 [1, 0] nilL))))
def m_law_weighed_book : FnM := runF 2 0 [0, 1] b_law_weighed_book
def b_law_drawn_weights : Env → R Out :=
    (seqS (asgS 2 (fnS m_law_pick (consS (getS 0) (consS (lstS (consD (constS (.int 1)) (consD (constS (.int 2)) (consD (constS (.int 4)) (consD (constS (.int 9)) nilS))))) nilS))))
    (seqS (asgS 3 (callS tupL (consS (lcS [4] (rangeI rg1 (consS (getS 1) nilS)) (nameT 4) yesT (fnS m_law_draw (consS (getS 0) (consS (op2S addD (getS 2) (constS (.int 1))) nilS)))) nilS)))
    (retS (tupS (consD (getS 3) (consD (fnS m_law_draw (consS (getS 0) (consS (op2S addD (callS sumQ (consS (getS 3) nilS)) (constS (.int 2))) nilS))) nilS))))))
def m_law_drawn_weights : FnM := runF 2 3 [0, 1] b_law_drawn_weights
def b_law_drawn_book : Env → R Out :=
    (seqS (asgS 2 (fnS m_law_draw (consS (getS 0) (consS (constS (.int 9)) nilS))))
    (seqS (iteS (testS (op2S ltD (getS 2) (constS (.int 3)))) (seqS (asgT (fnS m_law_drawn_weights (consS (getS 0) (consS (getS 1) nilS))) (tupT 2 (consT (nameT 5) (consT (nameT 6) nilT))))
    (retS (fnS m_law_weighed_book (consS (getS 5) (consS (getS 6) nilS))))) nextS)
    (seqS (iteS (testS (op2S ltD (getS 2) (constS (.int 6)))) (retS (fnS m_law_any_book (consS (getS 0) (consS (getS 1) nilS)))) nextS)
    (seqS (iteS (testS (op2S eqD (getS 2) (constS (.int 6)))) (retS (fnS m_law_pick (consS (getS 0) (consS (lstS (consD (tupS (consD (getS 1) (consD (tupS nilS) nilS))) (consD (tupS (consD (getS 1) (consD (tupS (consD (tupS nilS) nilS)) nilS))) (consD (tupS (consD (getS 1) (consD (tupS (consD (trgS (rgO1 (getS 1))) nilS)) nilS))) nilS)))) nilS)))) nextS)
    (seqS (par2S 3 4 (fnS m_law_any_book (consS (getS 0) (consS (getS 1) nilS))) (fnS m_law_any_book (consS (getS 0) (consS (getS 1) nilS))))
    (retS (ifS (testS (op2S eqD (getS 2) (constS (.int 7)))) (fnS m_law_meet (consS (getS 3) (consS (getS 4) nilS))) (fnS m_law_join (consS (getS 3) (consS (getS 4) nilS))))))))))
def m_law_drawn_book : FnM := runF 2 5 [0, 1] b_law_drawn_book
def b_law_pen : Env → R Out :=
    (seqS (asgS 1 (constS (.int 0)))
    (seqS (overS 0 (forL [2] (nameT 2) (asgS 1 (op2S modD (callS intL (consS (op2S addD (op2S mulD (getS 1) (constS (.int 47))) (getS 2)) nilS)) (constS (.int 1000000007))))))
    (retS (dispS [.inr "cells", .inr "at", .inr "digits", .inr "count", .inr "fold"] (consP (callS listL (consS (getS 0) nilS)) (consP (constS (.int 0)) (consP (constS (.int 0)) (consP (constS (.int 0)) (consP (getS 1) nilP)))))))))
def m_law_pen : FnM := runF 1 2 [0] b_law_pen
def b_law : Env → R Out :=
    (seqS (asgS 1 (fnS m_law_pen (consS (getS 0) nilS)))
    (seqS (forS [2, 3, 4, 5, 6, 8, 9] (rangeI rg1 (consS (constS (.int 4)) nilS)) (nameT 2) (seqS (asgS 3 (op2S addD (constS (.int 1)) (fnS m_law_draw (consS (getS 1) (consS (constS (.int 6)) nilS)))))
    (seqS (asgS 4 (fnS m_law_drawn_book (consS (getS 1) (consS (getS 3) nilS))))
    (seqS (asgS 5 (fnS m_law_made (consS (getS 4) nilS)))
    (seqS (asgS 6 (fnS m_dual (consS (getS 5) nilS)))
    (seqS (iteS (orT (notT (truS (fnS (m_law_is 4) (consS (fnS m_law_plain (consS (getS 6) nilS)) (consS (fnS m_law_dual (consS (getS 4) nilS)) nilS))))) (orT (testS (cmpO ownNe neD (fnS m_dual (consS (getS 6) nilS)) (getS 5))) (notT (truS (fnS (m_law_is 4) (consS (fnS m_law_plain (consS (getS 5) nilS)) (consS (getS 4) nilS))))))) (retS (constS (.bl false))) nextS)
    (seqS (iteS (orT (testS (op2S neD (callS sortL (consS (lcS [7] (inV_ (fldS ["Book"] "least" (getS 6)) itV) (nameT 7) yesT (fnS m_rest_of (consS (getS 3) (consS (getS 7) nilS)))) nilS)) (callS listL (consS (fnS m_failing (consS (getS 5) nilS)) nilS)))) (testS (op2S neD (op2S addD (fnS m_how_many (consS (getS 5) nilS)) (fnS m_how_many (consS (getS 6) nilS))) (callS lenD (consS (fnS m_law_all_lots (consS (getS 3) nilS)) nilS))))) (retS (constS (.bl false))) nextS)
    (seqS (forS [] (inV_ (sliceS (fnS m_law_all_lots (consS (getS 3) nilS)) noP (someP (constS (.int 20)))) itV) (nameT 7) (iteS (notT (truS (fnS (m_law_is 4) (consS (fnS m_carries (consS (getS 6) (consS (getS 7) nilS))) (consS (notS (fnS m_carries (consS (getS 5) (consS (fnS m_rest_of (consS (getS 3) (consS (getS 7) nilS))) nilS)))) nilS))))) (retS (constS (.bl false))) nextS))
    (forS [8, 9] (inV_ (fldS ["Book"] "least" (getS 6)) itV) (nameT 7) (iteS (testS (op2S neD (lcS [8] (inV_ (op2S ixA (getS 4) (constS (.int 1))) itV) (nameT 8) (testS (op2S eqD (overS 8 (lcR [9] (nameT 9) (testS (op2S inS (getS 9) (getS 7))) (getS 9))) (lstS nilS))) (getS 8)) (lstS nilS))) (retS (constS (.bl false))) nextS))))))))))
    (retS (constS (.bl true)))))
def m_law : FnM := runF 1 9 [0] b_law
end k03
end DL
namespace DL
open PySem L2
namespace k03
structure Tx (C : Cst) (mg : Str → Option Value) (base : Heap) where
  a_law_all_lots : Addr
  fd_law_all_lots : FuncData
  a_is_whole : Addr
  fd_is_whole : FuncData
  a_is_index : Addr
  fd_is_index : FuncData
  a_is_lot : Addr
  fd_is_lot : FuncData
  a_need_lot : Addr
  fd_need_lot : FuncData
  a_rest_in : Addr
  fd_rest_in : FuncData
  a_need_many : Addr
  fd_need_many : FuncData
  a_rest_of : Addr
  fd_rest_of : FuncData
  a_is_inside : Addr
  fd_is_inside : FuncData
  a_carries_in : Addr
  fd_carries_in : FuncData
  a_carries : Addr
  fd_carries : FuncData
  a_law_is : Addr
  fd_law_is : FuncData
  a_hits_with : Addr
  fd_hits_with : FuncData
  a_least_of : Addr
  fd_least_of : FuncData
  a_meeting : Addr
  fd_meeting : FuncData
  a_failing : Addr
  fd_failing : FuncData
  a_every_lot : Addr
  fd_every_lot : FuncData
  a_how_many : Addr
  fd_how_many : FuncData
  a_law_weight : Addr
  fd_law_weight : FuncData
  a_law_others : Addr
  fd_law_others : FuncData
  a_law_within : Addr
  fd_law_within : FuncData
  a_law_carries : Addr
  fd_law_carries : FuncData
  a_law_without : Addr
  fd_law_without : FuncData
  a_law_book_by : Addr
  fd_law_book_by : FuncData
  P_law_dual : Addr
  k_law_dual : Addr
  a_law_dual : Addr
  fd_law_dual : FuncData
  a_law_plain : Addr
  fd_law_plain : FuncData
  a_Book_init : Addr
  fd_Book_init : FuncData
  a_dual : Addr
  fd_dual : FuncData
  a_Book_eq : Addr
  fd_Book_eq : FuncData
  a_Book_ne : Addr
  fd_Book_ne : FuncData
  a_law_made : Addr
  fd_law_made : FuncData
  P_law_meet : Addr
  k_law_meet : Addr
  a_law_meet : Addr
  fd_law_meet : FuncData
  P_law_join : Addr
  k_law_join : Addr
  a_law_join : Addr
  fd_law_join : FuncData
  a_law_least_lots : Addr
  fd_law_least_lots : FuncData
  a_law_draw : Addr
  fd_law_draw : FuncData
  a_law_shuffled : Addr
  fd_law_shuffled : FuncData
  a_law_pick : Addr
  fd_law_pick : FuncData
  a_law_drawn_lot : Addr
  fd_law_drawn_lot : FuncData
  a_law_any_book : Addr
  fd_law_any_book : FuncData
  P_law_weighed_book : Addr
  k_law_weighed_book : Addr
  a_law_weighed_book : Addr
  fd_law_weighed_book : FuncData
  a_law_drawn_weights : Addr
  fd_law_drawn_weights : FuncData
  a_law_drawn_book : Addr
  fd_law_drawn_book : FuncData
  a_law_pen : Addr
  fd_law_pen : FuncData
  a_law : Addr
  fd_law : FuncData
  z_range : mg "range" = none
  n_least : ∀ c ∈ (["Book"] : List String), Cls C.K (C.CA c) ∧ NoAttr C.K (C.CA c) "least"
  z_sorted : mg "sorted" = none
  m_law_all_lots : mg "_law_all_lots" = some (.ref a_law_all_lots)
  F_law_all_lots : Fun C.K "_law_all_lots" "_law_all_lots" (top 31) a_law_all_lots fd_law_all_lots
  b_law_all_lots : Binds C.K fd_law_all_lots ["many"] []
  z_len : mg "len" = none
  z_all : mg "all" = none
  z_isinstance : mg "isinstance" = none
  z_tuple : mg "tuple" = none
  z_int : mg "int" = none
  z_bool : mg "bool" = none
  m_is_whole : mg "is_whole" = some (.ref a_is_whole)
  F_is_whole : Fun C.K "is_whole" "is_whole" (top 5) a_is_whole fd_is_whole
  b_is_whole : Binds C.K fd_is_whole ["value"] []
  m_is_index : mg "is_index" = some (.ref a_is_index)
  F_is_index : Fun C.K "is_index" "is_index" (top 6) a_is_index fd_is_index
  b_is_index : Binds C.K fd_is_index ["value", "many"] []
  m_is_lot : mg "is_lot" = some (.ref a_is_lot)
  F_is_lot : Fun C.K "is_lot" "is_lot" (top 11) a_is_lot fd_is_lot
  b_is_lot : Binds C.K fd_is_lot ["many", "value"] []
  z_list : mg "list" = none
  m_need_lot : mg "need_lot" = some (.ref a_need_lot)
  F_need_lot : Fun C.K "need_lot" "need_lot" (top 12) a_need_lot fd_need_lot
  b_need_lot : Binds C.K fd_need_lot ["many", "lot"] []
  m_rest_in : mg "rest_in" = some (.ref a_rest_in)
  F_rest_in : Fun C.K "rest_in" "rest_in" (top 17) a_rest_in fd_rest_in
  b_rest_in : Binds C.K fd_rest_in ["many", "lot"] []
  c_MOST_MEMBERS : ∃ t : Tok, mg "MOST_MEMBERS" = some (.int 20 t)
  m_need_many : mg "need_many" = some (.ref a_need_many)
  F_need_many : Fun C.K "need_many" "need_many" (top 10) a_need_many fd_need_many
  b_need_many : Binds C.K fd_need_many ["many", "most"] []
  m_rest_of : mg "rest_of" = some (.ref a_rest_of)
  F_rest_of : Fun C.K "rest_of" "rest_of" (top 18) a_rest_of fd_rest_of
  b_rest_of : Binds C.K fd_rest_of ["many", "lot"] []
  n_many : ∀ c ∈ (["Book"] : List String), Cls C.K (C.CA c) ∧ NoAttr C.K (C.CA c) "many"
  m_is_inside : mg "is_inside" = some (.ref a_is_inside)
  F_is_inside : Fun C.K "is_inside" "is_inside" (top 13) a_is_inside fd_is_inside
  b_is_inside : Binds C.K fd_is_inside ["one", "other"] []
  z_any : mg "any" = none
  m_carries_in : mg "carries_in" = some (.ref a_carries_in)
  F_carries_in : Fun C.K "carries_in" "carries_in" (top 15) a_carries_in fd_carries_in
  b_carries_in : Binds C.K fd_carries_in ["book", "lot"] []
  m_carries : mg "carries" = some (.ref a_carries)
  F_carries : Fun C.K "carries" "carries" (top 16) a_carries fd_carries
  b_carries : Binds C.K fd_carries ["book", "lot"] []
  z_str : mg "str" = none
  m_law_is : mg "_law_is" = some (.ref a_law_is)
  F_law_is : Fun C.K "_law_is" "_law_is" (top 30) a_law_is fd_law_is
  b_law_is : Binds C.K fd_law_is ["told", "due"] []
  m_hits_with : mg "hits_with" = some (.ref a_hits_with)
  F_hits_with : Fun C.K "hits_with" "hits_with" (top 21) a_hits_with fd_hits_with
  b_hits_with : Binds C.K fd_hits_with ["hit", "lot"] []
  m_least_of : mg "least_of" = some (.ref a_least_of)
  F_least_of : Fun C.K "least_of" "least_of" (top 14) a_least_of fd_least_of
  b_least_of : Binds C.K fd_least_of ["lots"] []
  m_meeting : mg "meeting" = some (.ref a_meeting)
  F_meeting : Fun C.K "meeting" "meeting" (top 22) a_meeting fd_meeting
  b_meeting : Binds C.K fd_meeting ["lots"] []
  m_failing : mg "failing" = some (.ref a_failing)
  F_failing : Fun C.K "failing" "failing" (top 24) a_failing fd_failing
  b_failing : Binds C.K fd_failing ["book"] []
  m_every_lot : mg "every_lot" = some (.ref a_every_lot)
  F_every_lot : Fun C.K "every_lot" "every_lot" (top 19) a_every_lot fd_every_lot
  b_every_lot : Binds C.K fd_every_lot ["many"] []
  m_how_many : mg "how_many" = some (.ref a_how_many)
  F_how_many : Fun C.K "how_many" "how_many" (top 20) a_how_many fd_how_many
  b_how_many : Binds C.K fd_how_many ["book"] []
  z_sum : mg "sum" = none
  m_law_weight : mg "_law_weight" = some (.ref a_law_weight)
  F_law_weight : Fun C.K "_law_weight" "_law_weight" (top 37) a_law_weight fd_law_weight
  b_law_weight : Binds C.K fd_law_weight ["weights", "lot"] []
  m_law_others : mg "_law_others" = some (.ref a_law_others)
  F_law_others : Fun C.K "_law_others" "_law_others" (top 40) a_law_others fd_law_others
  b_law_others : Binds C.K fd_law_others ["many", "lot"] []
  m_law_within : mg "_law_within" = some (.ref a_law_within)
  F_law_within : Fun C.K "_law_within" "_law_within" (top 32) a_law_within fd_law_within
  b_law_within : Binds C.K fd_law_within ["one", "other"] []
  m_law_carries : mg "_law_carries" = some (.ref a_law_carries)
  F_law_carries : Fun C.K "_law_carries" "_law_carries" (top 33) a_law_carries fd_law_carries
  b_law_carries : Binds C.K fd_law_carries ["book", "lot"] []
  m_law_without : mg "_law_without" = some (.ref a_law_without)
  F_law_without : Fun C.K "_law_without" "_law_without" (top 34) a_law_without fd_law_without
  b_law_without : Binds C.K fd_law_without ["lot", "member"] []
  m_law_book_by : mg "_law_book_by" = some (.ref a_law_book_by)
  F_law_book_by : Fun C.K "_law_book_by" "_law_book_by" (top 36) a_law_book_by fd_law_book_by
  b_law_book_by : Binds C.K fd_law_book_by ["many", "is_carrying"] []
  Q_law_dual : fd_law_dual.code = .ref k_law_dual
  tp_law_dual : (P_law_dual, ("_law_dual.<locals>.<lambda>" : Str)) ∈ C.T
  tu_law_dual : ∀ p ∈ C.T, p.1 = P_law_dual → p.2 = ("_law_dual.<locals>.<lambda>" : Str)
  tb_law_dual : LamX.TabB base mg k_law_dual P_law_dual
  hL : C.L = lamTab
  m_law_dual : mg "_law_dual" = some (.ref a_law_dual)
  F_law_dual : Fun C.K "_law_dual" "_law_dual" (top 39) a_law_dual fd_law_dual
  b_law_dual : Binds C.K fd_law_dual ["book"] []
  i_Book : IsiOk C (tCls "Book") (.ref (C.CA "Book"))
  m_Book : mg "Book" = some (.ref (C.CA "Book"))
  m_law_plain : mg "_law_plain" = some (.ref a_law_plain)
  F_law_plain : Fun C.K "_law_plain" "_law_plain" (top 48) a_law_plain fd_law_plain
  b_law_plain : Binds C.K fd_law_plain ["told"] []
  F_Book_init : Fun C.K "__init__" "Book.__init__" (inClass (top 9) 0) a_Book_init fd_Book_init
  b_Book_init : Binds C.K fd_Book_init ["self", "many", "least"] []
  M_Book : Mk C.K (C.CA "Book") a_Book_init
  m_dual : mg "dual" = some (.ref a_dual)
  F_dual : Fun C.K "dual" "dual" (top 23) a_dual fd_dual
  b_dual : Binds C.K fd_dual ["book"] []
  F_Book_eq : Fun C.K "__eq__" "Book.__eq__" (inClass (top 9) 1) a_Book_eq fd_Book_eq
  b_Book_eq : Binds C.K fd_Book_eq ["self", "other"] []
  O_Book_eq : OwnF C "Book" .Eq a_Book_eq
  F_Book_ne : Fun C.K "__ne__" "Book.__ne__" (inClass (top 9) 2) a_Book_ne fd_Book_ne
  b_Book_ne : Binds C.K fd_Book_ne ["self", "other"] []
  O_Book_ne : OwnF C "Book" .NotEq a_Book_ne
  m_law_made : mg "_law_made" = some (.ref a_law_made)
  F_law_made : Fun C.K "_law_made" "_law_made" (top 47) a_law_made fd_law_made
  b_law_made : Binds C.K fd_law_made ["book"] []
  Q_law_meet : fd_law_meet.code = .ref k_law_meet
  tp_law_meet : (P_law_meet, ("_law_meet.<locals>.<lambda>" : Str)) ∈ C.T
  tu_law_meet : ∀ p ∈ C.T, p.1 = P_law_meet → p.2 = ("_law_meet.<locals>.<lambda>" : Str)
  tb_law_meet : LamX.TabB base mg k_law_meet P_law_meet
  m_law_meet : mg "_law_meet" = some (.ref a_law_meet)
  F_law_meet : Fun C.K "_law_meet" "_law_meet" (top 41) a_law_meet fd_law_meet
  b_law_meet : Binds C.K fd_law_meet ["one", "other"] []
  Q_law_join : fd_law_join.code = .ref k_law_join
  tp_law_join : (P_law_join, ("_law_join.<locals>.<lambda>" : Str)) ∈ C.T
  tu_law_join : ∀ p ∈ C.T, p.1 = P_law_join → p.2 = ("_law_join.<locals>.<lambda>" : Str)
  tb_law_join : LamX.TabB base mg k_law_join P_law_join
  m_law_join : mg "_law_join" = some (.ref a_law_join)
  F_law_join : Fun C.K "_law_join" "_law_join" (top 42) a_law_join fd_law_join
  b_law_join : Binds C.K fd_law_join ["one", "other"] []
  m_law_least_lots : mg "_law_least_lots" = some (.ref a_law_least_lots)
  F_law_least_lots : Fun C.K "_law_least_lots" "_law_least_lots" (top 35) a_law_least_lots fd_law_least_lots
  b_law_least_lots : Binds C.K fd_law_least_lots ["many", "carrying"] []
  m_law_draw : mg "_law_draw" = some (.ref a_law_draw)
  F_law_draw : Fun C.K "_law_draw" "_law_draw" (top 27) a_law_draw fd_law_draw
  b_law_draw : Binds C.K fd_law_draw ["pen", "many"] []
  m_law_shuffled : mg "_law_shuffled" = some (.ref a_law_shuffled)
  F_law_shuffled : Fun C.K "_law_shuffled" "_law_shuffled" (top 29) a_law_shuffled fd_law_shuffled
  b_law_shuffled : Binds C.K fd_law_shuffled ["pen", "some"] []
  m_law_pick : mg "_law_pick" = some (.ref a_law_pick)
  F_law_pick : Fun C.K "_law_pick" "_law_pick" (top 28) a_law_pick fd_law_pick
  b_law_pick : Binds C.K fd_law_pick ["pen", "some"] []
  z_min : mg "min" = none
  m_law_drawn_lot : mg "_law_drawn_lot" = some (.ref a_law_drawn_lot)
  F_law_drawn_lot : Fun C.K "_law_drawn_lot" "_law_drawn_lot" (top 44) a_law_drawn_lot fd_law_drawn_lot
  b_law_drawn_lot : Binds C.K fd_law_drawn_lot ["pen", "many"] []
  m_law_any_book : mg "_law_any_book" = some (.ref a_law_any_book)
  F_law_any_book : Fun C.K "_law_any_book" "_law_any_book" (top 45) a_law_any_book fd_law_any_book
  b_law_any_book : Binds C.K fd_law_any_book ["pen", "many"] []
  Q_law_weighed_book : fd_law_weighed_book.code = .ref k_law_weighed_book
  tp_law_weighed_book : (P_law_weighed_book, ("_law_weighed_book.<locals>.<lambda>" : Str)) ∈ C.T
  tu_law_weighed_book : ∀ p ∈ C.T, p.1 = P_law_weighed_book → p.2 = ("_law_weighed_book.<locals>.<lambda>" : Str)
  tb_law_weighed_book : LamX.TabB base mg k_law_weighed_book P_law_weighed_book
  m_law_weighed_book : mg "_law_weighed_book" = some (.ref a_law_weighed_book)
  F_law_weighed_book : Fun C.K "_law_weighed_book" "_law_weighed_book" (top 38) a_law_weighed_book fd_law_weighed_book
  b_law_weighed_book : Binds C.K fd_law_weighed_book ["weights", "quota"] []
  m_law_drawn_weights : mg "_law_drawn_weights" = some (.ref a_law_drawn_weights)
  F_law_drawn_weights : Fun C.K "_law_drawn_weights" "_law_drawn_weights" (top 43) a_law_drawn_weights fd_law_drawn_weights
  b_law_drawn_weights : Binds C.K fd_law_drawn_weights ["pen", "many"] []
  m_law_drawn_book : mg "_law_drawn_book" = some (.ref a_law_drawn_book)
  F_law_drawn_book : Fun C.K "_law_drawn_book" "_law_drawn_book" (top 46) a_law_drawn_book fd_law_drawn_book
  b_law_drawn_book : Binds C.K fd_law_drawn_book ["pen", "many"] []
  m_law_pen : mg "_law_pen" = some (.ref a_law_pen)
  F_law_pen : Fun C.K "_law_pen" "_law_pen" (top 26) a_law_pen fd_law_pen
  b_law_pen : Binds C.K fd_law_pen ["script"] []
  m_law : mg "law" = some (.ref a_law)
  F_law : Fun C.K "law" "law" (top 49) a_law fd_law
  b_law : Binds C.K fd_law ["script"] []
section
variable {P : Program} {w : World} {C : Cst} {mg : Str → Option Value} {base : Heap}
theorem sc_law_all_lots : FnScope ["many", "found", "member", "lot"] ["many"] (defScope (top 31)) := ⟨rfl, rfl, rfl, by decide +kernel, rfl, by decide +kernel, by decide +kernel⟩
theorem ok_law_all_lots (T : Tx C mg base) : FnOk P w C.K mg base (L2.CX P w) 1 T.a_law_all_lots T.fd_law_all_lots ["many"] (spF C 1 m_law_all_lots) := by
  refine fn_ok T.F_law_all_lots sc_law_all_lots rfl rfl fun cdv A outer s H E => ?_
  exact (css_cons (cs_set (i := 1) (ce_lst (ca_consD (ce_tup ca_nil) ca_nil)) (by decide : (1 : Nat) ∉ ([0] : List Nat)))
    (css_cons (cs_for [2, 3] (ci_range1 (fun _ => T.z_range) (ca_cons (ce_var 0) ca_nil)) (cg_name (j := 2) (by decide : (2 : Nat) ∉ ([0] : List Nat))) (css_one (cs_set (i := 1) (ce_add (ce_var 1) (ce_lcB 1 (ok := (fun _ => (BlkOk.mk rfl (by decide +kernel) (by decide +kernel) (by decide +kernel) (by decide +kernel) : BlkOk ["many", "found", "member", "lot"] (defScope (top 31)) _ [("lot", 3)]))) (hg := (cg_name (j := 3) (by decide : (3 : Nat) ∉ ([1, 0] : List Nat)))) (ht := cts_nil) (he := (ce_add (ce_var 3) (ce_tup (ca_consD (ce_var 2) ca_nil)))) (hvs := rfl) (hts := (by decide : ∀ j ∈ ([3] : List Nat), j ∈ ([3] : List Nat))) (hP := (by decide : ∀ j ∈ ([3] : List Nat), j ∉ ([1, 0] : List Nat))))) (by decide : (1 : Nat) ∉ ([0] : List Nat)))))
    (css_one (cs_ret (ce_sorted (hm := (fun _ => T.z_sorted)) (ha := (ca_cons (ce_var 1) ca_nil)))))))
theorem sc_is_whole : FnScope ["value"] ["value"] (defScope (top 5)) := ⟨rfl, rfl, rfl, by decide +kernel, rfl, by decide +kernel, by decide +kernel⟩
theorem ok_is_whole (T : Tx C mg base) : FnOk P w C.K mg base (L2.CX P w) 1 T.a_is_whole T.fd_is_whole ["value"] (spF C 1 m_is_whole) := by
  refine fn_ok T.F_is_whole sc_is_whole rfl rfl fun cdv A outer s H E => ?_
  exact (css_one (cs_ret (ce_and (ce_isi tyInt tyInt_ok (.ty "int") (fun _ => T.z_isinstance) (ce_var 0) (fun _ _ => pe_tyN T.z_int boot_tInt)) (ce_one (ce_not (ce_isi tyBool tyBool_ok (.ty "bool") (fun _ => T.z_isinstance) (ce_var 0) (fun _ _ => pe_tyN T.z_bool boot_tBool)))))))
theorem sc_is_index : FnScope ["value", "many"] ["value", "many"] (defScope (top 6)) := ⟨rfl, rfl, rfl, by decide +kernel, rfl, by decide +kernel, by decide +kernel⟩
theorem ok_is_index (T : Tx C mg base) : FnOk P w C.K mg base (L2.CX P w) 2 T.a_is_index T.fd_is_index ["value", "many"] (spF C 2 m_is_index) := by
  refine fn_ok T.F_is_index sc_is_index rfl rfl fun cdv A outer s H E => ?_
  exact (css_one (cs_ret (ce_and (ce_fn (fun _ => (ok_is_whole T).mono (Nat.le_of_ble_eq_true rfl)) (fun _ => T.m_is_whole) T.F_is_whole.kp T.b_is_whole (ca_cons (ce_var 0) ca_nil) (LenA.cons LenA.nil)) (ce_one (ce_chain ok_le leD_ok ok_lt ltD_ok ce_int (ce_var 0) (ce_var 1))))))
theorem sc_is_lot : FnScope ["many", "value", "at", "one"] ["many", "value"] (defScope (top 11)) := ⟨rfl, rfl, rfl, by decide +kernel, rfl, by decide +kernel, by decide +kernel⟩
theorem ok_is_lot (T : Tx C mg base) : FnOk P w C.K mg base (L2.CX P w) 3 T.a_is_lot T.fd_is_lot ["many", "value"] (spF C 2 m_is_lot) := by
  refine fn_ok T.F_is_lot sc_is_lot rfl rfl fun cdv A outer s H E => ?_
  exact (css_cons (cs_if (CW.ct (cw_or (ct_not (ct_tru (ce_isi tyTuple tyTuple_ok (.ty "tuple") (fun _ => T.z_isinstance) (ce_var 1) (fun _ _ => pe_tyN T.z_tuple boot_tTuple)))) (cw_or1 (ct_not (ct_tru (ce_all (hm := (fun _ => T.z_all)) (ha := (ca_cons (ce_lcB 1 (ok := (fun _ => (BlkOk.mk rfl (by decide +kernel) (by decide +kernel) (by decide +kernel) (by decide +kernel) : BlkOk ["many", "value", "at", "one"] (defScope (top 11)) _ [("one", 3)]))) (hg := (cg_name (j := 3) (by decide : (3 : Nat) ∉ ([1, 0, 1] : List Nat)))) (ht := cts_nil) (he := (ce_fn (fun _ => (ok_is_index T).mono (Nat.le_of_ble_eq_true rfl)) (fun _ => T.m_is_index) T.F_is_index.kp T.b_is_index (ca_cons (ce_var 3) (ca_cons (ce_var 0) ca_nil)) (LenA.cons (LenA.cons LenA.nil)))) (hvs := rfl) (hts := (by decide : ∀ j ∈ ([3] : List Nat), j ∈ ([3] : List Nat))) (hP := (by decide : ∀ j ∈ ([3] : List Nat), j ∉ ([1, 0, 1] : List Nat)))) ca_nil)))))))) (css_one (cs_ret ce_bl)) css_nil)
    (css_one (cs_ret (ce_all (hm := (fun _ => T.z_all)) (ha := (ca_cons (ce_lc (ci_range1 (fun _ => T.z_range) (ca_cons (ce_sub (ce_len (hm := (fun _ => T.z_len)) (ha := (ca_cons (ce_var 1) ca_nil))) ce_int) ca_nil)) (fun _ => (BlkOk.mk rfl (by decide +kernel) (by decide +kernel) (by decide +kernel) (by decide +kernel) : BlkOk ["many", "value", "at", "one"] (defScope (top 11)) _ [("at", 2)])) (cg_name (j := 2) (by decide : (2 : Nat) ∉ ([0, 1] : List Nat))) cts_nil (ce_cmp ok_lt ltD_ok (ce_ix (ce_var 1) (ce_var 2)) (ce_ix (ce_var 1) (ce_add (ce_var 2) ce_int)) (nomark _)) rfl (by decide : ∀ j ∈ ([2] : List Nat), j ∈ ([2] : List Nat)) (by decide : ∀ j ∈ ([2] : List Nat), j ∉ ([0, 1] : List Nat))) ca_nil))))))
theorem sc_need_lot : FnScope ["many", "lot", "known"] ["many", "lot"] (defScope (top 12)) := ⟨rfl, rfl, rfl, by decide +kernel, rfl, by decide +kernel, by decide +kernel⟩
theorem ok_need_lot (T : Tx C mg base) : FnOk P w C.K mg base (L2.CX P w) 4 T.a_need_lot T.fd_need_lot ["many", "lot"] (spF C 2 m_need_lot) := by
  refine fn_ok T.F_need_lot sc_need_lot rfl rfl fun cdv A outer s H E => ?_
  exact (css_cons (cs_set (i := 2) (ce_ifExp (ct_tru (ce_isi tyList tyList_ok (.ty "list") (fun _ => T.z_isinstance) (ce_var 1) (fun _ _ => pe_tyN T.z_list boot_tList))) (ce_tuple (hm := (fun _ => T.z_tuple)) (ha := (ca_cons (ce_var 1) ca_nil))) (ce_var 1)) (by decide : (2 : Nat) ∉ ([0, 1] : List Nat)))
    (css_cons (cs_if (ct_not (ct_tru (ce_fn (fun _ => (ok_is_lot T).mono (Nat.le_of_ble_eq_true rfl)) (fun _ => T.m_is_lot) T.F_is_lot.kp T.b_is_lot (ca_cons (ce_var 0) (ca_cons (ce_var 2) ca_nil)) (LenA.cons (LenA.cons LenA.nil))))) css_never css_nil)
    (css_one (cs_ret (ce_var 2)))))
theorem sc_rest_in : FnScope ["many", "lot", "member"] ["many", "lot"] (defScope (top 17)) := ⟨rfl, rfl, rfl, by decide +kernel, rfl, by decide +kernel, by decide +kernel⟩
theorem ok_rest_in (T : Tx C mg base) : FnOk P w C.K mg base (L2.CX P w) 1 T.a_rest_in T.fd_rest_in ["many", "lot"] (spF C 2 m_rest_in) := by
  refine fn_ok T.F_rest_in sc_rest_in rfl rfl fun cdv A outer s H E => ?_
  exact (css_one (cs_ret (ce_tuple (hm := (fun _ => T.z_tuple)) (ha := (ca_cons (ce_lc (ci_range1 (fun _ => T.z_range) (ca_cons (ce_var 0) ca_nil)) (fun _ => (BlkOk.mk rfl (by decide +kernel) (by decide +kernel) (by decide +kernel) (by decide +kernel) : BlkOk ["many", "lot", "member"] (defScope (top 17)) _ [("member", 2)])) (cg_name (j := 2) (by decide : (2 : Nat) ∉ ([0, 1] : List Nat))) (cts_one (ct_cmp ok_notIn notInS_ok (ce_var 2) (ce_var 1) (by with_unfolding_all rfl))) (ce_var 2) rfl (by decide : ∀ j ∈ ([2] : List Nat), j ∈ ([2] : List Nat)) (by decide : ∀ j ∈ ([2] : List Nat), j ∉ ([0, 1] : List Nat))) ca_nil)))))
theorem sc_need_many : FnScope ["many", "most"] ["many", "most"] (defScope (top 10)) := ⟨rfl, rfl, rfl, by decide +kernel, rfl, by decide +kernel, by decide +kernel⟩
theorem ok_need_many (T : Tx C mg base) : FnOk P w C.K mg base (L2.CX P w) 2 T.a_need_many T.fd_need_many ["many", "most"] (spF C 2 m_need_many) := by
  refine fn_ok T.F_need_many sc_need_many rfl rfl fun cdv A outer s H E => ?_
  exact (css_one (cs_if (CW.ct (cw_or (ct_not (ct_tru (ce_fn (fun _ => (ok_is_whole T).mono (Nat.le_of_ble_eq_true rfl)) (fun _ => T.m_is_whole) T.F_is_whole.kp T.b_is_whole (ca_cons (ce_var 0) ca_nil) (LenA.cons LenA.nil)))) (cw_or1 (ct_not (ct_chain ok_le leD_ok ok_le leD_ok ce_int (ce_var 0) (ce_var 1)))))) css_never css_nil))
theorem sc_rest_of : FnScope ["many", "lot"] ["many", "lot"] (defScope (top 18)) := ⟨rfl, rfl, rfl, by decide +kernel, rfl, by decide +kernel, by decide +kernel⟩
theorem ok_rest_of (T : Tx C mg base) : FnOk P w C.K mg base (L2.CX P w) 5 T.a_rest_of T.fd_rest_of ["many", "lot"] (spF C 2 m_rest_of) := by
  refine fn_ok T.F_rest_of sc_rest_of rfl rfl fun cdv A outer s H E => ?_
  exact (css_cons (cs_expr (ce_fn (fun _ => (ok_need_many T).mono (Nat.le_of_ble_eq_true rfl)) (fun _ => T.m_need_many) T.F_need_many.kp T.b_need_many (ca_cons (ce_var 0) (ca_cons (ce_globI fun _ => T.c_MOST_MEMBERS.choose_spec) ca_nil)) (LenA.cons (LenA.cons LenA.nil))))
    (css_one (cs_ret (ce_fn (fun _ => (ok_rest_in T).mono (Nat.le_of_ble_eq_true rfl)) (fun _ => T.m_rest_in) T.F_rest_in.kp T.b_rest_in (ca_cons (ce_var 0) (ca_cons (ce_fn (fun _ => (ok_need_lot T).mono (Nat.le_of_ble_eq_true rfl)) (fun _ => T.m_need_lot) T.F_need_lot.kp T.b_need_lot (ca_cons (ce_var 0) (ca_cons (ce_var 1) ca_nil)) (LenA.cons (LenA.cons LenA.nil))) ca_nil)) (LenA.cons (LenA.cons LenA.nil))))))
theorem sc_is_inside : FnScope ["one", "other", "item"] ["one", "other"] (defScope (top 13)) := ⟨rfl, rfl, rfl, by decide +kernel, rfl, by decide +kernel, by decide +kernel⟩
theorem ok_is_inside (T : Tx C mg base) : FnOk P w C.K mg base (L2.CX P w) 1 T.a_is_inside T.fd_is_inside ["one", "other"] (spF C 2 m_is_inside) := by
  refine fn_ok T.F_is_inside sc_is_inside rfl rfl fun cdv A outer s H E => ?_
  exact (css_one (cs_ret (ce_all (hm := (fun _ => T.z_all)) (ha := (ca_cons (ce_lcB 0 (ok := (fun _ => (BlkOk.mk rfl (by decide +kernel) (by decide +kernel) (by decide +kernel) (by decide +kernel) : BlkOk ["one", "other", "item"] (defScope (top 13)) _ [("item", 2)]))) (hg := (cg_name (j := 2) (by decide : (2 : Nat) ∉ ([0, 0, 1] : List Nat)))) (ht := cts_nil) (he := (ce_cmp ok_in inS_ok (ce_var 2) (ce_var 1) (by with_unfolding_all rfl))) (hvs := rfl) (hts := (by decide : ∀ j ∈ ([2] : List Nat), j ∈ ([2] : List Nat))) (hP := (by decide : ∀ j ∈ ([2] : List Nat), j ∉ ([0, 0, 1] : List Nat)))) ca_nil)))))
theorem sc_carries_in : FnScope ["book", "lot", "one"] ["book", "lot"] (defScope (top 15)) := ⟨rfl, rfl, rfl, by decide +kernel, rfl, by decide +kernel, by decide +kernel⟩
theorem ok_carries_in (T : Tx C mg base) : FnOk P w C.K mg base (L2.CX P w) 2 T.a_carries_in T.fd_carries_in ["book", "lot"] (spF C 2 m_carries_in) := by
  refine fn_ok T.F_carries_in sc_carries_in rfl rfl fun cdv A outer s H E => ?_
  exact (css_one (cs_ret (ce_any (hm := (fun _ => T.z_any)) (ha := (ca_cons (ce_lc (ci_val (ce_fld ["Book"] T.n_least (ce_var 0))) (fun _ => (BlkOk.mk rfl (by decide +kernel) (by decide +kernel) (by decide +kernel) (by decide +kernel) : BlkOk ["book", "lot", "one"] (defScope (top 15)) _ [("one", 2)])) (cg_name (j := 2) (by decide : (2 : Nat) ∉ ([0, 1] : List Nat))) cts_nil (ce_fn (fun _ => (ok_is_inside T).mono (Nat.le_of_ble_eq_true rfl)) (fun _ => T.m_is_inside) T.F_is_inside.kp T.b_is_inside (ca_cons (ce_var 2) (ca_cons (ce_var 1) ca_nil)) (LenA.cons (LenA.cons LenA.nil))) rfl (by decide : ∀ j ∈ ([2] : List Nat), j ∈ ([2] : List Nat)) (by decide : ∀ j ∈ ([2] : List Nat), j ∉ ([0, 1] : List Nat))) ca_nil)))))
theorem sc_carries : FnScope ["book", "lot"] ["book", "lot"] (defScope (top 16)) := ⟨rfl, rfl, rfl, by decide +kernel, rfl, by decide +kernel, by decide +kernel⟩
theorem ok_carries (T : Tx C mg base) : FnOk P w C.K mg base (L2.CX P w) 5 T.a_carries T.fd_carries ["book", "lot"] (spF C 2 m_carries) := by
  refine fn_ok T.F_carries sc_carries rfl rfl fun cdv A outer s H E => ?_
  exact (css_one (cs_ret (ce_fn (fun _ => (ok_carries_in T).mono (Nat.le_of_ble_eq_true rfl)) (fun _ => T.m_carries_in) T.F_carries_in.kp T.b_carries_in (ca_cons (ce_var 0) (ca_cons (ce_fn (fun _ => (ok_need_lot T).mono (Nat.le_of_ble_eq_true rfl)) (fun _ => T.m_need_lot) T.F_need_lot.kp T.b_need_lot (ca_cons (ce_fld ["Book"] T.n_many (ce_var 0)) (ca_cons (ce_var 1) ca_nil)) (LenA.cons (LenA.cons LenA.nil))) ca_nil)) (LenA.cons (LenA.cons LenA.nil)))))
theorem sc_law_is : FnScope ["told", "due", "at"] ["told", "due"] (defScope (top 30)) := ⟨rfl, rfl, rfl, by decide +kernel, rfl, by decide +kernel, by decide +kernel⟩
theorem ok_law_is (T : Tx C mg base) : ∀ n : Nat, FnOk P w C.K mg base (L2.CX P w) (1 + n) T.a_law_is T.fd_law_is ["told", "due"] (spF C 2 (m_law_is n))
  | 0 => fn_ok T.F_law_is sc_law_is rfl rfl fun cdv A outer s H E => css_never
  | n + 1 => by
    have R : FnOk P w C.K mg base (L2.CX P w) (1 + n) T.a_law_is T.fd_law_is ["told", "due"] (spF C 2 (m_law_is n)) := ok_law_is T n
    refine fn_ok T.F_law_is sc_law_is rfl rfl fun cdv A outer s H E => ?_
    exact (css_cons (cs_if (ct_tru (ce_isi tyTuple tyTuple_ok (.ty "tuple") (fun _ => T.z_isinstance) (ce_var 1) (fun _ _ => pe_tyN T.z_tuple boot_tTuple))) (css_cons (cs_if (CW.ct (cw_or (ct_not (ct_tru (ce_isi tyTuple tyTuple_ok (.ty "tuple") (fun _ => T.z_isinstance) (ce_var 0) (fun _ _ => pe_tyN T.z_tuple boot_tTuple)))) (cw_or1 (ct_cmp ok_ne neD_ok (ce_len (hm := (fun _ => T.z_len)) (ha := (ca_cons (ce_var 0) ca_nil))) (ce_len (hm := (fun _ => T.z_len)) (ha := (ca_cons (ce_var 1) ca_nil))) (nomark _))))) (css_one (cs_ret ce_bl)) css_nil)
    (css_one (cs_ret (ce_cmp ok_eq eqD_ok (ce_lc (ci_range1 (fun _ => T.z_range) (ca_cons (ce_len (hm := (fun _ => T.z_len)) (ha := (ca_cons (ce_var 1) ca_nil))) ca_nil)) (fun _ => (BlkOk.mk rfl (by decide +kernel) (by decide +kernel) (by decide +kernel) (by decide +kernel) : BlkOk ["told", "due", "at"] (defScope (top 30)) _ [("at", 2)])) (cg_name (j := 2) (by decide : (2 : Nat) ∉ ([0, 1] : List Nat))) (cts_one (ct_not (ct_tru (ce_fn (fun _ => R) (fun _ => T.m_law_is) T.F_law_is.kp T.b_law_is (ca_cons (ce_ix (ce_var 0) (ce_var 2)) (ca_cons (ce_ix (ce_var 1) (ce_var 2)) ca_nil)) (LenA.cons (LenA.cons LenA.nil)))))) (ce_var 2) rfl (by decide : ∀ j ∈ ([2] : List Nat), j ∈ ([2] : List Nat)) (by decide : ∀ j ∈ ([2] : List Nat), j ∉ ([0, 1] : List Nat))) (ce_lst ca_nil) (nomark _))))) css_nil)
    (css_cons (cs_if (ct_cmp ok_is isD_ok (ce_var 1) ce_non (nomark _)) (css_one (cs_ret (ce_cmp ok_is isD_ok (ce_var 0) ce_non (nomark _)))) css_nil)
    (css_cons (cs_if (ct_cmp ok_is isD_ok (ce_var 1) ce_bl (nomark _)) (css_one (cs_ret (ce_cmp ok_is isD_ok (ce_var 0) ce_bl (nomark _)))) css_nil)
    (css_cons (cs_if (ct_cmp ok_is isD_ok (ce_var 1) ce_bl (nomark _)) (css_one (cs_ret (ce_cmp ok_is isD_ok (ce_var 0) ce_bl (nomark _)))) css_nil)
    (css_cons (cs_if (ct_tru (ce_isi tyStr tyStr_ok (.ty "str") (fun _ => T.z_isinstance) (ce_var 1) (fun _ _ => pe_tyN T.z_str boot_tStr))) (css_one (cs_ret (ce_and (ce_isi tyStr tyStr_ok (.ty "str") (fun _ => T.z_isinstance) (ce_var 0) (fun _ _ => pe_tyN T.z_str boot_tStr)) (ce_one (ce_cmp ok_eq eqD_ok (ce_var 0) (ce_var 1) (nomark _)))))) css_nil)
    (css_one (cs_ret (ce_and (ce_isi tyInt tyInt_ok (.ty "int") (fun _ => T.z_isinstance) (ce_var 0) (fun _ _ => pe_tyN T.z_int boot_tInt)) (ce_and (ce_not (ce_isi tyBool tyBool_ok (.ty "bool") (fun _ => T.z_isinstance) (ce_var 0) (fun _ _ => pe_tyN T.z_bool boot_tBool))) (ce_one (ce_cmp ok_eq eqD_ok (ce_var 0) (ce_var 1) (nomark _))))))))))))
theorem sc_hits_with : FnScope ["hit", "lot", "member"] ["hit", "lot"] (defScope (top 21)) := ⟨rfl, rfl, rfl, by decide +kernel, rfl, by decide +kernel, by decide +kernel⟩
theorem ok_hits_with (T : Tx C mg base) : FnOk P w C.K mg base (L2.CX P w) 1 T.a_hits_with T.fd_hits_with ["hit", "lot"] (spF C 2 m_hits_with) := by
  refine fn_ok T.F_hits_with sc_hits_with rfl rfl fun cdv A outer s H E => ?_
  exact (css_cons (cs_if (ct_tru (ce_any (hm := (fun _ => T.z_any)) (ha := (ca_cons (ce_lcB 1 (ok := (fun _ => (BlkOk.mk rfl (by decide +kernel) (by decide +kernel) (by decide +kernel) (by decide +kernel) : BlkOk ["hit", "lot", "member"] (defScope (top 21)) _ [("member", 2)]))) (hg := (cg_name (j := 2) (by decide : (2 : Nat) ∉ ([1, 0, 1] : List Nat)))) (ht := cts_nil) (he := (ce_cmp ok_in inS_ok (ce_var 2) (ce_var 0) (by with_unfolding_all rfl))) (hvs := rfl) (hts := (by decide : ∀ j ∈ ([2] : List Nat), j ∈ ([2] : List Nat))) (hP := (by decide : ∀ j ∈ ([2] : List Nat), j ∉ ([1, 0, 1] : List Nat)))) ca_nil)))) (css_one (cs_ret (ce_lst (ca_consD (ce_var 0) ca_nil)))) css_nil)
    (css_one (cs_ret (ce_lcB 1 (ok := (fun _ => (BlkOk.mk rfl (by decide +kernel) (by decide +kernel) (by decide +kernel) (by decide +kernel) : BlkOk ["hit", "lot", "member"] (defScope (top 21)) _ [("member", 2)]))) (hg := (cg_name (j := 2) (by decide : (2 : Nat) ∉ ([1, 0, 1] : List Nat)))) (ht := cts_nil) (he := (ce_tuple (hm := (fun _ => T.z_tuple)) (ha := (ca_cons (ce_sorted (hm := (fun _ => T.z_sorted)) (ha := (ca_cons (ce_add (ce_var 0) (ce_tup (ca_consD (ce_var 2) ca_nil))) ca_nil))) ca_nil)))) (hvs := rfl) (hts := (by decide : ∀ j ∈ ([2] : List Nat), j ∈ ([2] : List Nat))) (hP := (by decide : ∀ j ∈ ([2] : List Nat), j ∉ ([1, 0, 1] : List Nat)))))))
theorem sc_least_of : FnScope ["lots", "found", "lot", "one"] ["lots"] (defScope (top 14)) := ⟨rfl, rfl, rfl, by decide +kernel, rfl, by decide +kernel, by decide +kernel⟩
theorem ok_least_of (T : Tx C mg base) : FnOk P w C.K mg base (L2.CX P w) 2 T.a_least_of T.fd_least_of ["lots"] (spF C 1 m_least_of) := by
  refine fn_ok T.F_least_of sc_least_of rfl rfl fun cdv A outer s H E => ?_
  exact (css_cons (cs_set (i := 1) (ce_lst ca_nil) (by decide : (1 : Nat) ∉ ([0] : List Nat)))
    (css_cons (cs_for [2, 3] (ci_val (ce_sortLen (fun _ => T.z_sorted) (fun _ => T.z_len) (ce_var 0))) (cg_name (j := 2) (by decide : (2 : Nat) ∉ ([0] : List Nat))) (css_one (cs_if (ct_not (ct_tru (ce_any (hm := (fun _ => T.z_any)) (ha := (ca_cons (ce_lcB 1 (ok := (fun _ => (BlkOk.mk rfl (by decide +kernel) (by decide +kernel) (by decide +kernel) (by decide +kernel) : BlkOk ["lots", "found", "lot", "one"] (defScope (top 14)) _ [("one", 3)]))) (hg := (cg_name (j := 3) (by decide : (3 : Nat) ∉ ([1, 0] : List Nat)))) (ht := cts_nil) (he := (ce_fn (fun _ => (ok_is_inside T).mono (Nat.le_of_ble_eq_true rfl)) (fun _ => T.m_is_inside) T.F_is_inside.kp T.b_is_inside (ca_cons (ce_var 3) (ca_cons (ce_var 2) ca_nil)) (LenA.cons (LenA.cons LenA.nil)))) (hvs := rfl) (hts := (by decide : ∀ j ∈ ([3] : List Nat), j ∈ ([3] : List Nat))) (hP := (by decide : ∀ j ∈ ([3] : List Nat), j ∉ ([1, 0] : List Nat)))) ca_nil))))) (css_one (cs_expr (ce_meth 1 append_ok PySem.F.slot_list_append PySem.F.type_list_append (fun _ => mt_append) (ca_consD (ce_var 2) ca_nil)))) css_nil)))
    (css_one (cs_ret (ce_var 1)))))
theorem sc_meeting : FnScope ["lots", "found", "lot", "hit", "one"] ["lots"] (defScope (top 22)) := ⟨rfl, rfl, rfl, by decide +kernel, rfl, by decide +kernel, by decide +kernel⟩
theorem ok_meeting (T : Tx C mg base) : FnOk P w C.K mg base (L2.CX P w) 3 T.a_meeting T.fd_meeting ["lots"] (spF C 1 m_meeting) := by
  refine fn_ok T.F_meeting sc_meeting rfl rfl fun cdv A outer s H E => ?_
  exact (css_cons (cs_set (i := 1) (ce_lst (ca_consD (ce_tup ca_nil) ca_nil)) (by decide : (1 : Nat) ∉ ([0] : List Nat)))
    (css_cons (cs_forB 0 (fg := [2, 3, 4]) (hg := (cg_name (j := 2) (by decide : (2 : Nat) ∉ ([0, 0] : List Nat)))) (hb := (css_one (cs_set (i := 1) (ce_fn (fun _ => (ok_least_of T).mono (Nat.le_of_ble_eq_true rfl)) (fun _ => T.m_least_of) T.F_least_of.kp T.b_least_of (ca_cons (ce_lc2B 1 (vs1 := [4]) (ok := (fun _ => (BlkOk.mk rfl (by decide +kernel) (by decide +kernel) (by decide +kernel) (by decide +kernel) : BlkOk ["lots", "found", "lot", "hit", "one"] (defScope (top 22)) _ [("hit", 3), ("one", 4)]))) (hg := (cg_name (j := 3) (by decide : (3 : Nat) ∉ ([1, 0, 0] : List Nat)))) (ht := cts_nil) (hi1 := (cj_val (ce_fn (fun _ => (ok_hits_with T).mono (Nat.le_of_ble_eq_true rfl)) (fun _ => T.m_hits_with) T.F_hits_with.kp T.b_hits_with (ca_cons (ce_var 3) (ca_cons (ce_var 2) ca_nil)) (LenA.cons (LenA.cons LenA.nil))))) (hg1 := (cg_name (j := 4) (by decide : (4 : Nat) ∉ ([1, 0, 0] : List Nat)))) (ht1 := cts_nil) (he := (ce_var 4)) (hvs := rfl) (hv := (by decide : ∀ j ∈ ([4] : List Nat), j ∈ ([3, 4] : List Nat))) (hts := (by decide : ∀ j ∈ ([3] : List Nat), j ∈ ([3, 4] : List Nat))) (hts1 := (by decide : ∀ j ∈ ([4] : List Nat), j ∈ ([4] : List Nat))) (hP := (by decide : ∀ j ∈ ([3, 4] : List Nat), j ∉ ([1, 0, 0] : List Nat)))) ca_nil) (LenA.cons LenA.nil)) (by decide : (1 : Nat) ∉ ([0, 0] : List Nat))))))
    (css_one (cs_ret (ce_var 1)))))
theorem sc_failing : FnScope ["book", "lot"] ["book"] (defScope (top 24)) := ⟨rfl, rfl, rfl, by decide +kernel, rfl, by decide +kernel, by decide +kernel⟩
theorem ok_failing (T : Tx C mg base) : FnOk P w C.K mg base (L2.CX P w) 4 T.a_failing T.fd_failing ["book"] (spF C 1 m_failing) := by
  refine fn_ok T.F_failing sc_failing rfl rfl fun cdv A outer s H E => ?_
  exact (css_one (cs_ret (ce_tuple (hm := (fun _ => T.z_tuple)) (ha := (ca_cons (ce_sorted (hm := (fun _ => T.z_sorted)) (ha := (ca_cons (ce_lc (ci_val (ce_fn (fun _ => (ok_meeting T).mono (Nat.le_of_ble_eq_true rfl)) (fun _ => T.m_meeting) T.F_meeting.kp T.b_meeting (ca_cons (ce_fld ["Book"] T.n_least (ce_var 0)) ca_nil) (LenA.cons LenA.nil))) (fun _ => (BlkOk.mk rfl (by decide +kernel) (by decide +kernel) (by decide +kernel) (by decide +kernel) : BlkOk ["book", "lot"] (defScope (top 24)) _ [("lot", 1)])) (cg_name (j := 1) (by decide : (1 : Nat) ∉ ([0] : List Nat))) cts_nil (ce_fn (fun _ => (ok_rest_in T).mono (Nat.le_of_ble_eq_true rfl)) (fun _ => T.m_rest_in) T.F_rest_in.kp T.b_rest_in (ca_cons (ce_fld ["Book"] T.n_many (ce_var 0)) (ca_cons (ce_var 1) ca_nil)) (LenA.cons (LenA.cons LenA.nil))) rfl (by decide : ∀ j ∈ ([1] : List Nat), j ∈ ([1] : List Nat)) (by decide : ∀ j ∈ ([1] : List Nat), j ∉ ([0] : List Nat))) ca_nil))) ca_nil)))))
theorem sc_every_lot : FnScope ["many", "found", "member", "lot"] ["many"] (defScope (top 19)) := ⟨rfl, rfl, rfl, by decide +kernel, rfl, by decide +kernel, by decide +kernel⟩
theorem ok_every_lot (T : Tx C mg base) : FnOk P w C.K mg base (L2.CX P w) 1 T.a_every_lot T.fd_every_lot ["many"] (spF C 1 m_every_lot) := by
  refine fn_ok T.F_every_lot sc_every_lot rfl rfl fun cdv A outer s H E => ?_
  exact (css_cons (cs_set (i := 1) (ce_lst (ca_consD (ce_tup ca_nil) ca_nil)) (by decide : (1 : Nat) ∉ ([0] : List Nat)))
    (css_cons (cs_for [2, 3] (ci_range3 (fun _ => T.z_range) (ca_cons (ce_sub (ce_var 0) ce_int) (ca_cons (ce_neg ce_int) (ca_cons (ce_neg ce_int) ca_nil)))) (cg_name (j := 2) (by decide : (2 : Nat) ∉ ([0] : List Nat))) (css_one (cs_set (i := 1) (ce_add (ce_add (ce_lst (ca_consD (ce_tup ca_nil) ca_nil)) (ce_lcB 1 (ok := (fun _ => (BlkOk.mk rfl (by decide +kernel) (by decide +kernel) (by decide +kernel) (by decide +kernel) : BlkOk ["many", "found", "member", "lot"] (defScope (top 19)) _ [("lot", 3)]))) (hg := (cg_name (j := 3) (by decide : (3 : Nat) ∉ ([1, 0] : List Nat)))) (ht := cts_nil) (he := (ce_tup (ca_consD (ce_var 2) (ca_star (ce_var 3) ca_nil)))) (hvs := rfl) (hts := (by decide : ∀ j ∈ ([3] : List Nat), j ∈ ([3] : List Nat))) (hP := (by decide : ∀ j ∈ ([3] : List Nat), j ∉ ([1, 0] : List Nat))))) (ce_slice (ce_var 1) (cp_some ce_int) cp_none)) (by decide : (1 : Nat) ∉ ([0] : List Nat)))))
    (css_one (cs_ret (ce_var 1)))))
theorem sc_how_many : FnScope ["book", "lot"] ["book"] (defScope (top 20)) := ⟨rfl, rfl, rfl, by decide +kernel, rfl, by decide +kernel, by decide +kernel⟩
theorem ok_how_many (T : Tx C mg base) : FnOk P w C.K mg base (L2.CX P w) 3 T.a_how_many T.fd_how_many ["book"] (spF C 1 m_how_many) := by
  refine fn_ok T.F_how_many sc_how_many rfl rfl fun cdv A outer s H E => ?_
  exact (css_one (cs_ret (ce_len (hm := (fun _ => T.z_len)) (ha := (ca_cons (ce_lc (ci_val (ce_fn (fun _ => (ok_every_lot T).mono (Nat.le_of_ble_eq_true rfl)) (fun _ => T.m_every_lot) T.F_every_lot.kp T.b_every_lot (ca_cons (ce_fld ["Book"] T.n_many (ce_var 0)) ca_nil) (LenA.cons LenA.nil))) (fun _ => (BlkOk.mk rfl (by decide +kernel) (by decide +kernel) (by decide +kernel) (by decide +kernel) : BlkOk ["book", "lot"] (defScope (top 20)) _ [("lot", 1)])) (cg_name (j := 1) (by decide : (1 : Nat) ∉ ([0] : List Nat))) (cts_one (ct_tru (ce_fn (fun _ => (ok_carries_in T).mono (Nat.le_of_ble_eq_true rfl)) (fun _ => T.m_carries_in) T.F_carries_in.kp T.b_carries_in (ca_cons (ce_var 0) (ca_cons (ce_var 1) ca_nil)) (LenA.cons (LenA.cons LenA.nil))))) (ce_var 1) rfl (by decide : ∀ j ∈ ([1] : List Nat), j ∈ ([1] : List Nat)) (by decide : ∀ j ∈ ([1] : List Nat), j ∉ ([0] : List Nat))) ca_nil)))))
theorem sc_law_weight : FnScope ["weights", "lot", "member"] ["weights", "lot"] (defScope (top 37)) := ⟨rfl, rfl, rfl, by decide +kernel, rfl, by decide +kernel, by decide +kernel⟩
theorem ok_law_weight (T : Tx C mg base) : FnOk P w C.K mg base (L2.CX P w) 1 T.a_law_weight T.fd_law_weight ["weights", "lot"] (spF C 2 m_law_weight) := by
  refine fn_ok T.F_law_weight sc_law_weight rfl rfl fun cdv A outer s H E => ?_
  exact (css_one (cs_ret (ce_sumQ (hm := (fun _ => T.z_sum)) (ha := (ca_cons (ce_lcB 1 (ok := (fun _ => (BlkOk.mk rfl (by decide +kernel) (by decide +kernel) (by decide +kernel) (by decide +kernel) : BlkOk ["weights", "lot", "member"] (defScope (top 37)) _ [("member", 2)]))) (hg := (cg_name (j := 2) (by decide : (2 : Nat) ∉ ([1, 0, 1] : List Nat)))) (ht := cts_nil) (he := (ce_ix (ce_var 0) (ce_var 2))) (hvs := rfl) (hts := (by decide : ∀ j ∈ ([2] : List Nat), j ∈ ([2] : List Nat))) (hP := (by decide : ∀ j ∈ ([2] : List Nat), j ∉ ([1, 0, 1] : List Nat)))) ca_nil)))))
theorem ok_lam0 (T : Tx C mg base) : LamOk P w mg base C 2 0 m_lam0 :=
  lam_ok (L := lam0) (N := ["lot", "quota", "weights"]) (Pn := [0, 1, 2]) ((congrFun T.hL 0).trans rfl) (by decide +kernel) rfl rfl (fun cl pm ctv c us hl => match us, hl with | [_], _ => rfl) fun cl c f A outer s H E =>
    (ce_cmp ok_ge geD_ok (ce_fn (fun _ => (ok_law_weight T).mono (Nat.le_of_ble_eq_true rfl)) (fun _ => T.m_law_weight) T.F_law_weight.kp T.b_law_weight (ca_cons (ce_var 2) (ca_cons (ce_var 0) ca_nil)) (LenA.cons (LenA.cons LenA.nil))) (ce_var 1) (nomark _))
theorem sc_law_others : FnScope ["many", "lot", "member"] ["many", "lot"] (defScope (top 40)) := ⟨rfl, rfl, rfl, by decide +kernel, rfl, by decide +kernel, by decide +kernel⟩
theorem ok_law_others (T : Tx C mg base) : FnOk P w C.K mg base (L2.CX P w) 1 T.a_law_others T.fd_law_others ["many", "lot"] (spF C 2 m_law_others) := by
  refine fn_ok T.F_law_others sc_law_others rfl rfl fun cdv A outer s H E => ?_
  exact (css_one (cs_ret (ce_tuple (hm := (fun _ => T.z_tuple)) (ha := (ca_cons (ce_lc (ci_range1 (fun _ => T.z_range) (ca_cons (ce_var 0) ca_nil)) (fun _ => (BlkOk.mk rfl (by decide +kernel) (by decide +kernel) (by decide +kernel) (by decide +kernel) : BlkOk ["many", "lot", "member"] (defScope (top 40)) _ [("member", 2)])) (cg_name (j := 2) (by decide : (2 : Nat) ∉ ([0, 1] : List Nat))) (cts_one (ct_cmp ok_notIn notInS_ok (ce_var 2) (ce_var 1) (by with_unfolding_all rfl))) (ce_var 2) rfl (by decide : ∀ j ∈ ([2] : List Nat), j ∈ ([2] : List Nat)) (by decide : ∀ j ∈ ([2] : List Nat), j ∉ ([0, 1] : List Nat))) ca_nil)))))
theorem sc_law_within : FnScope ["one", "other", "member"] ["one", "other"] (defScope (top 32)) := ⟨rfl, rfl, rfl, by decide +kernel, rfl, by decide +kernel, by decide +kernel⟩
theorem ok_law_within (T : Tx C mg base) : FnOk P w C.K mg base (L2.CX P w) 1 T.a_law_within T.fd_law_within ["one", "other"] (spF C 2 m_law_within) := by
  refine fn_ok T.F_law_within sc_law_within rfl rfl fun cdv A outer s H E => ?_
  exact (css_one (cs_ret (ce_cmp ok_eq eqD_ok (ce_lcB 0 (ok := (fun _ => (BlkOk.mk rfl (by decide +kernel) (by decide +kernel) (by decide +kernel) (by decide +kernel) : BlkOk ["one", "other", "member"] (defScope (top 32)) _ [("member", 2)]))) (hg := (cg_name (j := 2) (by decide : (2 : Nat) ∉ ([0, 0, 1] : List Nat)))) (ht := (cts_one (ct_cmp ok_notIn notInS_ok (ce_var 2) (ce_var 1) (by with_unfolding_all rfl)))) (he := (ce_var 2)) (hvs := rfl) (hts := (by decide : ∀ j ∈ ([2] : List Nat), j ∈ ([2] : List Nat))) (hP := (by decide : ∀ j ∈ ([2] : List Nat), j ∉ ([0, 0, 1] : List Nat)))) (ce_lst ca_nil) (nomark _))))
theorem sc_law_carries : FnScope ["book", "lot", "one"] ["book", "lot"] (defScope (top 33)) := ⟨rfl, rfl, rfl, by decide +kernel, rfl, by decide +kernel, by decide +kernel⟩
theorem ok_law_carries (T : Tx C mg base) : FnOk P w C.K mg base (L2.CX P w) 2 T.a_law_carries T.fd_law_carries ["book", "lot"] (spF C 2 m_law_carries) := by
  refine fn_ok T.F_law_carries sc_law_carries rfl rfl fun cdv A outer s H E => ?_
  exact (css_one (cs_ret (ce_cmp ok_ne neD_ok (ce_lc (ci_val (ce_ix (ce_var 0) ce_int)) (fun _ => (BlkOk.mk rfl (by decide +kernel) (by decide +kernel) (by decide +kernel) (by decide +kernel) : BlkOk ["book", "lot", "one"] (defScope (top 33)) _ [("one", 2)])) (cg_name (j := 2) (by decide : (2 : Nat) ∉ ([0, 1] : List Nat))) (cts_one (ct_tru (ce_fn (fun _ => (ok_law_within T).mono (Nat.le_of_ble_eq_true rfl)) (fun _ => T.m_law_within) T.F_law_within.kp T.b_law_within (ca_cons (ce_var 2) (ca_cons (ce_var 1) ca_nil)) (LenA.cons (LenA.cons LenA.nil))))) (ce_var 2) rfl (by decide : ∀ j ∈ ([2] : List Nat), j ∈ ([2] : List Nat)) (by decide : ∀ j ∈ ([2] : List Nat), j ∉ ([0, 1] : List Nat))) (ce_lst ca_nil) (nomark _))))
theorem ok_lam1 (T : Tx C mg base) : LamOk P w mg base C 3 1 m_lam1 :=
  lam_ok (L := lam1) (N := ["lot", "book"]) (Pn := [0, 1]) ((congrFun T.hL 1).trans rfl) (by decide +kernel) rfl rfl (fun cl pm ctv c us hl => match us, hl with | [_], _ => rfl) fun cl c f A outer s H E =>
    (ce_not (ce_fn (fun _ => (ok_law_carries T).mono (Nat.le_of_ble_eq_true rfl)) (fun _ => T.m_law_carries) T.F_law_carries.kp T.b_law_carries (ca_cons (ce_var 1) (ca_cons (ce_fn (fun _ => (ok_law_others T).mono (Nat.le_of_ble_eq_true rfl)) (fun _ => T.m_law_others) T.F_law_others.kp T.b_law_others (ca_cons (ce_ix (ce_var 1) ce_int) (ca_cons (ce_var 0) ca_nil)) (LenA.cons (LenA.cons LenA.nil))) ca_nil)) (LenA.cons (LenA.cons LenA.nil))))
theorem ok_lam2 (T : Tx C mg base) : LamOk P w mg base C 3 2 m_lam2 :=
  lam_ok (L := lam2) (N := ["lot", "one", "other"]) (Pn := [0, 1, 2]) ((congrFun T.hL 2).trans rfl) (by decide +kernel) rfl rfl (fun cl pm ctv c us hl => match us, hl with | [_], _ => rfl) fun cl c f A outer s H E =>
    (ce_and (ce_fn (fun _ => (ok_law_carries T).mono (Nat.le_of_ble_eq_true rfl)) (fun _ => T.m_law_carries) T.F_law_carries.kp T.b_law_carries (ca_cons (ce_var 1) (ca_cons (ce_var 0) ca_nil)) (LenA.cons (LenA.cons LenA.nil))) (ce_one (ce_fn (fun _ => (ok_law_carries T).mono (Nat.le_of_ble_eq_true rfl)) (fun _ => T.m_law_carries) T.F_law_carries.kp T.b_law_carries (ca_cons (ce_var 2) (ca_cons (ce_var 0) ca_nil)) (LenA.cons (LenA.cons LenA.nil)))))
theorem ok_lam3 (T : Tx C mg base) : LamOk P w mg base C 3 3 m_lam3 :=
  lam_ok (L := lam3) (N := ["lot", "one", "other"]) (Pn := [0, 1, 2]) ((congrFun T.hL 3).trans rfl) (by decide +kernel) rfl rfl (fun cl pm ctv c us hl => match us, hl with | [_], _ => rfl) fun cl c f A outer s H E =>
    (ce_or (ce_fn (fun _ => (ok_law_carries T).mono (Nat.le_of_ble_eq_true rfl)) (fun _ => T.m_law_carries) T.F_law_carries.kp T.b_law_carries (ca_cons (ce_var 1) (ca_cons (ce_var 0) ca_nil)) (LenA.cons (LenA.cons LenA.nil))) (ce_one (ce_fn (fun _ => (ok_law_carries T).mono (Nat.le_of_ble_eq_true rfl)) (fun _ => T.m_law_carries) T.F_law_carries.kp T.b_law_carries (ca_cons (ce_var 2) (ca_cons (ce_var 0) ca_nil)) (LenA.cons (LenA.cons LenA.nil)))))
theorem tok_law_book_by_is_carrying (T : Tx C mg base) : TabOk P w mg base C 3 1 tab_law_book_by_is_carrying := fun id m h => by
  unfold tab_law_book_by_is_carrying at h
  by_cases h0 : id = 0
  · subst h0; rw [if_pos rfl] at h; cases h; exact ⟨(ok_lam0 T).mono (Nat.le_of_ble_eq_true rfl), by rw [congrFun T.hL 0]; rfl⟩
  rw [if_neg h0] at h
  by_cases h1 : id = 1
  · subst h1; rw [if_pos rfl] at h; cases h; exact ⟨(ok_lam1 T).mono (Nat.le_of_ble_eq_true rfl), by rw [congrFun T.hL 1]; rfl⟩
  rw [if_neg h1] at h
  by_cases h2 : id = 2
  · subst h2; rw [if_pos rfl] at h; cases h; exact ⟨(ok_lam2 T).mono (Nat.le_of_ble_eq_true rfl), by rw [congrFun T.hL 2]; rfl⟩
  rw [if_neg h2] at h
  by_cases h3 : id = 3
  · subst h3; rw [if_pos rfl] at h; cases h; exact ⟨(ok_lam3 T).mono (Nat.le_of_ble_eq_true rfl), by rw [congrFun T.hL 3]; rfl⟩
  rw [if_neg h3] at h
  cases h
theorem sc_law_without : FnScope ["lot", "member", "one"] ["lot", "member"] (defScope (top 34)) := ⟨rfl, rfl, rfl, by decide +kernel, rfl, by decide +kernel, by decide +kernel⟩
theorem ok_law_without (T : Tx C mg base) : FnOk P w C.K mg base (L2.CX P w) 1 T.a_law_without T.fd_law_without ["lot", "member"] (spF C 2 m_law_without) := by
  refine fn_ok T.F_law_without sc_law_without rfl rfl fun cdv A outer s H E => ?_
  exact (css_one (cs_ret (ce_tuple (hm := (fun _ => T.z_tuple)) (ha := (ca_cons (ce_lcB 0 (ok := (fun _ => (BlkOk.mk rfl (by decide +kernel) (by decide +kernel) (by decide +kernel) (by decide +kernel) : BlkOk ["lot", "member", "one"] (defScope (top 34)) _ [("one", 2)]))) (hg := (cg_name (j := 2) (by decide : (2 : Nat) ∉ ([0, 0, 1] : List Nat)))) (ht := (cts_one (ct_cmp ok_ne neD_ok (ce_var 2) (ce_var 1) (nomark _)))) (he := (ce_var 2)) (hvs := rfl) (hts := (by decide : ∀ j ∈ ([2] : List Nat), j ∈ ([2] : List Nat))) (hP := (by decide : ∀ j ∈ ([2] : List Nat), j ∉ ([0, 0, 1] : List Nat)))) ca_nil)))))
theorem sc_law_book_by : FnScope ["many", "is_carrying", "found", "lot", "member"] ["many", "is_carrying"] (defScope (top 36)) := ⟨rfl, rfl, rfl, by decide +kernel, rfl, by decide +kernel, by decide +kernel⟩
theorem ok_law_book_by (T : Tx C mg base) : FnOk P w C.K mg base (L2.CX P w) 4 T.a_law_book_by T.fd_law_book_by ["many", "is_carrying"] (spF C 2 m_law_book_by) := by
  refine fn_ok T.F_law_book_by sc_law_book_by rfl rfl fun cdv A outer s H E => ?_
  exact (css_cons (cs_set (i := 2) (ce_lst ca_nil) (by decide : (2 : Nat) ∉ ([0, 1] : List Nat)))
    (css_cons (cs_for [3, 4] (ci_val (ce_fn (fun _ => (ok_law_all_lots T).mono (Nat.le_of_ble_eq_true rfl)) (fun _ => T.m_law_all_lots) T.F_law_all_lots.kp T.b_law_all_lots (ca_cons (ce_var 0) ca_nil) (LenA.cons LenA.nil))) (cg_name (j := 3) (by decide : (3 : Nat) ∉ ([0, 1] : List Nat))) (css_one (cs_if (CW.ct (cw_and (ct_tru (ce_clo 1 (fun _ => (tok_law_book_by_is_carrying T).mono (Nat.le_of_ble_eq_true rfl)) (fun id m h => (tok_law_book_by_is_carrying (P := P) (w := w) T id m h).2) (ca_cons (ce_var 3) ca_nil) (LenA.cons LenA.nil))) (cw_and1 (ct_cmp ok_eq eqD_ok (ce_lcB 3 (ok := (fun _ => (BlkOk.mk rfl (by decide +kernel) (by decide +kernel) (by decide +kernel) (by decide +kernel) : BlkOk ["many", "is_carrying", "found", "lot", "member"] (defScope (top 36)) _ [("member", 4)]))) (hg := (cg_name (j := 4) (by decide : (4 : Nat) ∉ ([3, 0, 1] : List Nat)))) (ht := (cts_one (ct_tru (ce_clo 1 (fun _ => (tok_law_book_by_is_carrying T).mono (Nat.le_of_ble_eq_true rfl)) (fun id m h => (tok_law_book_by_is_carrying (P := P) (w := w) T id m h).2) (ca_cons (ce_fn (fun _ => (ok_law_without T).mono (Nat.le_of_ble_eq_true rfl)) (fun _ => T.m_law_without) T.F_law_without.kp T.b_law_without (ca_cons (ce_var 3) (ca_cons (ce_var 4) ca_nil)) (LenA.cons (LenA.cons LenA.nil))) ca_nil) (LenA.cons LenA.nil))))) (he := (ce_var 4)) (hvs := rfl) (hts := (by decide : ∀ j ∈ ([4] : List Nat), j ∈ ([4] : List Nat))) (hP := (by decide : ∀ j ∈ ([4] : List Nat), j ∉ ([3, 0, 1] : List Nat)))) (ce_lst ca_nil) (nomark _))))) (css_one (cs_expr (ce_meth 2 append_ok PySem.F.slot_list_append PySem.F.type_list_append (fun _ => mt_append) (ca_consD (ce_var 3) ca_nil)))) css_nil)))
    (css_one (cs_ret (ce_tup (ca_consD (ce_var 0) (ca_consD (ce_tuple (hm := (fun _ => T.z_tuple)) (ha := (ca_cons (ce_var 2) ca_nil))) ca_nil)))))))
theorem sc_law_dual : FnScope ["book"] ["book"] (defScope (top 39)) := ⟨rfl, rfl, rfl, by decide +kernel, rfl, by decide +kernel, by decide +kernel⟩
theorem ok_law_dual (T : Tx C mg base) : FnOk P w C.K mg base (L2.CX P w) 5 T.a_law_dual T.fd_law_dual ["book"] (spF C 1 m_law_dual) := by
  refine fn_okC T.F_law_dual T.Q_law_dual sc_law_dual rfl rfl fun A outer s H E => ?_
  exact (css_one (cs_ret (ce_fnL (jy := [(0, "book")]) (fun _ => (ok_law_book_by T).mono (Nat.le_of_ble_eq_true rfl)) (fun _ => T.m_law_book_by) T.F_law_book_by.kp T.b_law_book_by (cl_cons (ce_ix (ce_var 0) ce_int) (cl_lam (id := 1) (js := [0]) ((congrFun T.hL 1).trans rfl) T.tp_law_dual T.tu_law_dual (fun _ => ⟨T.tb_law_dual, rfl, rfl, rfl⟩) cl_nil (fun _ => free_of (sc := defScope (top 39)) (by decide +kernel)))) (LamsOk.cons (LamsOk.lam (by rw [congrFun T.hL 1]; decide +kernel) LamsOk.nil)) (fun _ => jy_of (N := ["book"]) (sc := defScope (top 39)) (by decide +kernel)))))
theorem sc_law_plain : FnScope ["told"] ["told"] (defScope (top 48)) := ⟨rfl, rfl, rfl, by decide +kernel, rfl, by decide +kernel, by decide +kernel⟩
theorem ok_law_plain (T : Tx C mg base) : FnOk P w C.K mg base (L2.CX P w) 1 T.a_law_plain T.fd_law_plain ["told"] (spF C 1 m_law_plain) := by
  refine fn_ok T.F_law_plain sc_law_plain rfl rfl fun cdv A outer s H E => ?_
  exact (css_one (cs_ret (ce_ifExp (ct_tru (ce_isi (tCls "Book") T.i_Book (.own (C.CA "Book")) (fun _ => T.z_isinstance) (ce_var 0) (fun _ _ => pe_clN T.m_Book))) (ce_tup (ca_consD (ce_fld ["Book"] T.n_many (ce_var 0)) (ca_consD (ce_fld ["Book"] T.n_least (ce_var 0)) ca_nil))) ce_non)))
theorem sc_Book_init : FnScope ["self", "many", "least", "lot"] ["self", "many", "least"] (defScope (inClass (top 9) 0)) := ⟨rfl, rfl, rfl, by decide +kernel, rfl, by decide +kernel, by decide +kernel⟩
theorem ok_Book_init (T : Tx C mg base) : FnOk P w C.K mg base (L2.CX P w) 4 T.a_Book_init T.fd_Book_init ["self", "many", "least"] (spF C 3 m_Book_init) := by
  refine fn_ok T.F_Book_init sc_Book_init rfl rfl fun cdv A outer s H E => ?_
  exact (css_cons (cs_expr (ce_fn (fun _ => (ok_need_many T).mono (Nat.le_of_ble_eq_true rfl)) (fun _ => T.m_need_many) T.F_need_many.kp T.b_need_many (ca_cons (ce_var 1) (ca_cons (ce_globI fun _ => T.c_MOST_MEMBERS.choose_spec) ca_nil)) (LenA.cons (LenA.cons LenA.nil))))
    (css_cons (cs_if (ct_not (ct_tru (ce_isi2 tyList tyTuple tyList_ok tyTuple_ok (.ty "list") (.ty "tuple") (fun _ => T.z_isinstance) (ce_var 2) (fun _ _ => pe_tyN T.z_list boot_tList) (fun _ _ => pe_tyN T.z_tuple boot_tTuple)))) css_never css_nil)
    (css_cons (cs_forB 2 (fg := [3]) (hg := (cg_name (j := 3) (by decide : (3 : Nat) ∉ ([2, 0, 1, 2] : List Nat)))) (hb := (css_one (cs_if (ct_not (ct_tru (ce_fn (fun _ => (ok_is_lot T).mono (Nat.le_of_ble_eq_true rfl)) (fun _ => T.m_is_lot) T.F_is_lot.kp T.b_is_lot (ca_cons (ce_var 1) (ca_cons (ce_var 3) ca_nil)) (LenA.cons (LenA.cons LenA.nil))))) css_never css_nil))))
    (css_cons (cs_fld ["Book"] 0 T.n_many (ce_var 1))
    (css_one (cs_fld ["Book"] 0 T.n_least (ce_tuple (hm := (fun _ => T.z_tuple)) (ha := (ca_cons (ce_sorted (hm := (fun _ => T.z_sorted)) (ha := (ca_cons (ce_fn (fun _ => (ok_least_of T).mono (Nat.le_of_ble_eq_true rfl)) (fun _ => T.m_least_of) T.F_least_of.kp T.b_least_of (ca_cons (ce_var 2) ca_nil) (LenA.cons LenA.nil)) ca_nil))) ca_nil)))))))))
theorem sc_dual : FnScope ["book"] ["book"] (defScope (top 23)) := ⟨rfl, rfl, rfl, by decide +kernel, rfl, by decide +kernel, by decide +kernel⟩
theorem ok_dual (T : Tx C mg base) : FnOk P w C.K mg base (L2.CX P w) 6 T.a_dual T.fd_dual ["book"] (spF C 1 m_dual) := by
  refine fn_ok T.F_dual sc_dual rfl rfl fun cdv A outer s H E => ?_
  exact (css_one (cs_ret (ce_make (c := "Book") T.M_Book (fun _ => ok_Book_init T) (fun _ => T.m_Book) T.b_Book_init (ca_cons (ce_fld ["Book"] T.n_many (ce_var 0)) (ca_cons (ce_fn (fun _ => (ok_meeting T).mono (Nat.le_of_ble_eq_true rfl)) (fun _ => T.m_meeting) T.F_meeting.kp T.b_meeting (ca_cons (ce_fld ["Book"] T.n_least (ce_var 0)) ca_nil) (LenA.cons LenA.nil)) ca_nil)) (Nat.le_of_ble_eq_true rfl) (fun ρ xs ρ2 z => by rw [(LenA.cons (LenA.cons LenA.nil)) ρ xs ρ2 z]; rfl))))
theorem sc_Book_eq : FnScope ["self", "other"] ["self", "other"] (defScope (inClass (top 9) 1)) := ⟨rfl, rfl, rfl, by decide +kernel, rfl, by decide +kernel, by decide +kernel⟩
theorem ok_Book_eq (T : Tx C mg base) : FnOk P w C.K mg base (L2.CX P w) 1 T.a_Book_eq T.fd_Book_eq ["self", "other"] (spF C 2 m_Book_eq) := by
  refine fn_ok T.F_Book_eq sc_Book_eq rfl rfl fun cdv A outer s H E => ?_
  exact (css_one (cs_ret (ce_and (ce_isi (tCls "Book") T.i_Book (.own (C.CA "Book")) (fun _ => T.z_isinstance) (ce_var 1) (fun _ _ => pe_clN T.m_Book)) (ce_one (ce_cmp ok_eq eqD_ok (ce_tup (ca_consD (ce_fld ["Book"] T.n_many (ce_var 0)) (ca_consD (ce_fld ["Book"] T.n_least (ce_var 0)) ca_nil))) (ce_tup (ca_consD (ce_fld ["Book"] T.n_many (ce_var 1)) (ca_consD (ce_fld ["Book"] T.n_least (ce_var 1)) ca_nil))) (nomark _))))))
theorem ownEq_ok (T : Tx C mg base) {k : Nat} (hk : 1 ≤ k) (c : String) (m : FnM) (h : ownEq c = some m) : ∃ fa fd ps, OwnC P w mg base C k .Eq c m fa fd ps := by
  by_cases hc : c = "Book"
  · subst hc; have h : some m_Book_eq = some m := h; cases h; exact ⟨_, _, ["self", "other"], T.O_Book_eq.ok T.b_Book_eq rfl (ok_Book_eq T) (Nat.le_trans (Nat.le_of_ble_eq_true rfl) hk)⟩
  · unfold ownEq at h; rw [if_neg hc] at h; cases h
theorem sc_Book_ne : FnScope ["self", "other"] ["self", "other"] (defScope (inClass (top 9) 2)) := ⟨rfl, rfl, rfl, by decide +kernel, rfl, by decide +kernel, by decide +kernel⟩
theorem ok_Book_ne (T : Tx C mg base) : FnOk P w C.K mg base (L2.CX P w) 2 T.a_Book_ne T.fd_Book_ne ["self", "other"] (spF C 2 m_Book_ne) := by
  refine fn_ok T.F_Book_ne sc_Book_ne rfl rfl fun cdv A outer s H E => ?_
  exact (css_one (cs_ret (ce_not (ce_cmpO ok_eq eqD_ok (fun _ _ => rfl) (fun c m h => ownEq_ok (P := P) (w := w) (base := base) T (Nat.le_of_ble_eq_true rfl) c m h) (fun _ => ⟨rfl, rfl, rfl, rfl⟩) (ce_var 0) (ce_var 1) (nomark _)))))
theorem ownNe_ok (T : Tx C mg base) {k : Nat} (hk : 2 ≤ k) (c : String) (m : FnM) (h : ownNe c = some m) : ∃ fa fd ps, OwnC P w mg base C k .NotEq c m fa fd ps := by
  by_cases hc : c = "Book"
  · subst hc; have h : some m_Book_ne = some m := h; cases h; exact ⟨_, _, ["self", "other"], T.O_Book_ne.ok T.b_Book_ne rfl (ok_Book_ne T) (Nat.le_trans (Nat.le_of_ble_eq_true rfl) hk)⟩
  · unfold ownNe at h; rw [if_neg hc] at h; cases h
theorem sc_law_made : FnScope ["book"] ["book"] (defScope (top 47)) := ⟨rfl, rfl, rfl, by decide +kernel, rfl, by decide +kernel, by decide +kernel⟩
theorem ok_law_made (T : Tx C mg base) : FnOk P w C.K mg base (L2.CX P w) 6 T.a_law_made T.fd_law_made ["book"] (spF C 1 m_law_made) := by
  refine fn_ok T.F_law_made sc_law_made rfl rfl fun cdv A outer s H E => ?_
  exact (css_one (cs_ret (ce_make (c := "Book") T.M_Book (fun _ => ok_Book_init T) (fun _ => T.m_Book) T.b_Book_init (ca_cons (ce_ix (ce_var 0) ce_int) (ca_cons (ce_ix (ce_var 0) ce_int) ca_nil)) (Nat.le_of_ble_eq_true rfl) (fun ρ xs ρ2 z => by rw [(LenA.cons (LenA.cons LenA.nil)) ρ xs ρ2 z]; rfl))))
theorem sc_law_meet : FnScope ["one", "other"] ["one", "other"] (defScope (top 41)) := ⟨rfl, rfl, rfl, by decide +kernel, rfl, by decide +kernel, by decide +kernel⟩
theorem ok_law_meet (T : Tx C mg base) : FnOk P w C.K mg base (L2.CX P w) 5 T.a_law_meet T.fd_law_meet ["one", "other"] (spF C 2 m_law_meet) := by
  refine fn_okC T.F_law_meet T.Q_law_meet sc_law_meet rfl rfl fun A outer s H E => ?_
  exact (css_one (cs_ret (ce_fnL (jy := [(0, "one"), (1, "other")]) (fun _ => (ok_law_book_by T).mono (Nat.le_of_ble_eq_true rfl)) (fun _ => T.m_law_book_by) T.F_law_book_by.kp T.b_law_book_by (cl_cons (ce_ix (ce_var 0) ce_int) (cl_lam (id := 2) (js := [0, 1]) ((congrFun T.hL 2).trans rfl) T.tp_law_meet T.tu_law_meet (fun _ => ⟨T.tb_law_meet, rfl, rfl, rfl⟩) cl_nil (fun _ => free_of (sc := defScope (top 41)) (by decide +kernel)))) (LamsOk.cons (LamsOk.lam (by rw [congrFun T.hL 2]; decide +kernel) LamsOk.nil)) (fun _ => jy_of (N := ["one", "other"]) (sc := defScope (top 41)) (by decide +kernel)))))
theorem sc_law_join : FnScope ["one", "other"] ["one", "other"] (defScope (top 42)) := ⟨rfl, rfl, rfl, by decide +kernel, rfl, by decide +kernel, by decide +kernel⟩
theorem ok_law_join (T : Tx C mg base) : FnOk P w C.K mg base (L2.CX P w) 5 T.a_law_join T.fd_law_join ["one", "other"] (spF C 2 m_law_join) := by
  refine fn_okC T.F_law_join T.Q_law_join sc_law_join rfl rfl fun A outer s H E => ?_
  exact (css_one (cs_ret (ce_fnL (jy := [(0, "one"), (1, "other")]) (fun _ => (ok_law_book_by T).mono (Nat.le_of_ble_eq_true rfl)) (fun _ => T.m_law_book_by) T.F_law_book_by.kp T.b_law_book_by (cl_cons (ce_ix (ce_var 0) ce_int) (cl_lam (id := 3) (js := [0, 1]) ((congrFun T.hL 3).trans rfl) T.tp_law_join T.tu_law_join (fun _ => ⟨T.tb_law_join, rfl, rfl, rfl⟩) cl_nil (fun _ => free_of (sc := defScope (top 42)) (by decide +kernel)))) (LamsOk.cons (LamsOk.lam (by rw [congrFun T.hL 3]; decide +kernel) LamsOk.nil)) (fun _ => jy_of (N := ["one", "other"]) (sc := defScope (top 42)) (by decide +kernel)))))
theorem sc_law_least_lots : FnScope ["many", "carrying", "found", "lot", "one"] ["many", "carrying"] (defScope (top 35)) := ⟨rfl, rfl, rfl, by decide +kernel, rfl, by decide +kernel, by decide +kernel⟩
theorem ok_law_least_lots (T : Tx C mg base) : FnOk P w C.K mg base (L2.CX P w) 2 T.a_law_least_lots T.fd_law_least_lots ["many", "carrying"] (spF C 2 m_law_least_lots) := by
  refine fn_ok T.F_law_least_lots sc_law_least_lots rfl rfl fun cdv A outer s H E => ?_
  exact (css_cons (cs_setLcB 1 (ok := (fun _ => (BlkOk.mk rfl (by decide +kernel) (by decide +kernel) (by decide +kernel) (by decide +kernel) : BlkOk ["many", "carrying", "found", "lot", "one"] (defScope (top 35)) _ [("lot", 3)]))) (hg := (cg_name (j := 3) (by decide : (3 : Nat) ∉ ([1, 0, 1] : List Nat)))) (ht := (cts_one (ct_cmp ok_eq eqD_ok (ce_lcB 1 (ok := (fun _ => (BlkOk.mk rfl (by decide +kernel) (by decide +kernel) (by decide +kernel) (by decide +kernel) : BlkOk ["many", "carrying", "found", "lot", "one"] (relS _ (defScope (top 35))) _ [("one", 4)]))) (hg := (cg_name (j := 4) (by decide : (4 : Nat) ∉ ([1, 1, 0, 1] : List Nat)))) (ht := (cts_one (CW.ct (cw_and (ct_cmp ok_ne neD_ok (ce_var 4) (ce_var 3) (nomark _)) (cw_and1 (ct_tru (ce_fn (fun _ => (ok_law_within T).mono (Nat.le_of_ble_eq_true rfl)) (fun _ => T.m_law_within) T.F_law_within.kp T.b_law_within (ca_cons (ce_var 4) (ca_cons (ce_var 3) ca_nil)) (LenA.cons (LenA.cons LenA.nil))))))))) (he := (ce_var 4)) (hvs := rfl) (hts := (by decide : ∀ j ∈ ([4] : List Nat), j ∈ ([4] : List Nat))) (hP := (by decide : ∀ j ∈ ([4] : List Nat), j ∉ ([1, 1, 0, 1] : List Nat)))) (ce_lst ca_nil) (nomark _)))) (he := (ce_var 3)) (hvs := rfl) (hts := (by decide : ∀ j ∈ ([3] : List Nat), j ∈ ([3] : List Nat))) (hP := (by decide : ∀ j ∈ ([3] : List Nat), j ∉ ([1, 0, 1] : List Nat))) (n := 2) (hp := (by decide : (2 : Nat) ∉ ([0, 1] : List Nat))) (hsw := fun _ => rfl))
    (css_one (cs_ret (ce_tuple (hm := (fun _ => T.z_tuple)) (ha := (ca_cons (ce_sorted (hm := (fun _ => T.z_sorted)) (ha := (ca_cons (ce_var 2) ca_nil))) ca_nil))))))
theorem sc_law_draw : FnScope ["pen", "many", "blend", "cell", "digit"] ["pen", "many"] (defScope (top 27)) := ⟨rfl, rfl, rfl, by decide +kernel, rfl, by decide +kernel, by decide +kernel⟩
theorem ok_law_draw (T : Tx C mg base) : FnOk P w C.K mg base (L2.CX P w) 1 T.a_law_draw T.fd_law_draw ["pen", "many"] (spF C 2 m_law_draw) := by
  refine fn_ok T.F_law_draw sc_law_draw rfl rfl fun cdv A outer s H E => ?_
  exact (css_cons (cs_item 0 (ce_add (ce_ix (ce_var 0) ce_str) ce_int) ce_str)
    (css_cons (cs_if (CW.ct (cw_and (ct_cmp ok_eq eqD_ok (ce_ix (ce_var 0) ce_str) ce_int (nomark _)) (cw_and1 (ct_cmp ok_lt ltD_ok (ce_ix (ce_var 0) ce_str) (ce_len (hm := (fun _ => T.z_len)) (ha := (ca_cons (ce_ix (ce_var 0) ce_str) ca_nil))) (nomark _))))) (css_cons (cs_set (i := 3) (ce_ix (ce_ix (ce_var 0) ce_str) (ce_ix (ce_var 0) ce_str)) (by decide : (3 : Nat) ∉ ([0, 1] : List Nat)))
    (css_cons (cs_item 0 (ce_add (ce_ix (ce_var 0) ce_str) ce_int) ce_str)
    (css_one (cs_if (ct_cmp ok_ge geD_ok (ce_var 3) (ce_pow ce_int ce_int) (nomark _)) (css_one (cs_item 0 (ce_sub (ce_var 3) (ce_pow ce_int ce_int)) ce_str)) (css_one (cs_item 0 (ce_mod (ce_intOf (hm := (fun _ => T.z_int)) (ha := (ca_cons (ce_add (ce_mul (ce_ix (ce_var 0) ce_str) ce_int) (ce_var 3)) ca_nil))) ce_int) ce_str)))))) css_nil)
    (css_cons (cs_if (ct_cmp ok_gt gtD_ok (ce_ix (ce_var 0) ce_str) ce_int (nomark _)) (css_cons (cs_set (i := 4) (ce_mod (ce_intOf (hm := (fun _ => T.z_int)) (ha := (ca_cons (ce_ix (ce_var 0) ce_str) ca_nil))) (ce_var 1)) (by decide : (4 : Nat) ∉ ([0, 1] : List Nat)))
    (css_cons (cs_item 0 (ce_fdiv (ce_ix (ce_var 0) ce_str) (ce_var 1)) ce_str)
    (css_one (cs_ret (ce_var 4))))) css_nil)
    (css_cons (cs_set (i := 2) (ce_mod (ce_intOf (hm := (fun _ => T.z_int)) (ha := (ca_cons (ce_add (ce_add (ce_mul (ce_ix (ce_var 0) ce_str) ce_int) (ce_mul (ce_ix (ce_var 0) ce_str) ce_int)) ce_int) ca_nil))) ce_int) (by decide : (2 : Nat) ∉ ([0, 1] : List Nat)))
    (css_cons (cs_set (i := 2) (ce_mod (ce_intOf (hm := (fun _ => T.z_int)) (ha := (ca_cons (ce_add (ce_add (ce_mul (ce_var 2) (ce_var 2)) (ce_mul ce_int (ce_var 2))) (ce_ix (ce_var 0) ce_str)) ca_nil))) ce_int) (by decide : (2 : Nat) ∉ ([0, 1] : List Nat)))
    (css_cons (cs_item 0 (ce_mod (ce_intOf (hm := (fun _ => T.z_int)) (ha := (ca_cons (ce_add (ce_mul (ce_var 2) ce_int) ce_int) ca_nil))) ce_int) ce_str)
    (css_one (cs_ret (ce_mod (ce_intOf (hm := (fun _ => T.z_int)) (ha := (ca_cons (ce_fdiv (ce_var 2) ce_int) ca_nil))) (ce_var 1))))))))))
theorem sc_law_shuffled : FnScope ["pen", "some", "left", "found", "lap"] ["pen", "some"] (defScope (top 29)) := ⟨rfl, rfl, rfl, by decide +kernel, rfl, by decide +kernel, by decide +kernel⟩
theorem ok_law_shuffled (T : Tx C mg base) : FnOk P w C.K mg base (L2.CX P w) 2 T.a_law_shuffled T.fd_law_shuffled ["pen", "some"] (spF C 2 m_law_shuffled) := by
  refine fn_ok T.F_law_shuffled sc_law_shuffled rfl rfl fun cdv A outer s H E => ?_
  exact (css_cons (cs_par2 (i := 2) (j := 3) (ce_list (hm := (fun _ => T.z_list)) (ha := (ca_cons (ce_var 1) ca_nil))) (ce_lst ca_nil) (by decide : (2 : Nat) ∉ ([0, 1] : List Nat)) (by decide : (3 : Nat) ∉ ([0, 1] : List Nat)) (by decide))
    (css_cons (cs_for [4] (ci_range1 (fun _ => T.z_range) (ca_cons (ce_len (hm := (fun _ => T.z_len)) (ha := (ca_cons (ce_var 1) ca_nil))) ca_nil)) (cg_name (j := 4) (by decide : (4 : Nat) ∉ ([0, 1] : List Nat))) (css_one (cs_expr (ce_meth 3 append_ok PySem.F.slot_list_append PySem.F.type_list_append (fun _ => mt_append) (ca_consD (ce_meth 2 popAt_ok PySem.F.slot_list_pop PySem.F.type_list_pop (fun _ => mt_popAt) (ca_consD (ce_fn (fun _ => (ok_law_draw T).mono (Nat.le_of_ble_eq_true rfl)) (fun _ => T.m_law_draw) T.F_law_draw.kp T.b_law_draw (ca_cons (ce_var 0) (ca_cons (ce_len (hm := (fun _ => T.z_len)) (ha := (ca_cons (ce_var 2) ca_nil))) ca_nil)) (LenA.cons (LenA.cons LenA.nil))) ca_nil)) ca_nil)))))
    (css_one (cs_ret (ce_var 3)))))
theorem sc_law_pick : FnScope ["pen", "some"] ["pen", "some"] (defScope (top 28)) := ⟨rfl, rfl, rfl, by decide +kernel, rfl, by decide +kernel, by decide +kernel⟩
theorem ok_law_pick (T : Tx C mg base) : FnOk P w C.K mg base (L2.CX P w) 2 T.a_law_pick T.fd_law_pick ["pen", "some"] (spF C 2 m_law_pick) := by
  refine fn_ok T.F_law_pick sc_law_pick rfl rfl fun cdv A outer s H E => ?_
  exact (css_one (cs_ret (ce_ix (ce_var 1) (ce_fn (fun _ => (ok_law_draw T).mono (Nat.le_of_ble_eq_true rfl)) (fun _ => T.m_law_draw) T.F_law_draw.kp T.b_law_draw (ca_cons (ce_var 0) (ca_cons (ce_len (hm := (fun _ => T.z_len)) (ha := (ca_cons (ce_var 1) ca_nil))) ca_nil)) (LenA.cons (LenA.cons LenA.nil))))))
theorem sc_law_drawn_lot : FnScope ["pen", "many", "member"] ["pen", "many"] (defScope (top 44)) := ⟨rfl, rfl, rfl, by decide +kernel, rfl, by decide +kernel, by decide +kernel⟩
theorem ok_law_drawn_lot (T : Tx C mg base) : FnOk P w C.K mg base (L2.CX P w) 2 T.a_law_drawn_lot T.fd_law_drawn_lot ["pen", "many"] (spF C 2 m_law_drawn_lot) := by
  refine fn_ok T.F_law_drawn_lot sc_law_drawn_lot rfl rfl fun cdv A outer s H E => ?_
  exact (css_one (cs_ret (ce_tuple (hm := (fun _ => T.z_tuple)) (ha := (ca_cons (ce_lc (ci_range1 (fun _ => T.z_range) (ca_cons (ce_var 1) ca_nil)) (fun _ => (BlkOk.mk rfl (by decide +kernel) (by decide +kernel) (by decide +kernel) (by decide +kernel) : BlkOk ["pen", "many", "member"] (defScope (top 44)) _ [("member", 2)])) (cg_name (j := 2) (by decide : (2 : Nat) ∉ ([0, 1] : List Nat))) (cts_one (ct_cmp ok_eq eqD_ok (ce_fn (fun _ => (ok_law_draw T).mono (Nat.le_of_ble_eq_true rfl)) (fun _ => T.m_law_draw) T.F_law_draw.kp T.b_law_draw (ca_cons (ce_var 0) (ca_cons ce_int ca_nil)) (LenA.cons (LenA.cons LenA.nil))) ce_int (nomark _))) (ce_var 2) rfl (by decide : ∀ j ∈ ([2] : List Nat), j ∈ ([2] : List Nat)) (by decide : ∀ j ∈ ([2] : List Nat), j ∉ ([0, 1] : List Nat))) ca_nil)))))
theorem sc_law_any_book : FnScope ["pen", "many", "size", "lots", "lap", "some", "at"] ["pen", "many"] (defScope (top 45)) := ⟨rfl, rfl, rfl, by decide +kernel, rfl, by decide +kernel, by decide +kernel⟩
theorem ok_law_any_book (T : Tx C mg base) : FnOk P w C.K mg base (L2.CX P w) 3 T.a_law_any_book T.fd_law_any_book ["pen", "many"] (spF C 2 m_law_any_book) := by
  refine fn_ok T.F_law_any_book sc_law_any_book rfl rfl fun cdv A outer s H E => ?_
  exact (css_cons (cs_parT (i := 2) (j := 3) (ce_add ce_int (ce_fn (fun _ => (ok_law_draw T).mono (Nat.le_of_ble_eq_true rfl)) (fun _ => T.m_law_draw) T.F_law_draw.kp T.b_law_draw (ca_cons (ce_var 0) (ca_cons (ce_var 1) ca_nil)) (LenA.cons (LenA.cons LenA.nil)))) (ce_lst (ca_consD (ce_fn (fun _ => (ok_law_drawn_lot T).mono (Nat.le_of_ble_eq_true rfl)) (fun _ => T.m_law_drawn_lot) T.F_law_drawn_lot.kp T.b_law_drawn_lot (ca_cons (ce_var 0) (ca_cons (ce_var 1) ca_nil)) (LenA.cons (LenA.cons LenA.nil))) ca_nil)) (by decide : (2 : Nat) ∉ ([0, 1] : List Nat)) (by decide : (3 : Nat) ∉ ([0, 1] : List Nat)))
    (css_cons (cs_for [4, 5] (ci_range1 (fun _ => T.z_range) (ca_cons (ce_add ce_int (ce_fn (fun _ => (ok_law_draw T).mono (Nat.le_of_ble_eq_true rfl)) (fun _ => T.m_law_draw) T.F_law_draw.kp T.b_law_draw (ca_cons (ce_var 0) (ca_cons ce_int ca_nil)) (LenA.cons (LenA.cons LenA.nil)))) ca_nil)) (cg_name (j := 4) (by decide : (4 : Nat) ∉ ([0, 1] : List Nat))) (css_cons (cs_set (i := 5) (ce_min2 (hm := (fun _ => T.z_min)) (ha := (ca_cons (ce_var 1) (ca_cons (ce_add (ce_var 2) (ce_fn (fun _ => (ok_law_pick T).mono (Nat.le_of_ble_eq_true rfl)) (fun _ => T.m_law_pick) T.F_law_pick.kp T.b_law_pick (ca_cons (ce_var 0) (ca_cons (ce_lst (ca_consD ce_int (ca_consD ce_int (ca_consD ce_int (ca_consD ce_int ca_nil))))) ca_nil)) (LenA.cons (LenA.cons LenA.nil)))) ca_nil)))) (by decide : (5 : Nat) ∉ ([0, 1] : List Nat)))
    (css_one (cs_expr (ce_meth 3 append_ok PySem.F.slot_list_append PySem.F.type_list_append (fun _ => mt_append) (ca_consD (ce_tuple (hm := (fun _ => T.z_tuple)) (ha := (ca_cons (ce_sorted (hm := (fun _ => T.z_sorted)) (ha := (ca_cons (ce_slice (ce_fn (fun _ => (ok_law_shuffled T).mono (Nat.le_of_ble_eq_true rfl)) (fun _ => T.m_law_shuffled) T.F_law_shuffled.kp T.b_law_shuffled (ca_cons (ce_var 0) (ca_cons (ce_listRg (fun _ => T.z_list) (crg_1 (fun _ => T.z_range) (ce_var 1))) ca_nil)) (LenA.cons (LenA.cons LenA.nil))) cp_none (cp_some (ce_var 5))) ca_nil))) ca_nil))) ca_nil))))))
    (css_cons (cs_set (i := 3) (ce_ifExp (ct_cmp ok_gt gtD_ok (ce_fn (fun _ => (ok_law_draw T).mono (Nat.le_of_ble_eq_true rfl)) (fun _ => T.m_law_draw) T.F_law_draw.kp T.b_law_draw (ca_cons (ce_var 0) (ca_cons ce_int ca_nil)) (LenA.cons (LenA.cons LenA.nil))) ce_int (nomark _)) (ce_slice (ce_var 3) (cp_some ce_int) cp_none) (ce_var 3)) (by decide : (3 : Nat) ∉ ([0, 1] : List Nat)))
    (css_cons (cs_set (i := 3) (ce_lc (ci_range1 (fun _ => T.z_range) (ca_cons (ce_len (hm := (fun _ => T.z_len)) (ha := (ca_cons (ce_var 3) ca_nil))) ca_nil)) (fun _ => (BlkOk.mk rfl (by decide +kernel) (by decide +kernel) (by decide +kernel) (by decide +kernel) : BlkOk ["pen", "many", "size", "lots", "lap", "some", "at"] (defScope (top 45)) _ [("at", 6)])) (cg_name (j := 6) (by decide : (6 : Nat) ∉ ([0, 1] : List Nat))) (cts_one (ct_cmp ok_notIn notInS_ok (ce_ix (ce_var 3) (ce_var 6)) (ce_slice (ce_var 3) cp_none (cp_some (ce_var 6))) (by with_unfolding_all rfl))) (ce_ix (ce_var 3) (ce_var 6)) rfl (by decide : ∀ j ∈ ([6] : List Nat), j ∈ ([6] : List Nat)) (by decide : ∀ j ∈ ([6] : List Nat), j ∉ ([0, 1] : List Nat))) (by decide : (3 : Nat) ∉ ([0, 1] : List Nat)))
    (css_one (cs_ret (ce_tup (ca_consD (ce_var 1) (ca_consD (ce_fn (fun _ => (ok_law_least_lots T).mono (Nat.le_of_ble_eq_true rfl)) (fun _ => T.m_law_least_lots) T.F_law_least_lots.kp T.b_law_least_lots (ca_cons (ce_var 1) (ca_cons (ce_var 3) ca_nil)) (LenA.cons (LenA.cons LenA.nil))) ca_nil)))))))))
theorem sc_law_weighed_book : FnScope ["weights", "quota"] ["weights", "quota"] (defScope (top 38)) := ⟨rfl, rfl, rfl, by decide +kernel, rfl, by decide +kernel, by decide +kernel⟩
theorem ok_law_weighed_book (T : Tx C mg base) : FnOk P w C.K mg base (L2.CX P w) 5 T.a_law_weighed_book T.fd_law_weighed_book ["weights", "quota"] (spF C 2 m_law_weighed_book) := by
  refine fn_okC T.F_law_weighed_book T.Q_law_weighed_book sc_law_weighed_book rfl rfl fun A outer s H E => ?_
  exact (css_one (cs_ret (ce_fnL (jy := [(1, "quota"), (0, "weights")]) (fun _ => (ok_law_book_by T).mono (Nat.le_of_ble_eq_true rfl)) (fun _ => T.m_law_book_by) T.F_law_book_by.kp T.b_law_book_by (cl_cons (ce_len (hm := (fun _ => T.z_len)) (ha := (ca_cons (ce_var 0) ca_nil))) (cl_lam (id := 0) (js := [1, 0]) ((congrFun T.hL 0).trans rfl) T.tp_law_weighed_book T.tu_law_weighed_book (fun _ => ⟨T.tb_law_weighed_book, rfl, rfl, rfl⟩) cl_nil (fun _ => free_of (sc := defScope (top 38)) (by decide +kernel)))) (LamsOk.cons (LamsOk.lam (by rw [congrFun T.hL 0]; decide +kernel) LamsOk.nil)) (fun _ => jy_of (N := ["weights", "quota"]) (sc := defScope (top 38)) (by decide +kernel)))))
theorem sc_law_drawn_weights : FnScope ["pen", "many", "top", "weights", "member"] ["pen", "many"] (defScope (top 43)) := ⟨rfl, rfl, rfl, by decide +kernel, rfl, by decide +kernel, by decide +kernel⟩
theorem ok_law_drawn_weights (T : Tx C mg base) : FnOk P w C.K mg base (L2.CX P w) 3 T.a_law_drawn_weights T.fd_law_drawn_weights ["pen", "many"] (spF C 2 m_law_drawn_weights) := by
  refine fn_ok T.F_law_drawn_weights sc_law_drawn_weights rfl rfl fun cdv A outer s H E => ?_
  exact (css_cons (cs_set (i := 2) (ce_fn (fun _ => (ok_law_pick T).mono (Nat.le_of_ble_eq_true rfl)) (fun _ => T.m_law_pick) T.F_law_pick.kp T.b_law_pick (ca_cons (ce_var 0) (ca_cons (ce_lst (ca_consD ce_int (ca_consD ce_int (ca_consD ce_int (ca_consD ce_int ca_nil))))) ca_nil)) (LenA.cons (LenA.cons LenA.nil))) (by decide : (2 : Nat) ∉ ([0, 1] : List Nat)))
    (css_cons (cs_set (i := 3) (ce_tuple (hm := (fun _ => T.z_tuple)) (ha := (ca_cons (ce_lc (ci_range1 (fun _ => T.z_range) (ca_cons (ce_var 1) ca_nil)) (fun _ => (BlkOk.mk rfl (by decide +kernel) (by decide +kernel) (by decide +kernel) (by decide +kernel) : BlkOk ["pen", "many", "top", "weights", "member"] (defScope (top 43)) _ [("member", 4)])) (cg_name (j := 4) (by decide : (4 : Nat) ∉ ([0, 1] : List Nat))) cts_nil (ce_fn (fun _ => (ok_law_draw T).mono (Nat.le_of_ble_eq_true rfl)) (fun _ => T.m_law_draw) T.F_law_draw.kp T.b_law_draw (ca_cons (ce_var 0) (ca_cons (ce_add (ce_var 2) ce_int) ca_nil)) (LenA.cons (LenA.cons LenA.nil))) rfl (by decide : ∀ j ∈ ([4] : List Nat), j ∈ ([4] : List Nat)) (by decide : ∀ j ∈ ([4] : List Nat), j ∉ ([0, 1] : List Nat))) ca_nil))) (by decide : (3 : Nat) ∉ ([0, 1] : List Nat)))
    (css_one (cs_ret (ce_tup (ca_consD (ce_var 3) (ca_consD (ce_fn (fun _ => (ok_law_draw T).mono (Nat.le_of_ble_eq_true rfl)) (fun _ => T.m_law_draw) T.F_law_draw.kp T.b_law_draw (ca_cons (ce_var 0) (ca_cons (ce_add (ce_sumQ (hm := (fun _ => T.z_sum)) (ha := (ca_cons (ce_var 3) ca_nil))) ce_int) ca_nil)) (LenA.cons (LenA.cons LenA.nil))) ca_nil)))))))
theorem sc_law_drawn_book : FnScope ["pen", "many", "way", "one", "other", "weights", "quota"] ["pen", "many"] (defScope (top 46)) := ⟨rfl, rfl, rfl, by decide +kernel, rfl, by decide +kernel, by decide +kernel⟩
theorem ok_law_drawn_book (T : Tx C mg base) : FnOk P w C.K mg base (L2.CX P w) 6 T.a_law_drawn_book T.fd_law_drawn_book ["pen", "many"] (spF C 2 m_law_drawn_book) := by
  refine fn_ok T.F_law_drawn_book sc_law_drawn_book rfl rfl fun cdv A outer s H E => ?_
  exact (css_cons (cs_set (i := 2) (ce_fn (fun _ => (ok_law_draw T).mono (Nat.le_of_ble_eq_true rfl)) (fun _ => T.m_law_draw) T.F_law_draw.kp T.b_law_draw (ca_cons (ce_var 0) (ca_cons ce_int ca_nil)) (LenA.cons (LenA.cons LenA.nil))) (by decide : (2 : Nat) ∉ ([0, 1] : List Nat)))
    (css_cons (cs_if (ct_cmp ok_lt ltD_ok (ce_var 2) ce_int (nomark _)) (css_cons (cs_asgT (ce_fn (fun _ => (ok_law_drawn_weights T).mono (Nat.le_of_ble_eq_true rfl)) (fun _ => T.m_law_drawn_weights) T.F_law_drawn_weights.kp T.b_law_drawn_weights (ca_cons (ce_var 0) (ca_cons (ce_var 1) ca_nil)) (LenA.cons (LenA.cons LenA.nil))) (cg_tup (n := 2) (cgs_cons (cg_name (j := 5) (by decide : (5 : Nat) ∉ ([0, 1] : List Nat))) (cgs_cons (cg_name (j := 6) (by decide : (6 : Nat) ∉ ([0, 1] : List Nat))) cgs_nil))))
    (css_one (cs_ret (ce_fn (fun _ => (ok_law_weighed_book T).mono (Nat.le_of_ble_eq_true rfl)) (fun _ => T.m_law_weighed_book) T.F_law_weighed_book.kp T.b_law_weighed_book (ca_cons (ce_var 5) (ca_cons (ce_var 6) ca_nil)) (LenA.cons (LenA.cons LenA.nil)))))) css_nil)
    (css_cons (cs_if (ct_cmp ok_lt ltD_ok (ce_var 2) ce_int (nomark _)) (css_one (cs_ret (ce_fn (fun _ => (ok_law_any_book T).mono (Nat.le_of_ble_eq_true rfl)) (fun _ => T.m_law_any_book) T.F_law_any_book.kp T.b_law_any_book (ca_cons (ce_var 0) (ca_cons (ce_var 1) ca_nil)) (LenA.cons (LenA.cons LenA.nil))))) css_nil)
    (css_cons (cs_if (ct_cmp ok_eq eqD_ok (ce_var 2) ce_int (nomark _)) (css_one (cs_ret (ce_fn (fun _ => (ok_law_pick T).mono (Nat.le_of_ble_eq_true rfl)) (fun _ => T.m_law_pick) T.F_law_pick.kp T.b_law_pick (ca_cons (ce_var 0) (ca_cons (ce_lst (ca_consD (ce_tup (ca_consD (ce_var 1) (ca_consD (ce_tup ca_nil) ca_nil))) (ca_consD (ce_tup (ca_consD (ce_var 1) (ca_consD (ce_tup (ca_consD (ce_tup ca_nil) ca_nil)) ca_nil))) (ca_consD (ce_tup (ca_consD (ce_var 1) (ca_consD (ce_tup (ca_consD (ce_tupRg (fun _ => T.z_tuple) (crg_1 (fun _ => T.z_range) (ce_var 1))) ca_nil)) ca_nil))) ca_nil)))) ca_nil)) (LenA.cons (LenA.cons LenA.nil))))) css_nil)
    (css_cons (cs_par2 (i := 3) (j := 4) (ce_fn (fun _ => (ok_law_any_book T).mono (Nat.le_of_ble_eq_true rfl)) (fun _ => T.m_law_any_book) T.F_law_any_book.kp T.b_law_any_book (ca_cons (ce_var 0) (ca_cons (ce_var 1) ca_nil)) (LenA.cons (LenA.cons LenA.nil))) (ce_fn (fun _ => (ok_law_any_book T).mono (Nat.le_of_ble_eq_true rfl)) (fun _ => T.m_law_any_book) T.F_law_any_book.kp T.b_law_any_book (ca_cons (ce_var 0) (ca_cons (ce_var 1) ca_nil)) (LenA.cons (LenA.cons LenA.nil))) (by decide : (3 : Nat) ∉ ([0, 1] : List Nat)) (by decide : (4 : Nat) ∉ ([0, 1] : List Nat)) (by decide))
    (css_one (cs_ret (ce_ifExp (ct_cmp ok_eq eqD_ok (ce_var 2) ce_int (nomark _)) (ce_fn (fun _ => (ok_law_meet T).mono (Nat.le_of_ble_eq_true rfl)) (fun _ => T.m_law_meet) T.F_law_meet.kp T.b_law_meet (ca_cons (ce_var 3) (ca_cons (ce_var 4) ca_nil)) (LenA.cons (LenA.cons LenA.nil))) (ce_fn (fun _ => (ok_law_join T).mono (Nat.le_of_ble_eq_true rfl)) (fun _ => T.m_law_join) T.F_law_join.kp T.b_law_join (ca_cons (ce_var 3) (ca_cons (ce_var 4) ca_nil)) (LenA.cons (LenA.cons LenA.nil)))))))))))
theorem sc_law_pen : FnScope ["script", "fold", "cell"] ["script"] (defScope (top 26)) := ⟨rfl, rfl, rfl, by decide +kernel, rfl, by decide +kernel, by decide +kernel⟩
theorem ok_law_pen (T : Tx C mg base) : FnOk P w C.K mg base (L2.CX P w) 1 T.a_law_pen T.fd_law_pen ["script"] (spF C 1 m_law_pen) := by
  refine fn_ok T.F_law_pen sc_law_pen rfl rfl fun cdv A outer s H E => ?_
  exact (css_cons (cs_set (i := 1) ce_int (by decide : (1 : Nat) ∉ ([0] : List Nat)))
    (css_cons (cs_forB 0 (fg := [2]) (hg := (cg_name (j := 2) (by decide : (2 : Nat) ∉ ([0, 0] : List Nat)))) (hb := (css_one (cs_set (i := 1) (ce_mod (ce_intOf (hm := (fun _ => T.z_int)) (ha := (ca_cons (ce_add (ce_mul (ce_var 1) ce_int) (ce_var 2)) ca_nil))) ce_int) (by decide : (1 : Nat) ∉ ([0, 0] : List Nat))))))
    (css_one (cs_ret (ce_disp (cdp_str (ce_list (hm := (fun _ => T.z_list)) (ha := (ca_cons (ce_var 0) ca_nil))) (cdp_str ce_int (cdp_str ce_int (cdp_str ce_int (cdp_str (ce_var 1) cdp_nil))))))))))
theorem sc_law : FnScope ["script", "pen", "lap", "many", "book", "made", "told", "lot", "one", "member"] ["script"] (defScope (top 49)) := ⟨rfl, rfl, rfl, by decide +kernel, rfl, by decide +kernel, by decide +kernel⟩
theorem ok_law (T : Tx C mg base) : FnOk P w C.K mg base (L2.CX P w) 7 T.a_law T.fd_law ["script"] (spF C 1 m_law) := by
  refine fn_ok T.F_law sc_law rfl rfl fun cdv A outer s H E => ?_
  exact (css_cons (cs_set (i := 1) (ce_fn (fun _ => (ok_law_pen T).mono (Nat.le_of_ble_eq_true rfl)) (fun _ => T.m_law_pen) T.F_law_pen.kp T.b_law_pen (ca_cons (ce_var 0) ca_nil) (LenA.cons LenA.nil)) (by decide : (1 : Nat) ∉ ([0] : List Nat)))
    (css_cons (cs_for [2, 3, 4, 5, 6, 8, 9] (ci_range1 (fun _ => T.z_range) (ca_cons ce_int ca_nil)) (cg_name (j := 2) (by decide : (2 : Nat) ∉ ([0] : List Nat))) (css_cons (cs_set (i := 3) (ce_add ce_int (ce_fn (fun _ => (ok_law_draw T).mono (Nat.le_of_ble_eq_true rfl)) (fun _ => T.m_law_draw) T.F_law_draw.kp T.b_law_draw (ca_cons (ce_var 1) (ca_cons ce_int ca_nil)) (LenA.cons (LenA.cons LenA.nil)))) (by decide : (3 : Nat) ∉ ([0] : List Nat)))
    (css_cons (cs_set (i := 4) (ce_fn (fun _ => (ok_law_drawn_book T).mono (Nat.le_of_ble_eq_true rfl)) (fun _ => T.m_law_drawn_book) T.F_law_drawn_book.kp T.b_law_drawn_book (ca_cons (ce_var 1) (ca_cons (ce_var 3) ca_nil)) (LenA.cons (LenA.cons LenA.nil))) (by decide : (4 : Nat) ∉ ([0] : List Nat)))
    (css_cons (cs_set (i := 5) (ce_fn (fun _ => (ok_law_made T).mono (Nat.le_of_ble_eq_true rfl)) (fun _ => T.m_law_made) T.F_law_made.kp T.b_law_made (ca_cons (ce_var 4) ca_nil) (LenA.cons LenA.nil)) (by decide : (5 : Nat) ∉ ([0] : List Nat)))
    (css_cons (cs_set (i := 6) (ce_fn (fun _ => (ok_dual T).mono (Nat.le_of_ble_eq_true rfl)) (fun _ => T.m_dual) T.F_dual.kp T.b_dual (ca_cons (ce_var 5) ca_nil) (LenA.cons LenA.nil)) (by decide : (6 : Nat) ∉ ([0] : List Nat)))
    (css_cons (cs_if (CW.ct (cw_or (ct_not (ct_tru (ce_fn (fun _ => (ok_law_is T 4).mono (Nat.le_of_ble_eq_true rfl)) (fun _ => T.m_law_is) T.F_law_is.kp T.b_law_is (ca_cons (ce_fn (fun _ => (ok_law_plain T).mono (Nat.le_of_ble_eq_true rfl)) (fun _ => T.m_law_plain) T.F_law_plain.kp T.b_law_plain (ca_cons (ce_var 6) ca_nil) (LenA.cons LenA.nil)) (ca_cons (ce_fn (fun _ => (ok_law_dual T).mono (Nat.le_of_ble_eq_true rfl)) (fun _ => T.m_law_dual) T.F_law_dual.kp T.b_law_dual (ca_cons (ce_var 4) ca_nil) (LenA.cons LenA.nil)) ca_nil)) (LenA.cons (LenA.cons LenA.nil))))) (cw_or (ct_cmpO ok_ne neD_ok (fun _ _ => rfl) (fun c m h => ownNe_ok (P := P) (w := w) (base := base) T (Nat.le_of_ble_eq_true rfl) c m h) (fun _ => ⟨rfl, rfl, rfl, rfl⟩) (ce_fn (fun _ => (ok_dual T).mono (Nat.le_of_ble_eq_true rfl)) (fun _ => T.m_dual) T.F_dual.kp T.b_dual (ca_cons (ce_var 6) ca_nil) (LenA.cons LenA.nil)) (ce_var 5) (nomark _)) (cw_or1 (ct_not (ct_tru (ce_fn (fun _ => (ok_law_is T 4).mono (Nat.le_of_ble_eq_true rfl)) (fun _ => T.m_law_is) T.F_law_is.kp T.b_law_is (ca_cons (ce_fn (fun _ => (ok_law_plain T).mono (Nat.le_of_ble_eq_true rfl)) (fun _ => T.m_law_plain) T.F_law_plain.kp T.b_law_plain (ca_cons (ce_var 5) ca_nil) (LenA.cons LenA.nil)) (ca_cons (ce_var 4) ca_nil)) (LenA.cons (LenA.cons LenA.nil))))))))) (css_one (cs_ret ce_bl)) css_nil)
    (css_cons (cs_if (CW.ct (cw_or (ct_cmp ok_ne neD_ok (ce_sorted (hm := (fun _ => T.z_sorted)) (ha := (ca_cons (ce_lc (ci_val (ce_fld ["Book"] T.n_least (ce_var 6))) (fun _ => (BlkOk.mk rfl (by decide +kernel) (by decide +kernel) (by decide +kernel) (by decide +kernel) : BlkOk ["script", "pen", "lap", "many", "book", "made", "told", "lot", "one", "member"] (defScope (top 49)) _ [("lot", 7)])) (cg_name (j := 7) (by decide : (7 : Nat) ∉ ([0] : List Nat))) cts_nil (ce_fn (fun _ => (ok_rest_of T).mono (Nat.le_of_ble_eq_true rfl)) (fun _ => T.m_rest_of) T.F_rest_of.kp T.b_rest_of (ca_cons (ce_var 3) (ca_cons (ce_var 7) ca_nil)) (LenA.cons (LenA.cons LenA.nil))) rfl (by decide : ∀ j ∈ ([7] : List Nat), j ∈ ([7] : List Nat)) (by decide : ∀ j ∈ ([7] : List Nat), j ∉ ([0] : List Nat))) ca_nil))) (ce_list (hm := (fun _ => T.z_list)) (ha := (ca_cons (ce_fn (fun _ => (ok_failing T).mono (Nat.le_of_ble_eq_true rfl)) (fun _ => T.m_failing) T.F_failing.kp T.b_failing (ca_cons (ce_var 5) ca_nil) (LenA.cons LenA.nil)) ca_nil))) (nomark _)) (cw_or1 (ct_cmp ok_ne neD_ok (ce_add (ce_fn (fun _ => (ok_how_many T).mono (Nat.le_of_ble_eq_true rfl)) (fun _ => T.m_how_many) T.F_how_many.kp T.b_how_many (ca_cons (ce_var 5) ca_nil) (LenA.cons LenA.nil)) (ce_fn (fun _ => (ok_how_many T).mono (Nat.le_of_ble_eq_true rfl)) (fun _ => T.m_how_many) T.F_how_many.kp T.b_how_many (ca_cons (ce_var 6) ca_nil) (LenA.cons LenA.nil))) (ce_len (hm := (fun _ => T.z_len)) (ha := (ca_cons (ce_fn (fun _ => (ok_law_all_lots T).mono (Nat.le_of_ble_eq_true rfl)) (fun _ => T.m_law_all_lots) T.F_law_all_lots.kp T.b_law_all_lots (ca_cons (ce_var 3) ca_nil) (LenA.cons LenA.nil)) ca_nil))) (nomark _))))) (css_one (cs_ret ce_bl)) css_nil)
    (css_cons (cs_for [] (ci_val (ce_slice (ce_fn (fun _ => (ok_law_all_lots T).mono (Nat.le_of_ble_eq_true rfl)) (fun _ => T.m_law_all_lots) T.F_law_all_lots.kp T.b_law_all_lots (ca_cons (ce_var 3) ca_nil) (LenA.cons LenA.nil)) cp_none (cp_some ce_int))) (cg_name (j := 7) (by decide : (7 : Nat) ∉ ([0] : List Nat))) (css_one (cs_if (ct_not (ct_tru (ce_fn (fun _ => (ok_law_is T 4).mono (Nat.le_of_ble_eq_true rfl)) (fun _ => T.m_law_is) T.F_law_is.kp T.b_law_is (ca_cons (ce_fn (fun _ => (ok_carries T).mono (Nat.le_of_ble_eq_true rfl)) (fun _ => T.m_carries) T.F_carries.kp T.b_carries (ca_cons (ce_var 6) (ca_cons (ce_var 7) ca_nil)) (LenA.cons (LenA.cons LenA.nil))) (ca_cons (ce_not (ce_fn (fun _ => (ok_carries T).mono (Nat.le_of_ble_eq_true rfl)) (fun _ => T.m_carries) T.F_carries.kp T.b_carries (ca_cons (ce_var 5) (ca_cons (ce_fn (fun _ => (ok_rest_of T).mono (Nat.le_of_ble_eq_true rfl)) (fun _ => T.m_rest_of) T.F_rest_of.kp T.b_rest_of (ca_cons (ce_var 3) (ca_cons (ce_var 7) ca_nil)) (LenA.cons (LenA.cons LenA.nil))) ca_nil)) (LenA.cons (LenA.cons LenA.nil)))) ca_nil)) (LenA.cons (LenA.cons LenA.nil))))) (css_one (cs_ret ce_bl)) css_nil)))
    (css_one (cs_for [8, 9] (ci_val (ce_fld ["Book"] T.n_least (ce_var 6))) (cg_name (j := 7) (by decide : (7 : Nat) ∉ ([0] : List Nat))) (css_one (cs_if (ct_cmp ok_ne neD_ok (ce_lc (ci_val (ce_ix (ce_var 4) ce_int)) (fun _ => (BlkOk.mk rfl (by decide +kernel) (by decide +kernel) (by decide +kernel) (by decide +kernel) : BlkOk ["script", "pen", "lap", "many", "book", "made", "told", "lot", "one", "member"] (defScope (top 49)) _ [("one", 8)])) (cg_name (j := 8) (by decide : (8 : Nat) ∉ ([0] : List Nat))) (cts_one (ct_cmp ok_eq eqD_ok (ce_lcB 8 (ok := (fun _ => (BlkOk.mk rfl (by decide +kernel) (by decide +kernel) (by decide +kernel) (by decide +kernel) : BlkOk ["script", "pen", "lap", "many", "book", "made", "told", "lot", "one", "member"] (relS _ (defScope (top 49))) _ [("member", 9)]))) (hg := (cg_name (j := 9) (by decide : (9 : Nat) ∉ ([8, 0] : List Nat)))) (ht := (cts_one (ct_cmp ok_in inS_ok (ce_var 9) (ce_var 7) (by with_unfolding_all rfl)))) (he := (ce_var 9)) (hvs := rfl) (hts := (by decide : ∀ j ∈ ([9] : List Nat), j ∈ ([9] : List Nat))) (hP := (by decide : ∀ j ∈ ([9] : List Nat), j ∉ ([8, 0] : List Nat)))) (ce_lst ca_nil) (nomark _))) (ce_var 8) rfl (by decide : ∀ j ∈ ([8] : List Nat), j ∈ ([8] : List Nat)) (by decide : ∀ j ∈ ([8] : List Nat), j ∉ ([0] : List Nat))) (ce_lst ca_nil) (nomark _)) (css_one (cs_ret ce_bl)) css_nil))))))))))))
    (css_one (cs_ret ce_bl))))
end
end k03
end DL
namespace DL
open PySem L2

/-! ## how mirrors are run -/
section
variable {α β : Type} {i j : Nat} {ρ : Env} {d e : D} {x y : XV} {f g h : Env → R XV} {a b : SV}
@[simp] theorem s_bind {k : α → Env → R β} {u : α} : (R.ok u ρ).bind k = k u ρ := rfl
@[simp] theorem s_bindX {k : α → Env → R β} {c : String} {ns vs} : (R.exc c ns vs ρ : R α).bind k = .exc c ns vs ρ := rfl
@[simp] theorem s_bindS {k : α → Env → R β} : (R.stuck : R α).bind k = .stuck := rfl
@[simp] theorem s_at0 : Env.at (a :: ρ) 0 = a := rfl
@[simp] theorem s_atS {n : Nat} : Env.at (a :: ρ) (n + 1) = Env.at ρ n := at_cons a ρ n
@[simp] theorem s_getS : getS i ρ = (match ρ.at i with
  | .dat d => .ok (.dat d) ρ
  | .own _ => .ok (.slot i) ρ
  | .brw _ => .ok (.slot i) ρ
  | .clo _ _ => .ok (.slot i) ρ
  | _ => .stuck) := rfl
@[simp] theorem s_const : constS d ρ = .ok (.dat d) ρ := rfl
@[simp] theorem s_opnd : opnd f ρ = (f ρ).bind fun x ρ => (match x with
  | .own d => .ok (.dat d) ρ
  | x => .ok x ρ) := rfl
@[simp] theorem s_valS : valS f ρ = (f ρ).bind frzX := rfl
@[simp] theorem s_frzD : frzX (.dat d) ρ = .ok d ρ := rfl
@[simp] theorem s_frzO : frzX (.own d) ρ = .ok d ρ := rfl
@[simp] theorem s_frzS : frzX (.slot i) ρ = (match ρ.at i with
    | .own d => .ok d (ρ.set i (.dat d))
    | _ => .stuck) := rfl
@[simp] theorem s_contD : cont ρ (.dat d) = some d := rfl
@[simp] theorem s_contO : cont ρ (.own d) = some d := rfl
@[simp] theorem s_contS : cont ρ (.slot i) = (match ρ.at i with
    | .own d => some d
    | .brw d => some d
    | _ => none) := rfl
@[simp] theorem s_op2 {op} : op2S op f g ρ = (opnd f ρ).bind fun x ρ => (opnd g ρ).bind fun y ρ => app2 op x y ρ := rfl
@[simp] theorem s_op1 {op} : op1S op f ρ = (opnd f ρ).bind fun x ρ => app1 op x ρ := rfl
@[simp] theorem s_app2 {op} : app2 op x y ρ = (match cont ρ x, cont ρ y with
  | some d, some e => match op d e with
    | some z => .ok z ρ
    | none => .stuck
  | _, _ => .stuck) := rfl
@[simp] theorem s_app1 {op} : app1 op x ρ = (match cont ρ x with
  | some d => match op d with
    | some z => .ok z ρ
    | none => .stuck
  | _ => .stuck) := rfl
@[simp] theorem s_test : testS f ρ = (f ρ).bind fun x ρ => (match x with
  | .dat (.bl b) => .ok b ρ
  | _ => .stuck) := rfl
@[simp] theorem s_chain {p q} : chainS p q f g h ρ = (opnd f ρ).bind fun x ρ => (opnd g ρ).bind fun y ρ => (app2 p x y ρ).bind fun z ρ => (match z with
  | .dat (.bl true) => (opnd h ρ).bind fun w ρ => app2 q y w ρ
  | .dat (.bl false) => .ok (.dat (.bl false)) ρ
  | _ => .stuck) := rfl
variable {s t : Env → R Bool}
@[simp] theorem s_andT : andT s t ρ = (s ρ).bind fun b ρ => if b = true then t ρ else .ok false ρ := rfl
@[simp] theorem s_orT : orT s t ρ = (s ρ).bind fun b ρ => if b = true then .ok true ρ else t ρ := rfl
@[simp] theorem s_notT : notT s ρ = (s ρ).bind fun b ρ => .ok (!b) ρ := rfl
@[simp] theorem s_tru : truS f ρ = (opnd f ρ).bind fun x ρ => (match cont ρ x with
  | some d => match truD d with
    | some b => .ok b ρ
    | none => .stuck
  | none => .stuck) := rfl
@[simp] theorem s_truN : truD .non = some false := rfl
@[simp] theorem s_truB {b} : truD (.bl b) = some b := rfl
@[simp] theorem s_truI {i} : truD (.int i) = some (i != 0) := rfl
@[simp] theorem s_truT {l} : truD (.tup l) = some (!l.isEmpty) := rfl
@[simp] theorem s_truL {l} : truD (.lst l) = some (!l.isEmpty) := rfl
@[simp] theorem s_truR {l} : truD (.rol l) = some (!l.isEmpty) := rfl
@[simp] theorem s_andS : andS f g ρ = (f ρ).bind fun x ρ => (match x with
  | .dat (.bl true) => g ρ
  | .dat (.bl false) => .ok (.dat (.bl false)) ρ
  | _ => .stuck) := rfl
@[simp] theorem s_orS : orS f g ρ = (f ρ).bind fun x ρ => (match x with
  | .dat (.bl true) => .ok (.dat (.bl true)) ρ
  | .dat (.bl false) => g ρ
  | _ => .stuck) := rfl
@[simp] theorem s_notS : notS f ρ = (f ρ).bind fun x ρ => (match x with
  | .dat (.bl b) => .ok (.dat (.bl (!b))) ρ
  | _ => .stuck) := rfl
@[simp] theorem s_ifS : ifS t f g ρ = (t ρ).bind fun b ρ => if b = true then f ρ else g ρ := rfl
variable {fs : Env → R (List XV)}
@[simp] theorem s_consS : consS f fs ρ = (opnd f ρ).bind fun x ρ => (fs ρ).bind fun xs ρ => .ok (x :: xs) ρ := rfl
@[simp] theorem s_nilS : nilS ρ = .ok [] ρ := rfl
@[simp] theorem s_consD : consD f fs ρ = (valS f ρ).bind fun d ρ => (fs ρ).bind fun xs ρ => .ok (.dat d :: xs) ρ := rfl
@[simp] theorem s_call {op} : callS op fs ρ = (fs ρ).bind fun xs ρ => appN op xs ρ := rfl
@[simp] theorem s_appN {op} {xs} : appN op xs ρ = (match conts ρ xs with
  | some ds => match op ds with
    | some z => .ok z ρ
    | none => .stuck
  | _ => .stuck) := rfl
@[simp] theorem s_conts0 : conts ρ [] = some [] := rfl
@[simp] theorem s_contsC {xs} : conts ρ (x :: xs) = (match cont ρ x, conts ρ xs with
    | some d, some ds => some (d :: ds)
    | _, _ => none) := rfl
@[simp] theorem LIM_eq : LIM = 1000000 := rfl
/-! operations -/
variable {m n : Int} {l k : List D}
@[simp] theorem s_addI : addD (.int m) (.int n) = some (.dat (.int (m + n))) := rfl
@[simp] theorem s_addL : addD (.lst l) (.lst k) = if l.length + k.length ≤ LIM then some (.own (.lst (l ++ k))) else none := by
  unfold addD addI catD catT catS; dsimp only; split <;> rfl
@[simp] theorem s_addT : addD (.tup l) (.tup k) = if l.length + k.length ≤ LIM then some (.dat (.tup (l ++ k))) else none := by
  unfold addD addI catD catT catS; dsimp only; split <;> rfl
@[simp] theorem s_sub : subD (.int m) (.int n) = some (.dat (.int (m - n))) := rfl
@[simp] theorem s_mulI : mulD (.int m) (.int n) = if m.natAbs.log2 + n.natAbs.log2 < 1000000 then some (.dat (.int (m * n))) else none := by
  unfold mulD mulI repD repT; dsimp only; split <;> rfl
@[simp] theorem s_mulL : mulD (.lst l) (.int n) = if n.natAbs ≤ 1000000 ∧ l.length * n.toNat ≤ LIM then some (.own (.lst (List.replicate n.toNat l).flatten)) else none := by
  unfold mulD mulI repD repT; dsimp only; split <;> rfl
@[simp] theorem s_mulT : mulD (.tup l) (.int n) = if 2 ≤ n ∧ n.natAbs ≤ 1000 ∧ l.length ≤ 1000 ∧ l.isEmpty = false then some (.dat (.tup (List.replicate n.toNat l).flatten)) else none := rfl
@[simp] theorem s_fdiv : fdivD (.int m) (.int n) = if 0 < n ∧ n.natAbs.log2 < 9000 then some (.dat (.int (m / n))) else none := rfl
@[simp] theorem s_mod : modD (.int m) (.int n) = if 0 < n then some (.dat (.int (m % n))) else none := rfl
@[simp] theorem s_pow : powD (.int m) (.int n) = if 0 ≤ n ∧ n.natAbs ≤ 1000000 ∧ m.natAbs < 18446744073709551616 then some (.dat (.int (m ^ n.toNat))) else none := rfl
@[simp] theorem s_neg : negD (.int m) = some (.dat (.int (-m))) := rfl
@[simp] theorem s_lt : ltD (.int m) (.int n) = some (.dat (.bl (decide (m < n)))) := rfl
@[simp] theorem s_le : leD (.int m) (.int n) = some (.dat (.bl (decide (m ≤ n)))) := rfl
@[simp] theorem s_gt : gtD (.int m) (.int n) = some (.dat (.bl (decide (n < m)))) := rfl
@[simp] theorem s_ge : geD (.int m) (.int n) = some (.dat (.bl (decide (n ≤ m)))) := rfl
@[simp] theorem s_ixL : ixA (.lst l) (.int n) = (atI l n).map .dat := by
  unfold ixA ixL ixT ixS ixD; dsimp only; cases atI l n <;> rfl
@[simp] theorem s_ixR : ixA (.rol l) (.int n) = (atI l n).map .dat := by
  unfold ixA ixL ixT ixS ixD; dsimp only; cases atI l n <;> rfl
@[simp] theorem s_ixT : ixA (.tup l) (.int n) = (atI l n).map .dat := by
  unfold ixA ixL ixT ixS ixD; dsimp only; cases atI l n <;> rfl
@[simp] theorem s_ixD {ks} : ixA (.dct ks l) d = (keyD d).bind fun q => (dgetD ks l q).map .dat := by
  unfold ixA ixL ixT ixS ixD; dsimp only; cases keyD d <;> rfl
@[simp] theorem s_keyI : keyD (.int m) = some (.inl m) := rfl
@[simp] theorem s_keyS {z} : keyD (.str z) = some (.inr z) := rfl
@[simp] theorem s_get0 {q} : dgetD [] l q = none := rfl
@[simp] theorem s_getC {k : Key} {ks q} : dgetD (k :: ks) (d :: l) q = if k = q then some d else dgetD ks l q := rfl
@[simp] theorem s_lenL : lenD [.lst l] = some (.dat (.int l.length)) := rfl
@[simp] theorem s_lenR : lenD [.rol l] = some (.dat (.int l.length)) := rfl
@[simp] theorem s_lenT : lenD [.tup l] = some (.dat (.int l.length)) := rfl
@[simp] theorem s_int : intL [.int m] = some (.dat (.int m)) := rfl
@[simp] theorem s_list : listL [.lst l] = some (.own (.lst l)) := rfl
@[simp] theorem s_listR : listL [.rol l] = some (.own (.lst l)) := rfl
@[simp] theorem s_listT : listL [.tup l] = some (.own (.lst l)) := rfl
@[simp] theorem s_tupL : tupL [.lst l] = some (.dat (.tup l)) := rfl
@[simp] theorem s_tupR : tupL [.rol l] = some (.dat (.tup l)) := rfl
@[simp] theorem s_tupT : tupL [.tup l] = some (.dat (.tup l)) := rfl
@[simp] theorem s_sum : sumL [.lst l] = (intsD l).map fun ns => .dat (.int ns.sum) := rfl
@[simp] theorem s_sumQ : sumQ [.lst l] = (intsD l).map fun ns => .dat (.int ns.sum) := rfl
@[simp] theorem s_sumQT : sumQ [.tup l] = (intsD l).map fun ns => .dat (.int ns.sum) := rfl
@[simp] theorem s_max2 : max2 [.int m, .int n] = some (.dat (.int (if n > m then n else m))) := rfl
@[simp] theorem s_min2 : min2 [.int m, .int n] = some (.dat (.int (if n < m then n else m))) := rfl
/-! statements -/
variable {p q : Env → R Out}
@[simp] theorem s_seq : seqS p q ρ = (match p ρ with
  | .ok .nx ρ => q ρ
  | r => r) := rfl
@[simp] theorem s_next : nextS ρ = .ok .nx ρ := rfl
@[simp] theorem s_ret : retS f ρ = (f ρ).bind fun x ρ => .ok (.ret x) ρ := rfl
@[simp] theorem s_drop : dropS f ρ = (f ρ).bind fun _ ρ => .ok .nx ρ := rfl
@[simp] theorem s_ite : iteS t p q ρ = (t ρ).bind fun b ρ => if b = true then p ρ else q ρ := rfl
@[simp] theorem s_asg : asgS i f ρ = (f ρ).bind (storeS i) := rfl
@[simp] theorem s_store : storeS i x ρ = (takeX x ρ).bind fun x ρ => .ok .nx (ρ.set i (svOf x)) := rfl
@[simp] theorem s_takeD : takeX (.dat d) ρ = .ok (.dat d) ρ := rfl
@[simp] theorem s_takeO : takeX (.own d) ρ = .ok (.own d) ρ := rfl
@[simp] theorem s_takeS : takeX (.slot i) ρ = (match ρ.at i with
    | .own d => .ok (.dat d) (ρ.set i (.dat d))
    | _ => .stuck) := rfl
@[simp] theorem s_svD : svOf (.dat d) = .dat d := rfl
@[simp] theorem s_svO : svOf (.own d) = .own d := rfl
@[simp] theorem s_pair : pairS f g ρ = (f ρ).bind fun x ρ => (takeX x ρ).bind fun x ρ => (g ρ).bind fun y ρ => (takeX y ρ).bind fun y ρ => .ok (x, y) ρ := rfl
@[simp] theorem s_par2 : par2S i j f g ρ = (pairS f g ρ).bind fun p ρ => .ok .nx ((ρ.set i (svOf p.1)).set j (svOf p.2)) := rfl
@[simp] theorem s_move : moveS j i ρ = (match ρ.at i with
  | .own d => if i = j then .stuck else .ok .nx ((ρ.set i .un).set j (.own d))
  | _ => .stuck) := rfl
@[simp] theorem s_forget0 : forget [] ρ = ρ := rfl
@[simp] theorem s_forgetC {v} : forget (i :: v) ρ = forget v (ρ.set i .un) := rfl
@[simp] theorem s_nameT : nameT j d ρ = some (ρ.set j (.dat d)) := rfl
@[simp] theorem s_nilT : nilT [] ρ = some ρ := rfl
@[simp] theorem s_consT {u : D → Env → Option Env} {v : List D → Env → Option Env} : consT u v (d :: l) ρ = (u d ρ).bind (v l) := rfl
@[simp] theorem s_tup2T {v : List D → Env → Option Env} {n : Nat} : tupT n v (.tup l) ρ = if l.length = n then v l ρ else none := rfl
@[simp] theorem s_forS {fg fi ft fb} : forS fg fi ft fb ρ = (fi ρ).bind fun items ρ => forL fg ft fb items ρ := rfl
@[simp] theorem s_inV {it} : inV_ f it ρ = (valS f ρ).bind it := rfl
@[simp] theorem s_itL : itV (.lst l) ρ = .ok l ρ := rfl
@[simp] theorem s_itR : itV (.rol l) ρ = .ok l ρ := rfl
@[simp] theorem s_itT : itV (.tup l) ρ = .ok l ρ := rfl
@[simp] theorem s_rangeI {rg} : rangeI rg fs ρ = (fs ρ).bind rg := rfl
@[simp] theorem s_lcS {vs fi ft tt} : lcS vs fi ft tt f ρ = (fi ρ).bind (lcR vs ft tt f) := rfl
@[simp] theorem s_tupS : tupS fs ρ = (fs ρ).bind tupO := rfl
@[simp] theorem s_lstS : lstS fs ρ = (fs ρ).bind lstO := rfl
@[simp] theorem s_dats0 : datsOf [] = some [] := rfl
@[simp] theorem s_datsC {xs} : datsOf (.dat d :: xs) = (datsOf xs).map (d :: ·) := rfl
@[simp] theorem s_tupO {xs} : tupO xs ρ = (match datsOf xs with
  | some ds => if ds.length ≤ LIM then .ok (.dat (.tup ds)) ρ else .stuck
  | none => .stuck) := rfl
@[simp] theorem s_lstO {xs} : lstO xs ρ = (match datsOf xs with
  | some ds => if ds.length ≤ LIM then .ok (.own (.lst ds)) ρ else .stuck
  | none => .stuck) := rfl
@[simp] theorem s_asgT {ft} : asgT f ft ρ = (valS f ρ).bind fun d ρ => (match ft d ρ with
  | some ρ' => .ok .nx ρ'
  | none => .stuck) := rfl
@[simp] theorem s_item : itemS i f g ρ = (valS f ρ).bind fun d ρ => (match ρ.at i with
  | .own _ => (opnd g ρ).bind fun y ρ => setAt i y d ρ
  | _ => .stuck) := rfl
@[simp] theorem s_setAt : setAt i x d ρ = (match cont ρ x with
  | some k => match ρ.at i with
    | .own (.lst l) => match k with
      | .int n => match ixN l.length n with
        | some j => .ok .nx (ρ.set i (.own (.lst (l.set j d))))
        | none => .stuck
      | _ => .stuck
    | .own (.dct ks vs) => match keyD k with
      | some q => if ks.length < LIM then .ok .nx (ρ.set i (.own (.dct (putKs q ks) (putDs q d ks vs)))) else .stuck
      | none => .stuck
    | _ => .stuck
  | none => .stuck) := rfl
@[simp] theorem s_meth {op} : methS op i fs ρ = (match ρ.at i with
  | .own (.lst _) => (fs ρ).bind (methAt op i)
  | _ => .stuck) := rfl
@[simp] theorem s_methAt {op} {xs} : methAt op i xs ρ = (match ρ.at i, datsOf xs with
  | .own d, some ds => match op d ds with
    | some (d', x) => .ok (.dat x) (ρ.set i (.own d'))
    | none => .stuck
  | _, _ => .stuck) := rfl
@[simp] theorem s_append : appendD (.lst l) [d] = if l.length < LIM then some (.lst (l ++ [d]), .non) else none := rfl
@[simp] theorem s_fld {cs nm} : fldS cs nm f ρ = op1S (fldD cs nm) f ρ := rfl
@[simp] theorem s_fldD {cs nm c ns vs} : fldD cs nm (.ins c ns vs) = if cs.contains c = true then (lookD nm ns vs).map XV.dat else none := rfl
@[simp] theorem s_fn {F} : fnS F fs ρ = (fs ρ).bind fun xs ρ => callF F xs ρ := rfl
@[simp] theorem s_callF {F xs} : callF F xs ρ = (match argsOf ρ xs with
  | some args => if noTwice (slotsOf xs) = true then match F args with
      | .ok x outs => .ok x (putBack xs outs ρ)
      | .exc c ns vs outs => .exc c ns vs (putBack xs outs ρ)
      | .stuck => .stuck
    else .stuck
  | none => .stuck) := rfl
@[simp] theorem s_args0 : argsOf ρ [] = some [] := rfl
@[simp] theorem s_argsD {xs} : argsOf ρ (.dat d :: xs) = (argsOf ρ xs).map (SV.dat d :: ·) := rfl
@[simp] theorem s_argsS {xs} : argsOf ρ (.slot i :: xs) = (match ρ.at i with
    | .own d => (argsOf ρ xs).map (SV.own d :: ·)
    | .brw d => (argsOf ρ xs).map (SV.brw d :: ·)
    | .clo id ds => (argsOf ρ xs).map (SV.clo id ds :: ·)
    | _ => none) := rfl
@[simp] theorem s_slots0 : slotsOf [] = [] := rfl
@[simp] theorem s_slotsD {xs} : slotsOf (.dat d :: xs) = slotsOf xs := rfl
@[simp] theorem s_slotsS {xs} : slotsOf (.slot i :: xs) = i :: slotsOf xs := rfl
@[simp] theorem s_tw0 : noTwice [] = true := rfl
@[simp] theorem s_twC {u} : noTwice (i :: u) = (!u.contains i && noTwice u) := rfl
@[simp] theorem s_pb {xs outs} : putBack xs outs ρ = (match slotsOf xs with
  | [] => ρ
  | _ => putBackL xs outs 0 ρ) := rfl
@[simp] theorem s_pb0 {xs outs} : putBackL xs outs i [] = [] := rfl
@[simp] theorem s_pbC {xs outs} : putBackL xs outs i (a :: ρ) = putBack1 xs outs i a :: putBackL xs outs (i + 1) ρ := rfl
@[simp] theorem s_pb1O {xs outs} : putBack1 xs outs i (.own d) = (match findSlot xs outs i with
    | some o => backSV o
    | none => .own d) := rfl
@[simp] theorem s_pb1D {xs outs} : putBack1 xs outs i (.dat d) = .dat d := rfl
@[simp] theorem s_pb1B {xs outs} : putBack1 xs outs i (.brw d) = .brw d := rfl
@[simp] theorem s_pb1U {xs outs} : putBack1 xs outs i .un = .un := rfl
@[simp] theorem s_fsS {xs o} {outs : List SV} {k : Nat} : findSlot (.slot k :: xs) (o :: outs) i = if k = i then some o else findSlot xs outs i := rfl
@[simp] theorem s_fsD {xs o} {outs : List SV} : findSlot (.dat d :: xs) (o :: outs) i = findSlot xs outs i := rfl
@[simp] theorem s_fs0 {outs : List SV} : findSlot [] outs i = none := by cases outs <;> rfl
@[simp] theorem s_backO : backSV (.own d) = .own d := rfl
@[simp] theorem s_backD : backSV (.dat d) = .dat d := rfl
@[simp] theorem s_backU : backSV .un = .un := rfl
@[simp] theorem s_backB : backSV (.brw d) = .un := rfl
@[simp] theorem s_pb1C {xs outs} {id : Nat} {ds : List D} : putBack1 xs outs i (.clo id ds) = .clo id ds := rfl
@[simp] theorem s_backC {id : Nat} {ds : List D} : backSV (.clo id ds) = .un := rfl
@[simp] theorem s_nilL : nilL ρ = .ok [] ρ := rfl
@[simp] theorem s_consL {fs : Env → R (List AX)} : consL f fs ρ = (opnd f ρ).bind fun x ρ => (fs ρ).bind fun xs ρ => .ok (.x x :: xs) ρ := rfl
@[simp] theorem s_lamL {id : Nat} {js : List Nat} {fs : Env → R (List AX)} : lamL id js fs ρ = (fs ρ).bind fun xs ρ => .ok (.lam id js :: xs) ρ := rfl
@[simp] theorem s_fnL {F : FnM} {fs : Env → R (List AX)} : fnL F fs ρ = (fs ρ).bind fun xs ρ => callL F xs ρ := rfl
@[simp] theorem s_callL {F : FnM} {axs : List AX} : callL F axs ρ = (match argsL ρ axs with
  | some args => if noTwice (slotsOf (axs.map xsOf)) = true then match F args with
      | .ok x outs => .ok x (putBack (axs.map xsOf) (outs.map unclo) ρ)
      | .exc c ns vs outs => .exc c ns vs (putBack (axs.map xsOf) (outs.map unclo) ρ)
      | .stuck => .stuck
    else .stuck
  | none => .stuck) := rfl
@[simp] theorem s_argsL0 : argsL ρ [] = some [] := rfl
@[simp] theorem s_argsLC {a : AX} {l : List AX} : argsL ρ (a :: l) = (match argL ρ a, argsL ρ l with
    | some s, some r => some (s :: r)
    | _, _ => none) := rfl
@[simp] theorem s_argLD : argL ρ (.x (.dat d)) = some (.dat d) := rfl
@[simp] theorem s_argLS : argL ρ (.x (.slot i)) = (match ρ.at i with
    | .own d => some (.own d)
    | .brw d => some (.brw d)
    | .clo id ds => some (.clo id ds)
    | _ => none) := rfl
@[simp] theorem s_argLL {id : Nat} {js : List Nat} : argL ρ (.lam id js) = (capsD ρ js).map (.clo id) := rfl
@[simp] theorem s_caps0 : capsD ρ [] = some [] := rfl
@[simp] theorem s_capsC {j : Nat} {js : List Nat} : capsD ρ (j :: js) = (match datAt ρ j, capsD ρ js with
    | some d, some ds => some (d :: ds)
    | _, _ => none) := rfl
@[simp] theorem s_datAt {j : Nat} : datAt ρ j = (match ρ.at j with
  | .dat d => some d
  | _ => none) := rfl
@[simp] theorem s_xsOfX : xsOf (.x x) = x := rfl
@[simp] theorem s_xsOfL {id : Nat} {js : List Nat} : xsOf (.lam id js) = .dat .opq := rfl
@[simp] theorem s_unC {id : Nat} {ds : List D} : unclo (.clo id ds) = .un := rfl
@[simp] theorem s_unD : unclo (.dat d) = .dat d := rfl
@[simp] theorem s_unO : unclo (.own d) = .own d := rfl
@[simp] theorem s_unB : unclo (.brw d) = .brw d := rfl
@[simp] theorem s_unU : unclo .un = .un := rfl
@[simp] theorem s_cloS {tab : Nat → Option FnM} {fs : Env → R (List XV)} : cloS tab i fs ρ = (match ρ.at i with
  | .clo _ _ => (fs ρ).bind (callC tab i)
  | _ => .stuck) := rfl
@[simp] theorem s_callC {tab : Nat → Option FnM} {xs : List XV} : callC tab i xs ρ = (match ρ.at i with
  | .clo id ds => match tab id with
    | some m => callF (lamF m ds) xs ρ
    | none => .stuck
  | _ => .stuck) := rfl
@[simp] theorem s_lamF {m : FnM} {ds : List D} {args : List SV} : lamF m ds args = (if args.all (fun s => !s.isClo) = true then trimF args.length (m (args ++ ds.map SV.dat)) else .stuck) := rfl
@[simp] theorem s_trimO {n : Nat} {outs : List SV} : trimF n (.ok x outs) = .ok x (outs.take n) := rfl
@[simp] theorem s_icD : (SV.dat d).isClo = false := rfl
@[simp] theorem s_icO : (SV.own d).isClo = false := rfl
@[simp] theorem s_icB : (SV.brw d).isClo = false := rfl
@[simp] theorem s_icC {id : Nat} {ds : List D} : (SV.clo id ds).isClo = true := rfl
@[simp] theorem s_cmpO {tab : String → Option FnM} {p : D → D → Option XV} : cmpO tab p f g ρ = (opnd f ρ).bind fun x ρ => (opnd g ρ).bind fun y ρ => cmpIns tab p x y ρ := rfl
@[simp] theorem s_cmpIns {tab : String → Option FnM} {p : D → D → Option XV} : cmpIns tab p x y ρ = (match cont ρ x, cont ρ y with
  | some (.ins c _ _), some e => match tab c with
    | some m => if yOkD c e = true then boolX (callF m [x, y] ρ) else .stuck
    | none => .stuck
  | _, _ => app2 p x y ρ) := rfl
@[simp] theorem s_yOkI {c c' : String} {ns vs} : yOkD c (.ins c' ns vs) = (c' == c) := rfl
@[simp] theorem s_boolX {b : Bool} : boolX (.ok (.dat (.bl b)) ρ) = .ok (.dat (.bl b)) ρ := rfl
@[simp] theorem s_rgO1 : rgO1 f ρ = (valS f ρ).bind fun d ρ1 => (intD d ρ1).bind fun n ρ2 => .ok (0, n) ρ2 := rfl
@[simp] theorem s_intD {n : Int} : intD (.int n) ρ = .ok n ρ := rfl
@[simp] theorem s_lrg {fr : Env → R (Int × Int)} : lrgS fr ρ = (fr ρ).bind fun ab ρ1 => if rgFit ab = true then .ok (.own (.lst (rangeD ab.1 (ab.2 - ab.1).toNat))) ρ1 else .stuck := rfl
@[simp] theorem s_trg {fr : Env → R (Int × Int)} : trgS fr ρ = (fr ρ).bind fun ab ρ1 => if rgFit ab = true then .ok (.dat (.tup (rangeD ab.1 (ab.2 - ab.1).toNat))) ρ1 else .stuck := rfl
@[simp] theorem s_lc2S {vs vs1 fi ft} {tt : Env → R Bool} {fi1 ft1} {tt1 : Env → R Bool} : lc2S vs vs1 fi ft tt fi1 ft1 tt1 f ρ = (fi ρ).bind (lc2R vs vs1 ft tt fi1 ft1 tt1 f) := rfl
@[simp] theorem s_sortL : sortL [d] = ((seqD d).bind fun l => if sortOk l = true then some (.own (.lst (l.mergeSort sleD))) else none) := rfl
@[simp] theorem s_seqL {l : List D} : seqD (.lst l) = some l := rfl
@[simp] theorem s_seqR {l : List D} : seqD (.rol l) = some l := rfl
@[simp] theorem s_seqT {l : List D} : seqD (.tup l) = some l := rfl
@[simp] theorem s_own0 {P} {n : Nat} : ownIn P n [] = true := rfl
@[simp] theorem s_ownO {P args} {n : Nat} : ownIn P n (.own d :: args) = (P.contains n && ownIn P (n + 1) args) := rfl
@[simp] theorem s_ownD {P args} {n : Nat} : ownIn P n (.dat d :: args) = ownIn P (n + 1) args := rfl
@[simp] theorem s_ownC {P args} {n : Nat} {id : Nat} {ds : List D} : ownIn P n (.clo id ds :: args) = ownIn P (n + 1) args := rfl
@[simp] theorem s_outsC {args} {id : Nat} {ds : List D} : outsOf (.clo id ds :: args) (a :: ρ) = .clo id ds :: outsOf args ρ := rfl
@[simp] theorem s_ownB {P args} {n : Nat} : ownIn P n (.brw d :: args) = ownIn P (n + 1) args := rfl
@[simp] theorem s_outs0 : outsOf [] ρ = [] := rfl
@[simp] theorem s_outsO {args} : outsOf (.own d :: args) (a :: ρ) = backSV a :: outsOf args ρ := rfl
@[simp] theorem s_outsD {args} : outsOf (.dat d :: args) (a :: ρ) = .dat d :: outsOf args ρ := rfl
@[simp] theorem s_outsB {args} : outsOf (.brw d :: args) (a :: ρ) = .brw d :: outsOf args ρ := rfl
@[simp] theorem s_runF {P b} {n m : Nat} {args} : runF n m P b args = if ownIn P 0 args = true then endF n args (b (args ++ List.replicate m .un)) else .stuck := rfl
@[simp] theorem s_endN {n : Nat} {args} : endF n args (.ok .nx ρ) = .ok (.dat .non) (outsOf args ρ) := rfl
@[simp] theorem s_endD {n : Nat} {args} : endF n args (.ok (.ret (.dat d)) ρ) = .ok (.dat d) (outsOf args ρ) := rfl
@[simp] theorem s_endO {n : Nat} {args} : endF n args (.ok (.ret (.own d)) ρ) = .ok (.own d) (outsOf args ρ) := rfl
@[simp] theorem s_endS {n : Nat} {args} : endF n args (.ok (.ret (.slot i)) ρ) = (if n ≤ i then match ρ.at i with
      | .own d => .ok (.own d) (outsOf args ρ)
      | _ => .stuck
    else .stuck) := rfl
@[simp] theorem s_isi {T} : isiS T f ρ = op1S (isiOp T) f ρ := rfl
@[simp] theorem s_isi2 {T U} : isi2S T U f ρ = op1S (isi2D T U) f ρ := rfl
end
section
@[simp] theorem i_IntN : isiOp tyInt .non = some (.dat (.bl false)) := rfl
@[simp] theorem j_IntN : isiD tyInt .non = some false := rfl
@[simp] theorem i_IntB {b : Bool} : isiOp tyInt (.bl b) = some (.dat (.bl true)) := rfl
@[simp] theorem j_IntB {b : Bool} : isiD tyInt (.bl b) = some true := rfl
@[simp] theorem i_IntI {n : Int} : isiOp tyInt (.int n) = some (.dat (.bl true)) := rfl
@[simp] theorem j_IntI {n : Int} : isiD tyInt (.int n) = some true := rfl
@[simp] theorem i_IntS {z : Str} : isiOp tyInt (.str z) = some (.dat (.bl false)) := rfl
@[simp] theorem j_IntS {z : Str} : isiD tyInt (.str z) = some false := rfl
@[simp] theorem i_IntT {l : List D} : isiOp tyInt (.tup l) = some (.dat (.bl false)) := rfl
@[simp] theorem j_IntT {l : List D} : isiD tyInt (.tup l) = some false := rfl
@[simp] theorem i_IntL {l : List D} : isiOp tyInt (.lst l) = some (.dat (.bl false)) := rfl
@[simp] theorem j_IntL {l : List D} : isiD tyInt (.lst l) = some false := rfl
@[simp] theorem i_IntR {l : List D} : isiOp tyInt (.rol l) = some (.dat (.bl false)) := rfl
@[simp] theorem j_IntR {l : List D} : isiD tyInt (.rol l) = some false := rfl
@[simp] theorem i_BoolN : isiOp tyBool .non = some (.dat (.bl false)) := rfl
@[simp] theorem j_BoolN : isiD tyBool .non = some false := rfl
@[simp] theorem i_BoolB {b : Bool} : isiOp tyBool (.bl b) = some (.dat (.bl true)) := rfl
@[simp] theorem j_BoolB {b : Bool} : isiD tyBool (.bl b) = some true := rfl
@[simp] theorem i_BoolI {n : Int} : isiOp tyBool (.int n) = some (.dat (.bl false)) := rfl
@[simp] theorem j_BoolI {n : Int} : isiD tyBool (.int n) = some false := rfl
@[simp] theorem i_BoolS {z : Str} : isiOp tyBool (.str z) = some (.dat (.bl false)) := rfl
@[simp] theorem j_BoolS {z : Str} : isiD tyBool (.str z) = some false := rfl
@[simp] theorem i_BoolT {l : List D} : isiOp tyBool (.tup l) = some (.dat (.bl false)) := rfl
@[simp] theorem j_BoolT {l : List D} : isiD tyBool (.tup l) = some false := rfl
@[simp] theorem i_BoolL {l : List D} : isiOp tyBool (.lst l) = some (.dat (.bl false)) := rfl
@[simp] theorem j_BoolL {l : List D} : isiD tyBool (.lst l) = some false := rfl
@[simp] theorem i_BoolR {l : List D} : isiOp tyBool (.rol l) = some (.dat (.bl false)) := rfl
@[simp] theorem j_BoolR {l : List D} : isiD tyBool (.rol l) = some false := rfl
@[simp] theorem i_TupleN : isiOp tyTuple .non = some (.dat (.bl false)) := rfl
@[simp] theorem j_TupleN : isiD tyTuple .non = some false := rfl
@[simp] theorem i_TupleB {b : Bool} : isiOp tyTuple (.bl b) = some (.dat (.bl false)) := rfl
@[simp] theorem j_TupleB {b : Bool} : isiD tyTuple (.bl b) = some false := rfl
@[simp] theorem i_TupleI {n : Int} : isiOp tyTuple (.int n) = some (.dat (.bl false)) := rfl
@[simp] theorem j_TupleI {n : Int} : isiD tyTuple (.int n) = some false := rfl
@[simp] theorem i_TupleS {z : Str} : isiOp tyTuple (.str z) = some (.dat (.bl false)) := rfl
@[simp] theorem j_TupleS {z : Str} : isiD tyTuple (.str z) = some false := rfl
@[simp] theorem i_TupleT {l : List D} : isiOp tyTuple (.tup l) = some (.dat (.bl true)) := rfl
@[simp] theorem j_TupleT {l : List D} : isiD tyTuple (.tup l) = some true := rfl
@[simp] theorem i_TupleL {l : List D} : isiOp tyTuple (.lst l) = some (.dat (.bl false)) := rfl
@[simp] theorem j_TupleL {l : List D} : isiD tyTuple (.lst l) = some false := rfl
@[simp] theorem i_TupleR {l : List D} : isiOp tyTuple (.rol l) = some (.dat (.bl false)) := rfl
@[simp] theorem j_TupleR {l : List D} : isiD tyTuple (.rol l) = some false := rfl
@[simp] theorem i_ListN : isiOp tyList .non = some (.dat (.bl false)) := rfl
@[simp] theorem j_ListN : isiD tyList .non = some false := rfl
@[simp] theorem i_ListB {b : Bool} : isiOp tyList (.bl b) = some (.dat (.bl false)) := rfl
@[simp] theorem j_ListB {b : Bool} : isiD tyList (.bl b) = some false := rfl
@[simp] theorem i_ListI {n : Int} : isiOp tyList (.int n) = some (.dat (.bl false)) := rfl
@[simp] theorem j_ListI {n : Int} : isiD tyList (.int n) = some false := rfl
@[simp] theorem i_ListS {z : Str} : isiOp tyList (.str z) = some (.dat (.bl false)) := rfl
@[simp] theorem j_ListS {z : Str} : isiD tyList (.str z) = some false := rfl
@[simp] theorem i_ListT {l : List D} : isiOp tyList (.tup l) = some (.dat (.bl false)) := rfl
@[simp] theorem j_ListT {l : List D} : isiD tyList (.tup l) = some false := rfl
@[simp] theorem i_ListL {l : List D} : isiOp tyList (.lst l) = some (.dat (.bl true)) := rfl
@[simp] theorem j_ListL {l : List D} : isiD tyList (.lst l) = some true := rfl
@[simp] theorem i_ListR {l : List D} : isiOp tyList (.rol l) = some (.dat (.bl true)) := rfl
@[simp] theorem j_ListR {l : List D} : isiD tyList (.rol l) = some true := rfl
@[simp] theorem i_StrN : isiOp tyStr .non = some (.dat (.bl false)) := rfl
@[simp] theorem j_StrN : isiD tyStr .non = some false := rfl
@[simp] theorem i_StrB {b : Bool} : isiOp tyStr (.bl b) = some (.dat (.bl false)) := rfl
@[simp] theorem j_StrB {b : Bool} : isiD tyStr (.bl b) = some false := rfl
@[simp] theorem i_StrI {n : Int} : isiOp tyStr (.int n) = some (.dat (.bl false)) := rfl
@[simp] theorem j_StrI {n : Int} : isiD tyStr (.int n) = some false := rfl
@[simp] theorem i_StrS {z : Str} : isiOp tyStr (.str z) = some (.dat (.bl true)) := rfl
@[simp] theorem j_StrS {z : Str} : isiD tyStr (.str z) = some true := rfl
@[simp] theorem i_StrT {l : List D} : isiOp tyStr (.tup l) = some (.dat (.bl false)) := rfl
@[simp] theorem j_StrT {l : List D} : isiD tyStr (.tup l) = some false := rfl
@[simp] theorem i_StrL {l : List D} : isiOp tyStr (.lst l) = some (.dat (.bl false)) := rfl
@[simp] theorem j_StrL {l : List D} : isiD tyStr (.lst l) = some false := rfl
@[simp] theorem i_StrR {l : List D} : isiOp tyStr (.rol l) = some (.dat (.bl false)) := rfl
@[simp] theorem j_StrR {l : List D} : isiD tyStr (.rol l) = some false := rfl
@[simp] theorem s_isi2D {T U : IsiT} {d : D} : isi2D T U d = (match isiD T d with
  | some true => some (xbl true)
  | some false => (isiD U d).map xbl
  | none => none) := by unfold isi2D; cases isiD T d with
  | none => rfl
  | some b => cases b <;> rfl
@[simp] theorem s_xbl {b : Bool} : xbl b = .dat (.bl b) := rfl
@[simp] theorem s_xint {b : Int} : xint b = .dat (.int b) := rfl
end
@[simp] theorem s_eqI {m n : Int} : eqD (.int m) (.int n) = some (.dat (.bl (decide (m = n)))) := by
  show (eqDat _ _).map xbl = _
  unfold eqDat toP
  simp [SeqAt.shaped, PyData.eqv]
  refine ⟨⟨⟨rfl, ?_⟩, rfl, ?_⟩, ?_⟩
  · simp [PyData.depth]
  · simp [PyData.depth]
  · by_cases h : m = n <;> simp [h]
theorem seq_nx {p q : Env → R Out} {ρ ρ' : Env} (h : p ρ = .ok .nx ρ') : seqS p q ρ = q ρ' := by rw [s_seq, h]
theorem seq_ret {p q : Env → R Out} {ρ ρ' : Env} {x : XV} (h : p ρ = .ok (.ret x) ρ') : seqS p q ρ = .ok (.ret x) ρ' := by rw [s_seq, h]
theorem ite_T {t : Env → R Bool} {p q : Env → R Out} {ρ ρ' : Env} (h : t ρ = .ok true ρ') : iteS t p q ρ = p ρ' := by rw [s_ite, h]; rfl
theorem ite_F {t : Env → R Bool} {p q : Env → R Out} {ρ ρ' : Env} (h : t ρ = .ok false ρ') : iteS t p q ρ = q ρ' := by rw [s_ite, h]; rfl
@[simp] theorem pb1_no {xs : List XV} {outs : List SV} {i : Nat} {s : SV} (h : findSlot xs outs i = none) : putBack1 xs outs i s = s := by
  cases s with
  | own d => rw [s_pb1O, h]
  | _ => rfl
end DL
namespace DL
open PySem L2

/-! ## loops and comprehensions by invariants -/
theorem forL_ind {fg : List Nat} {ft : D → Env → Option Env} {fb : Env → R Out} (P : List D → Env → Prop)
    (step : ∀ d ds ρ, P (d :: ds) ρ → ∃ ρ1 ρ2, ft d (forget fg ρ) = some ρ1 ∧ fb ρ1 = .ok .nx ρ2 ∧ P ds ρ2) : ∀ items ρ, P items ρ → ∃ ρ', forL fg ft fb items ρ = .ok .nx (forget fg ρ') ∧ P [] ρ'
  | [], ρ, h => ⟨ρ, rfl, h⟩
  | d :: ds, ρ, h => by
    obtain ⟨ρ1, ρ2, h1, h2, h3⟩ := step d ds ρ h
    obtain ⟨ρ', e, h4⟩ := forL_ind P step ds ρ2 h3
    refine ⟨ρ', ?_, h4⟩
    rw [forL, h1]
    dsimp only
    rw [h2]
    exact e
theorem lcL_ind {vs : List Nat} {ft : D → Env → Option Env} {tt : Env → R Bool} {fe : Env → R XV} (P : List D → List D → Env → Prop)
    (step : ∀ d ds acc ρ, P (d :: ds) acc ρ → ∃ ρ1 b ρ2, ft d ρ = some ρ1 ∧ tt ρ1 = .ok b ρ2 ∧ (b = true → ∃ y ρ3, valS fe ρ2 = .ok y ρ3 ∧ acc.length < LIM ∧ P ds (acc ++ [y]) (forget vs ρ3)) ∧ (b = false → P ds acc (forget vs ρ2))) :
    ∀ items acc ρ, P items acc ρ → ∃ out ρ', lcL vs ft tt fe items acc ρ = .ok out ρ' ∧ P [] out ρ'
  | [], acc, ρ, h => ⟨acc, ρ, rfl, h⟩
  | d :: ds, acc, ρ, h => by
    obtain ⟨ρ1, b, ρ2, h1, h2, h3, h4⟩ := step d ds acc ρ h
    rw [lcL, h1]
    dsimp only
    rw [h2]
    cases b with
    | false => exact lcL_ind P step ds acc _ (h4 rfl)
    | true =>
      obtain ⟨y, ρ3, h5, h6, h7⟩ := h3 rfl
      dsimp only
      rw [h5]
      dsimp only
      rw [if_pos h6]
      exact lcL_ind P step ds _ _ h7
theorem lcR_map {α : Type} {vs : List Nat} {ft : D → Env → Option Env} {tt : Env → R Bool} {fe : Env → R XV} {L : List α} {it : α → D} {y : α → Option D} {ρ : Env} (hc : clear vs ρ = true) (hl : L.length ≤ LIM)
    (h : ∀ x ∈ L, ∃ ρ1 b ρ2, ft (it x) (forget vs ρ) = some ρ1 ∧ tt ρ1 = .ok b ρ2 ∧ (b = true → ∃ v ρ3, valS fe ρ2 = .ok v ρ3 ∧ y x = some v ∧ forget vs ρ3 = forget vs ρ) ∧ (b = false → y x = none ∧ forget vs ρ2 = forget vs ρ)) :
    lcR vs ft tt fe (L.map it) ρ = .ok (.own (.lst (L.filterMap y))) (restore vs ρ (forget vs ρ)) := by
  have key : ∀ (l : List α) (acc : List D), (∀ x ∈ l, x ∈ L) → acc.length + l.length ≤ LIM → lcL vs ft tt fe (l.map it) acc (forget vs ρ) = .ok (acc ++ l.filterMap y) (forget vs ρ) := by
    intro l
    induction l with
    | nil => intro acc _ _; simp [lcL]
    | cons x l ih =>
      intro acc hm hlen
      have hL : LIM = 1000000 := rfl
      simp at hlen
      obtain ⟨ρ1, b, ρ2, h1, h2, h3, h4⟩ := h x (hm x List.mem_cons_self)
      rw [List.map_cons, lcL, h1]
      dsimp only
      rw [h2]
      cases b with
      | false =>
        obtain ⟨e1, e2⟩ := h4 rfl
        dsimp only
        rw [e2, ih acc (fun z hz => hm z (List.mem_cons_of_mem _ hz)) (by omega), List.filterMap_cons, e1]
      | true =>
        obtain ⟨v, ρ3, e1, e2, e3⟩ := h3 rfl
        dsimp only
        rw [e1]
        dsimp only
        rw [if_pos (by omega), e3, ih (acc ++ [v]) (fun z hz => hm z (List.mem_cons_of_mem _ hz)) (by simp; omega), List.filterMap_cons, e2]
        simp
  unfold lcR
  rw [if_pos hc, key L [] (fun _ h => h) (by simpa using hl)]
  simp
/-- each item gives one -/
theorem lcR_all {α : Type} {vs : List Nat} {ft : D → Env → Option Env} {tt : Env → R Bool} {fe : Env → R XV} {L : List α} {it : α → D} {y : α → D} {ρ : Env} (hc : clear vs ρ = true) (hl : L.length ≤ LIM)
    (h : ∀ x ∈ L, ∃ ρ1 ρ2 ρ3, ft (it x) (forget vs ρ) = some ρ1 ∧ tt ρ1 = .ok true ρ2 ∧ valS fe ρ2 = .ok (y x) ρ3 ∧ forget vs ρ3 = forget vs ρ) :
    lcR vs ft tt fe (L.map it) ρ = .ok (.own (.lst (L.map y))) (restore vs ρ (forget vs ρ)) := by
  rw [lcR_map (y := fun x => some (y x)) hc hl fun x hx => ?_]
  · rw [show (fun x => some (y x)) = some ∘ y from rfl, List.filterMap_eq_map]
  · obtain ⟨ρ1, ρ2, ρ3, h1, h2, h3, h4⟩ := h x hx
    exact ⟨ρ1, true, ρ2, h1, h2, fun _ => ⟨_, ρ3, h3, rfl, h4⟩, fun z => by cases z⟩
theorem forL_st {fg : List Nat} {ft : D → Env → Option Env} {fb : Env → R Out} : ∀ (l : List D) (st : Nat → Env) (ρ : Env), forget fg ρ = st 0 →
    (∀ i (hi : i < l.length), ∃ ρ1 ρ2, ft l[i] (st i) = some ρ1 ∧ fb ρ1 = .ok .nx ρ2 ∧ forget fg ρ2 = st (i + 1)) → forL fg ft fb l ρ = .ok .nx (st l.length)
  | [], st, ρ, h0, _ => by rw [forL, h0]; rfl
  | d :: ds, st, ρ, h0, h => by
    obtain ⟨ρ1, ρ2, h1, h2, h3⟩ := h 0 (by simp)
    rw [forL, h0, show ft d (st 0) = some ρ1 from h1]
    dsimp only
    rw [h2]
    exact forL_st ds (fun i => st (i + 1)) ρ2 h3 fun i hi => h (i + 1) (by simp; omega)
theorem lcR_inv {α : Type} {vs : List Nat} {ft : D → Env → Option Env} {tt : Env → R Bool} {fe : Env → R XV} {L : List α} {it : α → D} {y : α → D} {ρ : Env} (I : Env → Prop) (hc : clear vs ρ = true) (hl : L.length ≤ LIM) (h0 : I (forget vs ρ))
    (h : ∀ x ∈ L, ∀ ρ0, I ρ0 → ∃ ρ1 ρ2 ρ3, ft (it x) ρ0 = some ρ1 ∧ tt ρ1 = .ok true ρ2 ∧ valS fe ρ2 = .ok (y x) ρ3 ∧ I (forget vs ρ3)) :
    ∃ ρ', I ρ' ∧ lcR vs ft tt fe (L.map it) ρ = .ok (.own (.lst (L.map y))) (restore vs ρ ρ') := by
  have key : ∀ (l : List α) (acc : List D) (ρ0 : Env), (∀ x ∈ l, x ∈ L) → acc.length + l.length ≤ LIM → I ρ0 → ∃ ρ', I ρ' ∧ lcL vs ft tt fe (l.map it) acc ρ0 = .ok (acc ++ l.map y) ρ' := by
    intro l
    induction l with
    | nil => intro acc ρ0 _ _ hI; exact ⟨ρ0, hI, by simp [lcL]⟩
    | cons x l ih =>
      intro acc ρ0 hm hlen hI
      have hL : LIM = 1000000 := rfl
      simp at hlen
      obtain ⟨ρ1, ρ2, ρ3, h1, h2, h3, h4⟩ := h x (hm x List.mem_cons_self) ρ0 hI
      obtain ⟨ρ', i1, i2⟩ := ih (acc ++ [y x]) (forget vs ρ3) (fun z hz => hm z (List.mem_cons_of_mem _ hz)) (by simp; omega) h4
      refine ⟨ρ', i1, ?_⟩
      rw [List.map_cons, lcL, h1]
      dsimp only
      rw [h2]
      dsimp only
      rw [h3]
      dsimp only
      rw [if_pos (by omega), i2]
      simp
  obtain ⟨ρ', i1, i2⟩ := key L [] (forget vs ρ) (fun _ h => h) (by simpa using hl) h0
  refine ⟨ρ', i1, ?_⟩
  unfold lcR
  rw [if_pos hc, i2]
  simp
/-! ## items -/
theorem rangeD_eq (lo : Int) (n : Nat) : rangeD lo n = (List.range n).map fun i => D.int (lo + (i : Nat)) := by
  refine List.ext_getElem? fun i => ?_
  by_cases h : i < n
  · rw [rangeD_get lo n i h]; simp [h]
  · rw [List.getElem?_eq_none (by rw [rangeD_len]; omega), List.getElem?_eq_none (by simp; omega)]
theorem enumD_eq (l : List D) : enumD 0 l = (List.range l.length).map fun i => D.tup [.int (i : Nat), l.getD i .non] := by
  refine List.ext_getElem? fun i => ?_
  by_cases h : i < l.length
  · have h' : i < (enumD 0 l).length := by rw [enumD_len]; exact h
    obtain ⟨e, h1, h2⟩ := enumD_get 0 l i _ (List.getElem?_eq_getElem h')
    rw [List.getElem?_eq_getElem h', h2]
    rw [List.getElem?_eq_getElem h] at h1
    cases h1
    simp [h]
  · rw [List.getElem?_eq_none (by rw [enumD_len]; omega), List.getElem?_eq_none (by simp; omega)]
theorem zipD_eq : ∀ (l m : List D), zipD l m = (l.zip m).map fun p => D.tup [p.1, p.2]
  | [], m => by simp [zipD]
  | _ :: _, [] => by simp [zipD]
  | d :: ds, e :: es => by simp [zipD, zipD_eq ds es]
/-- a bound that range takes -/
structure Rg (n : Int) : Prop where
  fit : n.natAbs < 4611686018427387904
theorem Rg.of {n : Int} (h : -1000000000 ≤ n) (h' : n ≤ 1000000000) : Rg n := ⟨by omega⟩
theorem rg1_ok {n : Int} {ρ : Env} (h : Rg n) : rg1 [.dat (.int n)] ρ = .ok (rangeD 0 n.toNat) ρ := if_pos h.fit
theorem rg2_ok {m n : Int} {ρ : Env} (h : Rg m) (h' : Rg n) : rg2 [.dat (.int m), .dat (.int n)] ρ = .ok (rangeD m (n - m).toNat) ρ := if_pos ⟨h.fit, h'.fit⟩
@[simp] theorem s_enumL {l : List D} {ρ : Env} : enumL [.dat (.lst l)] ρ = .ok (enumD 0 l) ρ := rfl
@[simp] theorem s_zipLL {l m : List D} {ρ : Env} : zipL [.dat (.lst l), .dat (.lst m)] ρ = .ok (zipD l m) ρ := rfl
@[simp] theorem s_zipTT {l m : List D} {ρ : Env} : zipL [.dat (.tup l), .dat (.tup m)] ρ = .ok (zipD l m) ρ := rfl
@[simp] theorem s_overD {α : Type} {i : Nat} {body : List D → Env → R α} {ρ : Env} : overS i body ρ = (match ρ.at i with
  | .own (.lst l) => giveBack i (.lst l) (body l (ρ.set i (.brw (.lst l))))
  | .brw (.lst l) => body l ρ
  | .dat (.lst l) => body l ρ
  | .dat (.rol l) => body l ρ
  | .dat (.tup l) => body l ρ
  | _ => .stuck) := rfl
@[simp] theorem s_gb {α : Type} {i : Nat} {d : D} {x : α} {ρ : Env} : giveBack i d (.ok x ρ) = .ok x (ρ.set i (.own d)) := rfl
@[simp] theorem s_keysS {α : Type} {i : Nat} {body : List D → Env → R α} {ρ : Env} : keysS i body ρ = (match ρ.at i with
  | .own (.dct ks vs) => lockBack i (.dct ks vs) (body (ks.map keyDat) (ρ.set i (.brw (.dct ks vs))))
  | _ => .stuck) := rfl
@[simp] theorem s_lb {α : Type} {i : Nat} {d : D} {x : α} {ρ : Env} : lockBack i d (.ok x ρ) = .ok x (ρ.set i (.own d)) := rfl
@[simp] theorem s_restore0 {a b : Env} : restore [] a b = b := rfl
@[simp] theorem s_restoreC {j : Nat} {vs : List Nat} {a b : Env} : restore (j :: vs) a b = (restore vs a b).set j (a.at j) := rfl
@[simp] theorem s_newDS {ρ : Env} : newDS ρ = .ok (.own (.dct [] [])) ρ := rfl
@[simp] theorem s_nilP {ρ : Env} : nilP ρ = .ok [] ρ := rfl
@[simp] theorem s_consP {f : Env → R XV} {fs : Env → R (List D)} {ρ : Env} : consP f fs ρ = (valS f ρ).bind fun d ρ => (fs ρ).bind fun ds ρ => .ok (d :: ds) ρ := rfl
@[simp] theorem s_dispS {ks : List Key} {fs : Env → R (List D)} {ρ : Env} : dispS ks fs ρ = (fs ρ).bind fun ds ρ => if ds.length = ks.length then .ok (.own (.dct ks ds)) ρ else .stuck := rfl
@[simp] theorem s_noP {ρ : Env} : noP ρ = .ok none ρ := rfl
@[simp] theorem s_someP {f : Env → R XV} {ρ : Env} : someP f ρ = (f ρ).bind fun x ρ => (match x with
  | .dat (.int i) => .ok (some i) ρ
  | _ => .stuck) := rfl
@[simp] theorem s_yes {ρ : Env} : yesT ρ = .ok true ρ := rfl
@[simp] theorem s_slice {f : Env → R XV} {fl fh} {ρ : Env} : sliceS f fl fh ρ = (opnd f ρ).bind (slO fl fh) := rfl
@[simp] theorem s_slO {x : XV} {fl fh} {ρ : Env} : slO fl fh x ρ = (fl ρ).bind fun lo ρ => (fh ρ).bind fun hi ρ => (match cont ρ x with
  | some d => match slD d lo hi with
    | some z => .ok z ρ
    | none => .stuck
  | none => .stuck) := rfl
@[simp] theorem s_slL {l : List D} {lo hi} : slD (.lst l) lo hi = some (.own (.lst (cutD l lo hi))) := rfl
@[simp] theorem s_slR {l : List D} {lo hi} : slD (.rol l) lo hi = some (.own (.lst (cutD l lo hi))) := rfl
@[simp] theorem s_slT {l : List D} {lo hi} : slD (.tup l) lo hi = some (.dat (.tup (cutD l lo hi))) := rfl
end DL
namespace DL

/-! ## sums over the choices of some of a list: by how many, and by their sum -/
def M : List Int → (Nat → Int → Int) → Int
  | [], g => g 0 0
  | w :: ws, g => M ws g + M ws (fun s t => g (s + 1) (t + w))
theorem M_add (ws : List Int) : ∀ g h, M ws (fun s t => g s t + h s t) = M ws g + M ws h := by
  induction ws with
  | nil => intro g h; rfl
  | cons w ws ih =>
    intro g h
    have e := ih (fun s t => g (s + 1) (t + w)) (fun s t => h (s + 1) (t + w))
    simp only [M, ih g h, e]; omega
theorem M_zero (ws : List Int) : M ws (fun _ _ => 0) = 0 := by
  induction ws with
  | nil => rfl
  | cons w ws ih => simp only [M, ih]; rfl
theorem M_mul (ws : List Int) (c : Int) : ∀ g, M ws (fun s t => c * g s t) = c * M ws g := by
  induction ws with
  | nil => intro g; rfl
  | cons w ws ih =>
    intro g
    have e := ih (fun s t => g (s + 1) (t + w))
    simp only [M, ih g, e, Int.mul_add]
theorem M_sub (ws : List Int) (g h : Nat → Int → Int) : M ws (fun s t => g s t - h s t) = M ws g - M ws h := by
  have e := M_add ws g (fun s t => -1 * h s t)
  rw [M_mul] at e
  have : (fun s t => g s t - h s t) = fun s t => g s t + -1 * h s t := by funext s t; omega
  rw [this, e]; omega
/-- only what is reached matters -/
theorem M_congr {ws : List Int} (hw : ∀ w ∈ ws, 0 ≤ w) : ∀ {g h : Nat → Int → Int}, (∀ s t, s ≤ ws.length → 0 ≤ t → g s t = h s t) → M ws g = M ws h := by
  induction ws with
  | nil => intro g h e; exact e 0 0 (Nat.le_refl _) (Int.le_refl _)
  | cons w ws ih =>
    intro g h e
    have h0 := hw w List.mem_cons_self
    have ih := fun {g h} => @ih (fun w hm => hw w (List.mem_cons_of_mem _ hm)) g h
    simp only [M]
    rw [ih (g := g) (h := h) fun s t hs ht => e s t (by simp; omega) ht, ih (g := fun s t => g (s + 1) (t + w)) (h := fun s t => h (s + 1) (t + w)) fun s t hs ht => e (s + 1) (t + w) (by simp; omega) (by omega)]
theorem M_snoc (ws : List Int) (w : Int) : ∀ g, M (ws ++ [w]) g = M ws g + M ws (fun s t => g (s + 1) (t + w)) := by
  induction ws with
  | nil => intro g; rfl
  | cons v ws ih =>
    intro g
    simp only [List.cons_append, M, ih]
    have : (fun (s : Nat) (t : Int) => g (s + 1 + 1) (t + v + w)) = fun s t => g (s + 1 + 1) (t + w + v) := by funext s t; congr 1; omega
    rw [this]; omega
theorem M_perm {ws vs : List Int} (p : ws.Perm vs) : ∀ g, M ws g = M vs g := by
  induction p with
  | nil => intro g; rfl
  | cons w _ ih => intro g; simp only [M, ih]
  | swap v w l =>
    intro g
    simp only [M]
    have : (fun (s : Nat) (t : Int) => g (s + 1 + 1) (t + w + v)) = fun s t => g (s + 1 + 1) (t + v + w) := by funext s t; congr 1; omega
    rw [this]; omega
  | trans _ _ h1 h2 => intro g; rw [h1, h2]
theorem M_erase {ws : List Int} {w : Int} (h : w ∈ ws) (g : Nat → Int → Int) : M ws g = M (ws.erase w) g + M (ws.erase w) (fun s t => g (s + 1) (t + w)) := by
  rw [M_perm (List.perm_cons_erase h) g]; rfl
theorem M_const (ws : List Int) (c : Int) : M ws (fun _ _ => c) = c * 2 ^ ws.length := by
  induction ws with
  | nil => simp [M]
  | cons w ws ih => simp only [M, ih, List.length_cons, Int.pow_succ]; rw [← Int.mul_assoc]; omega
/-! sums of n terms -/
def S : Nat → (Nat → Int) → Int
  | 0, _ => 0
  | n + 1, f => S n f + f n
theorem S_sum (n : Nat) (f : Nat → Int) : ((List.range n).map f).sum = S n f := by
  induction n with
  | zero => rfl
  | succ n ih => rw [List.range_succ, List.map_append, List.sum_append, ih]; simp [S]
theorem S_congr {n : Nat} {f g : Nat → Int} (h : ∀ i, i < n → f i = g i) : S n f = S n g := by
  induction n with
  | zero => rfl
  | succ n ih => simp only [S]; rw [ih fun i hi => h i (by omega), h n (by omega)]
theorem S_add (n : Nat) (f g : Nat → Int) : S n (fun i => f i + g i) = S n f + S n g := by
  induction n with
  | zero => rfl
  | succ n ih => simp only [S, ih]; omega
theorem S_zero (n : Nat) : S n (fun _ => 0) = 0 := by
  induction n with
  | zero => rfl
  | succ n ih => simp only [S, ih]; rfl
theorem S_mul (n : Nat) (c : Int) (f : Nat → Int) : S n (fun i => c * f i) = c * S n f := by
  induction n with
  | zero => simp [S]
  | succ n ih => simp only [S, ih, Int.mul_add]
theorem M_S (ws : List Int) (n : Nat) (g : Nat → Nat → Int → Int) : M ws (fun s t => S n fun i => g i s t) = S n fun i => M ws (g i) := by
  induction n with
  | zero => exact M_zero ws
  | succ n ih => simp only [S]; rw [M_add, ih]
/-- head off -/
theorem S_shift (n : Nat) (f : Nat → Int) : S (n + 1) f = f 0 + S n (fun i => f (i + 1)) := by
  induction n with
  | zero => simp [S]
  | succ n ih => rw [S, ih]; simp only [S]; omega
/-- a one at one place -/
theorem S_one (n : Nat) (t : Int) (c : Int) : S n (fun i => if t = (i : Int) then c else 0) = if 0 ≤ t ∧ t < n then c else 0 := by
  induction n with
  | zero => simp [S]; omega
  | succ n ih =>
    simp only [S, ih]
    by_cases h1 : t = (n : Int)
    · rw [if_pos h1, if_neg (by omega), if_pos (by omega)]; omega
    · rw [if_neg h1]
      by_cases h2 : 0 ≤ t ∧ t < n
      · rw [if_pos h2, if_pos (by omega)]; omega
      · rw [if_neg h2, if_neg (by omega)]; rfl
/-- of n terms those from k on -/
theorem S_from (n k : Nat) (f : Nat → Int) (h : k ≤ n) : S (n - k) (fun i => f (k + i)) = S n (fun i => if k ≤ i then f i else 0) := by
  induction n with
  | zero => have : k = 0 := by omega
            subst this; rfl
  | succ n ih =>
    by_cases hk : k ≤ n
    · rw [show n + 1 - k = (n - k) + 1 by omega, S, ih hk, S, if_pos hk, show k + (n - k) = n by omega]
    · have : k = n + 1 := by omega
      subst this
      rw [Nat.sub_self, S]
      rw [S_congr (g := fun _ => 0) fun i hi => by rw [if_neg (by omega)], S_zero]
/-! ## factorials, binomials -/
def fact : Nat → Nat
  | 0 => 1
  | n + 1 => fact n * (n + 1)
theorem fact_pos (n : Nat) : 0 < fact n := by
  induction n with
  | zero => decide
  | succ n ih => exact Nat.mul_pos ih (Nat.succ_pos n)
def bin : Nat → Nat → Nat
  | _, 0 => 1
  | 0, _ + 1 => 0
  | n + 1, k + 1 => bin n k + bin n (k + 1)
theorem bin_out : ∀ {n k : Nat}, n < k → bin n k = 0
  | 0, k + 1, _ => rfl
  | n + 1, k + 1, h => by rw [bin, bin_out (by omega), bin_out (by omega)]
  | _, 0, h => by omega
theorem bin_fact : ∀ {n k : Nat}, k ≤ n → bin n k * (fact k * fact (n - k)) = fact n
  | n, 0, _ => by cases n <;> simp [bin, fact]
  | 0, k + 1, h => by omega
  | n + 1, k + 1, h => by
    have h1 := bin_fact (n := n) (k := k) (by omega)
    rw [bin, show n + 1 - (k + 1) = n - k by omega]
    by_cases hk : k + 1 ≤ n
    · have h2 := bin_fact (n := n) (k := k + 1) hk
      have e : n - k = (n - (k + 1)) + 1 := by omega
      have e3 : fact (n - k) = fact (n - (k + 1)) * (n - k) := by rw [e, fact]
      rw [Nat.add_mul]
      have a1 : bin n k * (fact (k + 1) * fact (n - k)) = fact n * (k + 1) := by
        rw [fact, ← h1]
        simp only [Nat.mul_assoc, Nat.mul_comm, Nat.mul_left_comm]
      have a2 : bin n (k + 1) * (fact (k + 1) * fact (n - k)) = fact n * (n - k) := by
        rw [e3, ← h2]
        simp only [Nat.mul_assoc, Nat.mul_comm, Nat.mul_left_comm]
      rw [a1, a2, fact, ← Nat.mul_add]
      congr 1; omega
    · have : k = n := by omega
      subst this
      have e0 : fact 0 = 1 := rfl
      rw [Nat.sub_self, e0, Nat.mul_one] at h1
      rw [bin_out (by omega : k < k + 1), Nat.sub_self, Nat.add_zero, e0, Nat.mul_one, show fact (k + 1) = fact k * (k + 1) from rfl, ← Nat.mul_assoc, h1]
theorem bin_eq {n k : Nat} (h : k ≤ n) : fact n / (fact k * fact (n - k)) = bin n k := by
  rw [← bin_fact h]
  exact Nat.mul_div_cancel _ (Nat.mul_pos (fact_pos _) (fact_pos _))
/-- some of n equal ones -/
theorem M_same (n : Nat) (w : Int) : ∀ g, M (List.replicate n w) g = S (n + 1) (fun k => (bin n k : Int) * g k (k * w)) := by
  induction n with
  | zero => intro g; simp [M, S, bin]
  | succ n ih =>
    intro g
    rw [List.replicate_succ, M, ih, ih, S_shift (n + 1)]
    have e1 : S (n + 1) (fun k => (bin n k : Int) * g k (k * w)) = g 0 0 + S n (fun k => (bin n (k + 1) : Int) * g (k + 1) ((k + 1 : Nat) * w)) := by
      rw [S_shift]; cases n <;> simp [bin]
    have e2 : S (n + 1) (fun i => (bin (n + 1) (i + 1) : Int) * g (i + 1) ((i + 1 : Nat) * w)) = S (n + 1) (fun k => (bin n k : Int) * g (k + 1) (k * w + w)) + S (n + 1) (fun k => (bin n (k + 1) : Int) * g (k + 1) ((k + 1 : Nat) * w)) := by
      rw [← S_add]
      refine S_congr fun i _ => ?_
      rw [bin]
      have : ((i + 1 : Nat) : Int) * w = i * w + w := by rw [Int.natCast_add, Int.add_mul]; omega
      rw [this, Int.natCast_add, Int.add_mul]
    have e3 : S (n + 1) (fun k => (bin n (k + 1) : Int) * g (k + 1) ((k + 1 : Nat) * w)) = S n (fun k => (bin n (k + 1) : Int) * g (k + 1) ((k + 1 : Nat) * w)) := by
      rw [S, bin_out (by omega : n < n + 1)]; omega
    rw [e1, e2, e3]
    have e4 : ((bin (n + 1) 0 : Nat) : Int) * g 0 (((0 : Nat) : Int) * w) = g 0 0 := by simp [bin]
    rw [e4]; omega
theorem M_bound {ws : List Int} {B : Int} : ∀ {g : Nat → Int → Int}, (∀ s t, 0 ≤ g s t ∧ g s t ≤ B) → 0 ≤ M ws g ∧ M ws g ≤ B * 2 ^ ws.length := by
  induction ws with
  | nil => intro g h; have := h 0 0; simpa [M] using this
  | cons w ws ih =>
    intro g h
    have h1 := ih h
    have h2 := ih (g := fun s t => g (s + 1) (t + w)) fun s t => h _ _
    simp only [M, List.length_cons, Int.pow_succ]
    rw [← Int.mul_assoc]
    omega
end DL
namespace DL
open PySem L2

/-! ## data that stand for plain values -/
structure Enc (α : Type) where
  enc : α → D
  pd : α → PyData
  dep : Nat
  hto : ∀ a, toP (enc a) = some (pd a)
  hlay : ∀ a, (pd a).canLay0 = true
  hdep : ∀ a, (pd a).depth ≤ dep
  heqv : ∀ a b, PyData.eqv (pd a) (pd b) = true ↔ a = b
def encI : Enc Int := ⟨.int, .int, 0, fun _ => rfl, fun _ => by simp [PyData.canLay0], fun _ => by simp [PyData.depth], fun a b => by simp [PyData.eqv]⟩
def encB : Enc Bool := ⟨.bl, .bool, 0, fun _ => rfl, fun _ => by simp [PyData.canLay0], fun _ => by simp [PyData.depth], fun a b => by simp [PyData.eqv]⟩
section
variable {α β : Type} (E : Enc α) (F : Enc β)
theorem Enc.toPs : ∀ l : List α, DL.toPs (l.map E.enc) = some (l.map E.pd)
  | [] => by simp [DL.toPs]
  | a :: l => by simp [DL.toPs, E.hto, Enc.toPs l]
theorem Enc.lays : ∀ l : List α, PyData.canLayAll0 (l.map E.pd) = true
  | [] => by simp [PyData.canLayAll0]
  | a :: l => by simp [PyData.canLayAll0, E.hlay, Enc.lays l]
theorem Enc.deps : ∀ l : List α, PyData.depthAll (l.map E.pd) ≤ E.dep
  | [] => by simp [PyData.depthAll]
  | a :: l => by
    have := E.hdep a
    have := Enc.deps l
    simp only [List.map_cons, PyData.depthAll]; omega
theorem Enc.eqvs : ∀ l k : List α, PyData.eqvAll (l.map E.pd) (k.map E.pd) = true ↔ l = k
  | [], [] => by simp [PyData.eqvAll]
  | [], _ :: _ => by simp [PyData.eqvAll]
  | _ :: _, [] => by simp [PyData.eqvAll]
  | a :: l, b :: k => by simp [PyData.eqvAll, E.heqv, Enc.eqvs l k]
def encT : Enc (List α) := ⟨fun l => .tup (l.map E.enc), fun l => .tuple (l.map E.pd), E.dep + 1, fun l => by simp [toP, E.toPs], fun l => by simp [PyData.canLay0, E.lays], fun l => by have := E.deps l; simp only [PyData.depth]; omega, fun a b => by simp [PyData.eqv, E.eqvs]⟩
def encL : Enc (List α) := ⟨fun l => .lst (l.map E.enc), fun l => .list (l.map E.pd), E.dep + 1, fun l => by simp [toP, E.toPs], fun l => by simp [PyData.canLay0, E.lays], fun l => by have := E.deps l; simp only [PyData.depth]; omega, fun a b => by simp [PyData.eqv, E.eqvs]⟩
def encP : Enc (α × β) := ⟨fun p => .tup [E.enc p.1, F.enc p.2], fun p => .tuple [E.pd p.1, F.pd p.2], max E.dep F.dep + 1, fun l => by simp [toP, DL.toPs, E.hto, F.hto], fun l => by simp [PyData.canLay0, PyData.canLayAll0, E.hlay, F.hlay],
  fun l => by have := E.hdep l.1; have := F.hdep l.2; simp only [PyData.depth, PyData.depthAll]; omega, fun a b => by simp [PyData.eqv, PyData.eqvAll, E.heqv, F.heqv, Prod.ext_iff]⟩
theorem Enc.shaped (h : E.dep ≤ 64) (a : α) : SeqAt.shaped (E.pd a) = true := by
  unfold SeqAt.shaped
  have := E.hdep a
  simp [E.hlay]; omega
theorem Enc.eqv (a b : α) [Decidable (a = b)] : PyData.eqv (E.pd a) (E.pd b) = decide (a = b) := by
  rw [Bool.eq_iff_iff, decide_eq_true_iff]; exact E.heqv a b
theorem Enc.eqD (h : E.dep ≤ 64) (a b : α) [Decidable (a = b)] : DL.eqD (E.enc a) (E.enc b) = some (.dat (.bl (decide (a = b)))) := by
  unfold DL.eqD eqDat
  rw [E.hto, E.hto]
  dsimp only
  rw [if_pos ⟨E.shaped h a, E.shaped h b⟩, E.eqv]; rfl
theorem Enc.neD (h : E.dep ≤ 64) (a b : α) [Decidable (a = b)] : DL.neD (E.enc a) (E.enc b) = some (.dat (.bl (!decide (a = b)))) := by
  unfold DL.neD eqDat
  rw [E.hto, E.hto]
  dsimp only
  rw [if_pos ⟨E.shaped h a, E.shaped h b⟩, E.eqv]; rfl
theorem Enc.any (a : α) (l : List α) [Decidable (a ∈ l)] : (l.map E.pd).any (fun z => PyData.eqv z (E.pd a)) = decide (a ∈ l) := by
  rw [Bool.eq_iff_iff, decide_eq_true_iff, List.any_eq_true]
  constructor
  · rintro ⟨z, h1, h2⟩
    obtain ⟨b, hb, rfl⟩ := List.mem_map.mp h1
    exact ((E.heqv b a).mp h2) ▸ hb
  · exact fun h => ⟨_, List.mem_map.mpr ⟨a, h, rfl⟩, (E.heqv a a).mpr rfl⟩
theorem Enc.inDat (h : E.dep ≤ 64) (a : α) (l : List α) [Decidable (a ∈ l)] {d : D} (hd : seqD d = some (l.map E.enc)) : DL.inDat (E.enc a) d = some (decide (a ∈ l)) := by
  unfold DL.inDat
  rw [hd]
  dsimp only
  rw [E.hto, E.toPs]
  dsimp only
  rw [if_pos ⟨E.shaped h a, E.lays l⟩, E.any]
theorem Enc.inS (h : E.dep ≤ 64) (a : α) (l : List α) [Decidable (a ∈ l)] {d : D} (hd : seqD d = some (l.map E.enc)) : DL.inS (E.enc a) d = some (.dat (.bl (decide (a ∈ l)))) := by
  unfold DL.inS; rw [E.inDat h a l hd]; rfl
theorem Enc.notInS (h : E.dep ≤ 64) (a : α) (l : List α) [Decidable (a ∈ l)] {d : D} (hd : seqD d = some (l.map E.enc)) : DL.notInS (E.enc a) d = some (.dat (.bl (!decide (a ∈ l)))) := by
  unfold DL.notInS; rw [E.inDat h a l hd]; rfl
end
/-! ### whole numbers, lots -/
abbrev Lot := List Int
abbrev lotD (l : Lot) : D := .tup (l.map .int)
theorem lotD_enc : lotD = (encT encI).enc := rfl
theorem eq_lot (a b : Lot) : eqD (lotD a) (lotD b) = some (.dat (.bl (decide (a = b)))) := (encT encI).eqD (by decide) a b
theorem ne_lot (a b : Lot) : neD (lotD a) (lotD b) = some (.dat (.bl (!decide (a = b)))) := (encT encI).neD (by decide) a b
theorem ne_int (a b : Int) : neD (.int a) (.int b) = some (.dat (.bl (!decide (a = b)))) := encI.neD (by decide) a b
theorem eq_bl (a b : Bool) : eqD (.bl a) (.bl b) = some (.dat (.bl (decide (a = b)))) := encB.eqD (by decide) a b
theorem ne_bl (a b : Bool) : neD (.bl a) (.bl b) = some (.dat (.bl (!decide (a = b)))) := encB.neD (by decide) a b
theorem in_intT (a : Int) (l : List Int) : inS (.int a) (.tup (l.map .int)) = some (.dat (.bl (decide (a ∈ l)))) := encI.inS (by decide) a l rfl
theorem in_lot (a : Int) (l : Lot) : inS (.int a) (lotD l) = some (.dat (.bl (decide (a ∈ l)))) := encI.inS (by decide) a l rfl
theorem nin_lot (a : Int) (l : Lot) : notInS (.int a) (lotD l) = some (.dat (.bl (!decide (a ∈ l)))) := encI.notInS (by decide) a l rfl
theorem in_lotsL (a : Lot) (l : List Lot) : inS (lotD a) (.lst (l.map lotD)) = some (.dat (.bl (decide (a ∈ l)))) := (encT encI).inS (by decide) a l rfl
theorem nin_lotsL (a : Lot) (l : List Lot) : notInS (lotD a) (.lst (l.map lotD)) = some (.dat (.bl (!decide (a ∈ l)))) := (encT encI).notInS (by decide) a l rfl
theorem in_lotsT (a : Lot) (l : List Lot) : inS (lotD a) (.tup (l.map lotD)) = some (.dat (.bl (decide (a ∈ l)))) := (encT encI).inS (by decide) a l rfl
theorem isE {α : Type} [DecidableEq α] (l : List α) : decide (l = []) = l.isEmpty := by cases l <;> simp
theorem eq_intsN (l : List Int) : eqD (.lst (l.map .int)) (.lst []) = some (.dat (.bl l.isEmpty)) := by
  have := (encL encI).eqD (by decide) l []
  rw [isE] at this; exact this
theorem ne_intsN (l : List Int) : neD (.lst (l.map .int)) (.lst []) = some (.dat (.bl (!l.isEmpty))) := by
  have := (encL encI).neD (by decide) l []
  rw [isE] at this; exact this
theorem eq_lotsN (l : List Lot) : eqD (.lst (l.map lotD)) (.lst []) = some (.dat (.bl l.isEmpty)) := by
  have := (encL (encT encI)).eqD (by decide) l []
  rw [isE] at this; exact this
theorem ne_lotsN (l : List Lot) : neD (.lst (l.map lotD)) (.lst []) = some (.dat (.bl (!l.isEmpty))) := by
  have := (encL (encT encI)).neD (by decide) l []
  rw [isE] at this; exact this
abbrev bpD (p : Bool × Bool) : D := .tup [.bl p.1, .bl p.2]
theorem nin_bp (a : Bool × Bool) (l : List (Bool × Bool)) : notInS (bpD a) (.lst (l.map bpD)) = some (.dat (.bl (!decide (a ∈ l)))) := (encP encB encB).notInS (by decide) a l rfl
/-! ### sorted -/
theorem sle_int (a b : Int) : sleD (.int a) (.int b) = decide (a ≤ b) := by
  have := congrFun (congrFun (PySem.W.dataLe_int (fun x : Int => x)) a) b
  exact this
theorem sle_lot (a b : Lot) : sleD (lotD a) (lotD b) = decide (a ≤ b) := by
  have e : ∀ l : Lot, encD (lotD l) = .tuple (l.map .int) := fun l => by
    show (toP ((encT encI).enc l)).getD .none = _
    rw [(encT encI).hto]; rfl
  show (!PySem.W.dataLt (encD (lotD b)) (encD (lotD a))) = _
  rw [e, e, PySem.W.dataLt_tuple]
  show (!PySem.W.rowLt (b.map .int) (a.map .int)) = _
  rw [PySem.W.dataLt_ints]
  by_cases h : b < a
  · have h' : ¬ a ≤ b := fun r => List.not_lt.mpr r h
    simp [h, h']
  · have h' : a ≤ b := List.not_lt.mp h
    simp [h, h']
def sortI (l : List Int) : List Int := l.mergeSort fun a b => decide (a ≤ b)
def sortLots (l : List Lot) : List Lot := l.mergeSort fun a b => decide (a ≤ b)
theorem sort_ints (l : List Int) : (l.map D.int).mergeSort sleD = (sortI l).map D.int := (List.map_mergeSort fun a _ b _ => (sle_int a b).symm).symm
theorem sort_lots (l : List Lot) : (l.map lotD).mergeSort sleD = (sortLots l).map lotD := (List.map_mergeSort fun a _ b _ => (sle_lot a b).symm).symm
open PySem.W (alike alikeAll) in
theorem alike_ints : ∀ a b : List Int, alikeAll (a.map PyData.int) (b.map PyData.int) = true
  | [], [] => by simp [alikeAll]
  | [], _ :: _ => by simp [alikeAll]
  | _ :: _, [] => by simp [alikeAll]
  | x :: a, y :: b => by simp [alikeAll, alike, alike_ints a b]
theorem sortOk_ints {l : List Int} (h : l.length ≤ LIM) : sortOk (l.map .int) = true := by
  unfold sortOk
  rw [Bool.and_eq_true, Bool.and_eq_true, decide_eq_true_eq, List.length_map]
  refine ⟨⟨h, List.all_eq_true.mpr fun d hd => ?_⟩, List.all_eq_true.mpr fun d hd => List.all_eq_true.mpr fun e he => ?_⟩
  · obtain ⟨x, _, rfl⟩ := List.mem_map.mp hd
    simp [encD, toP, isNoneP, PyData.depth]
  · obtain ⟨x, _, rfl⟩ := List.mem_map.mp hd
    obtain ⟨y, _, rfl⟩ := List.mem_map.mp he
    simp [encD, toP, PySem.W.alike]
theorem sortOk_lots {l : List Lot} (h : l.length ≤ LIM) : sortOk (l.map lotD) = true := by
  have e : ∀ l : Lot, toP (lotD l) = some (.tuple (l.map .int)) := (encT encI).hto
  have dp : ∀ l : Lot, (PyData.tuple (l.map .int)).depth ≤ 1 := (encT encI).hdep
  unfold sortOk
  rw [Bool.and_eq_true, Bool.and_eq_true, decide_eq_true_eq, List.length_map]
  refine ⟨⟨h, List.all_eq_true.mpr fun d hd => ?_⟩, List.all_eq_true.mpr fun d hd => List.all_eq_true.mpr fun d' he => ?_⟩
  · obtain ⟨x, _, rfl⟩ := List.mem_map.mp hd
    have := dp x
    simp only [encD, e, Option.getD, isNoneP, Bool.and_eq_true, decide_eq_true_eq]
    exact ⟨⟨rfl, rfl⟩, by omega⟩
  · obtain ⟨x, _, rfl⟩ := List.mem_map.mp hd
    obtain ⟨y, _, rfl⟩ := List.mem_map.mp he
    simp only [encD, e, Option.getD]
    simp [PySem.W.alike, alike_ints]
theorem sortL_ints {l : List Int} (h : l.length ≤ LIM) : sortL [.lst (l.map .int)] = some (.own (.lst ((sortI l).map .int))) := by
  rw [s_sortL, s_seqL, Option.bind_some, if_pos (sortOk_ints h), sort_ints]
theorem sortL_intsT {l : List Int} (h : l.length ≤ LIM) : sortL [.tup (l.map .int)] = some (.own (.lst ((sortI l).map .int))) := by
  rw [s_sortL, s_seqT, Option.bind_some, if_pos (sortOk_ints h), sort_ints]
theorem sortL_lots {l : List Lot} (h : l.length ≤ LIM) : sortL [.lst (l.map lotD)] = some (.own (.lst ((sortLots l).map lotD))) := by
  rw [s_sortL, s_seqL, Option.bind_some, if_pos (sortOk_lots h), sort_lots]
theorem sortI_perm (l : List Int) : (sortI l).Perm l := List.mergeSort_perm _ _
theorem sortLots_perm (l : List Lot) : (sortLots l).Perm l := List.mergeSort_perm _ _
theorem sortI_le (l : List Int) : (sortI l).Pairwise (· ≤ ·) := by
  have := List.pairwise_mergeSort (le := fun a b : Int => decide (a ≤ b)) (by intro a b c; simp; omega) (by intro a b; simp; omega) l
  exact this.imp fun h => of_decide_eq_true h
theorem sortLots_le (l : List Lot) : (sortLots l).Pairwise (· ≤ ·) := by
  have := List.pairwise_mergeSort (le := fun a b : Lot => decide (a ≤ b)) (by intro a b c; simp; exact fun h h' => List.le_trans h h') (by intro a b; simp; exact List.le_total a b) l
  exact this.imp fun h => of_decide_eq_true h
theorem lots_ext {a b : List Lot} (ha : a.Pairwise (· ≤ ·)) (hb : b.Pairwise (· ≤ ·)) (p : a.Perm b) : a = b := List.Perm.eq_of_pairwise (fun x y _ _ h h' => List.le_antisymm h h') ha hb p
/-- strictly ascending -/
def Asc (l : Lot) : Prop := l.Pairwise (· < ·)
theorem asc_sort {l : List Int} (h : l.Nodup) : Asc (sortI l) := by
  have h1 := sortI_le l
  have h2 : (sortI l).Nodup := (sortI_perm l).nodup_iff.mpr h
  unfold Asc
  refine (h1.and h2).imp fun ⟨x, y⟩ => ?_
  omega
theorem Asc.nodup {l : Lot} (h : Asc l) : l.Nodup := h.imp fun h => by omega
theorem asc_ext {a b : Lot} (ha : Asc a) (hb : Asc b) (h : ∀ x, x ∈ a ↔ x ∈ b) : a = b := by
  refine List.Perm.eq_of_pairwise (le := fun a b : Int => a ≤ b) (fun x y _ _ h h' => by omega) (ha.imp fun h => by omega) (hb.imp fun h => by omega) ?_
  exact (List.perm_ext_iff_of_nodup ha.nodup hb.nodup).mpr h
/-! ### comprehensions: those that pass, each made one -/
theorem lcR_flt {α : Type} {vs : List Nat} {ft : D → Env → Option Env} {tt : Env → R Bool} {fe : Env → R XV} {L : List α} {it : α → D} (p : α → Bool) (y : α → D) {ρ : Env} (hc : clear vs ρ = true) (hl : L.length ≤ LIM)
    (h : ∀ x ∈ L, ∃ ρ1 ρ2, ft (it x) (forget vs ρ) = some ρ1 ∧ tt ρ1 = .ok (p x) ρ2 ∧ (p x = true → ∃ ρ3, valS fe ρ2 = .ok (y x) ρ3 ∧ forget vs ρ3 = forget vs ρ) ∧ (p x = false → forget vs ρ2 = forget vs ρ)) :
    lcR vs ft tt fe (L.map it) ρ = .ok (.own (.lst ((L.filter p).map y))) (restore vs ρ (forget vs ρ)) := by
  rw [lcR_map (y := fun x => if p x = true then some (y x) else none) hc hl fun x hx => ?_]
  · congr 3
    clear h hl
    induction L with
    | nil => rfl
    | cons x L ih =>
      rw [List.filterMap_cons, List.filter_cons]
      cases z : p x <;> simp [ih]
  · obtain ⟨ρ1, ρ2, h1, h2, h3, h4⟩ := h x hx
    refine ⟨ρ1, p x, ρ2, h1, h2, fun z => ?_, fun z => ⟨by rw [if_neg (by rw [z]; decide)], h4 z⟩⟩
    obtain ⟨ρ3, e1, e2⟩ := h3 z
    exact ⟨_, ρ3, e1, by rw [if_pos z], e2⟩
/-! ### more of how mirrors are run -/
@[simp] theorem s_setFld {cs i nm f} {ρ : Env} : setFldS cs i nm f ρ = (valS f ρ).bind (setFldO cs i nm) := rfl
@[simp] theorem s_setFldO {cs i nm} {d : D} {ρ : Env} : setFldO cs i nm d ρ = (match ρ.at i with
  | .own (.ins c ns vs) => if cs.contains c = true ∧ ns.length < 1000 then .ok .nx (ρ.set i (.own (.ins c (putNs nm ns) (putVs nm d ns vs)))) else .stuck
  | _ => .stuck) := rfl
@[simp] theorem s_makeS {c : String} {g : FnM} {fs : Env → R (List XV)} {ρ : Env} : makeS c g fs ρ = (fs ρ).bind fun xs ρ => makeF c g xs ρ := rfl
@[simp] theorem s_makeF {c : String} {g : FnM} {xs : List XV} {ρ : Env} : makeF c g xs ρ = (match callF g (.slot ρ.length :: xs) (ρ ++ [.own (.ins c [] [])]) with
  | .ok (.dat .non) ρ1 => match ρ1.at ρ.length with
    | .own d => .ok (.own d) (ρ1.take ρ.length)
    | _ => .stuck
  | .exc c ns vs ρ1 => .exc c ns vs (ρ1.take ρ.length)
  | _ => .stuck) := rfl
@[simp] theorem s_starS {f : Env → R XV} {fs : Env → R (List XV)} {ρ : Env} : starS f fs ρ = (valS f ρ).bind (starO fs) := rfl
@[simp] theorem s_starO {fs : Env → R (List XV)} {d : D} {ρ : Env} : starO fs d ρ = (match seqD d with
  | some l => (fs ρ).bind fun xs ρ => .ok (l.map XV.dat ++ xs) ρ
  | none => .stuck) := rfl
theorem bls_map {α : Type} (f : α → Bool) (l : List α) : blsD (l.map fun x => D.bl (f x)) = some (l.map f) := by
  induction l with
  | nil => rfl
  | cons a l ih => simp only [List.map_cons, blsD, ih]; rfl
theorem all_map {α : Type} (f : α → Bool) (l : List α) : allL [.lst (l.map fun x => D.bl (f x))] = some (.dat (.bl (l.all f))) := by
  show ((blsD _).map fun bs => xbl (bs.all id)) = _
  rw [bls_map, Option.map_some, List.all_map]; rfl
theorem all_tt {α : Type} (l : List α) : allL [.lst (l.map fun _ => D.bl true)] = some (.dat (.bl true)) := by
  rw [all_map, List.all_eq_true.mpr fun _ _ => rfl]
theorem any_map {α : Type} (f : α → Bool) (l : List α) : anyL [.lst (l.map fun x => D.bl (f x))] = some (.dat (.bl (l.any f))) := by
  show ((blsD _).map fun bs => xbl (bs.any id)) = _
  rw [bls_map, Option.map_some, List.any_map]; rfl
theorem lens_lots : ∀ l : List Lot, lensT (l.map lotD) = some (l.map List.length)
  | [] => rfl
  | x :: l => by simp [lensT, lenT, lens_lots l]
/-- sorted(lots, key=len) -/
def sortLen (l : List Lot) : List Lot := ((l.map fun x => (x, x.length)).mergeSort fun a b => decide (a.2 ≤ b.2)).map Prod.fst
theorem sortLen_perm (l : List Lot) : (sortLen l).Perm l := by
  have := (List.mergeSort_perm (l.map fun x => (x, x.length)) fun a b => decide (a.2 ≤ b.2)).map Prod.fst
  rwa [List.map_map, show (Prod.fst ∘ fun x : Lot => (x, x.length)) = id from rfl, List.map_id] at this
theorem sortLen_le (l : List Lot) : (sortLen l).Pairwise fun a b => a.length ≤ b.length := by
  have h := List.pairwise_mergeSort (le := fun a b : Lot × Nat => decide (a.2 ≤ b.2)) (by intro a b c; simp; omega) (by intro a b; simp; omega) (l.map fun x => (x, x.length))
  have m : ∀ p ∈ (l.map fun x => (x, x.length)).mergeSort (fun a b => decide (a.2 ≤ b.2)), p.2 = p.1.length := fun p hp => by
    obtain ⟨x, _, rfl⟩ := List.mem_map.mp ((List.mergeSort_perm _ _).mem_iff.mp hp)
    rfl
  unfold sortLen
  rw [List.pairwise_map]
  refine List.Pairwise.imp_of_mem (fun {a b} ha hb h => ?_) h
  rw [← m a ha, ← m b hb]
  exact of_decide_eq_true h
theorem lotsLen_ok {l : List Lot} (h : l.length ≤ LIM) {d : D} (hd : seqD d = some (l.map lotD)) : sortLenD d = some (.own (.lst ((sortLen l).map lotD))) := by
  unfold sortLenD
  rw [hd, Option.bind_some, lens_lots, Option.bind_some, if_pos (by rwa [List.length_map])]
  have e : (l.map lotD).zip (l.map List.length) = (l.map fun x => (x, x.length)).map fun p => (lotD p.1, p.2) := by
    rw [List.map_map]
    clear hd h
    induction l with
    | nil => rfl
    | cons x l ih => rw [List.map_cons, List.map_cons, List.zip_cons_cons, ih]; rfl
  rw [e, ← List.map_mergeSort (r := fun a b : Lot × Nat => decide (a.2 ≤ b.2)) fun a _ b _ => rfl, List.map_map]
  unfold sortLen
  rw [List.map_map]; rfl
theorem at_nat {l : List D} {i : Nat} {d : D} (h : l[i]? = some d) : atI l (i : Int) = some d := by
  have hl : i < l.length := (List.getElem?_eq_some_iff.mp h).1
  unfold atI ixN
  rw [if_pos (by omega), if_pos (by omega)]
  simpa using h
/-- each item passes, nothing changes -/
theorem forL_same {fg : List Nat} {ft : D → Env → Option Env} {fb : Env → R Out} (l : List D) (ρ : Env) (h : ∀ d ∈ l, ∃ ρ1 ρ2, ft d (forget fg ρ) = some ρ1 ∧ fb ρ1 = .ok .nx ρ2 ∧ forget fg ρ2 = forget fg ρ) : forL fg ft fb l ρ = .ok .nx (forget fg ρ) :=
  forL_st l (fun _ => forget fg ρ) ρ rfl fun i hi => h l[i] (List.getElem_mem hi)
theorem lc2R_flat {α : Type} {vs vs1 : List Nat} {ft ft1 : D → Env → Option Env} {tt tt1 : Env → R Bool} {fi1 : Env → R (List D)} {fe : Env → R XV} {L : List α} {it : α → D} {ys : α → List D} {ρ : Env} (hc : clear vs ρ = true) (hl : (L.flatMap ys).length ≤ LIM)
    (h : ∀ x ∈ L, ∃ ρ1 ρ2 ρ3, ft (it x) (forget vs ρ) = some ρ1 ∧ tt ρ1 = .ok true ρ2 ∧ fi1 ρ2 = .ok (ys x) ρ3 ∧ ∀ acc, acc.length + (ys x).length ≤ LIM → ∃ ρ4, lcL vs1 ft1 tt1 fe (ys x) acc (forget vs1 ρ3) = .ok (acc ++ ys x) ρ4 ∧ forget vs ρ4 = forget vs ρ) :
    lc2R vs vs1 ft tt fi1 ft1 tt1 fe (L.map it) ρ = .ok (.own (.lst (L.flatMap ys))) (restore vs ρ (forget vs ρ)) := by
  have key : ∀ (l : List α) (acc : List D), (∀ x ∈ l, x ∈ L) → acc.length + (l.flatMap ys).length ≤ LIM → lc2L vs vs1 ft tt fi1 ft1 tt1 fe (l.map it) acc (forget vs ρ) = .ok (acc ++ l.flatMap ys) (forget vs ρ) := by
    intro l
    induction l with
    | nil => intro acc _ _; simp [lc2L]
    | cons x l ih =>
      intro acc hm hlen
      rw [List.flatMap_cons, List.length_append] at hlen
      obtain ⟨ρ1, ρ2, ρ3, h1, h2, h3, h4⟩ := h x (hm x List.mem_cons_self)
      obtain ⟨ρ4, h5, h6⟩ := h4 acc (by omega)
      rw [List.map_cons, lc2L, h1]
      dsimp only
      rw [h2]
      dsimp only
      rw [h3]
      dsimp only
      rw [h5]
      dsimp only
      rw [h6, ih (acc ++ ys x) (fun z hz => hm z (List.mem_cons_of_mem _ hz)) (by rw [List.length_append]; omega), List.flatMap_cons, List.append_assoc]
  unfold lc2R
  rw [if_pos hc, key L [] (fun _ h => h) (by simpa using hl)]
  simp
@[simp] theorem s_isiCls {c : String} {ns vs} : isiOp (tCls c) (.ins c ns vs) = some (.dat (.bl true)) := by
  simp [isiOp, isiD, tCls, xbl]
theorem cut_from {l : List D} {k : Nat} : cutD l (some (k : Int)) none = l.drop k := by
  unfold cutD
  rw [HT.sIx_none, HT.sIx_nat]
  by_cases h : k ≤ l.length
  · rw [Nat.min_eq_left h]
    exact List.take_of_length_le (by rw [List.length_drop]; omega)
  · rw [Nat.min_eq_right (by omega), List.drop_of_length_le (Nat.le_refl _), List.drop_of_length_le (by omega), List.take_nil]
theorem cut_to {l : List D} {k : Nat} : cutD l none (some (k : Int)) = l.take k := by
  unfold cutD
  rw [HT.sIx_none, HT.sIx_nat]
  by_cases h : k ≤ l.length
  · rw [Nat.min_eq_left h]; simp
  · rw [Nat.min_eq_right (by omega)]
    simp only [List.drop_zero, Nat.sub_zero, List.take_length]
    rw [List.take_of_length_le (by omega)]
theorem cut_1 {l : List D} : cutD l (some 1) none = l.tail := by
  rw [show (1 : Int) = ((1 : Nat) : Int) from rfl, cut_from, List.drop_one]
theorem downD_eq (lo : Int) (n : Nat) : downD lo n = (List.range n).map fun (i : Nat) => D.int (lo - (i : Int)) := by
  apply List.ext_getElem?
  intro i
  by_cases h : i < n
  · rw [downD_get lo n i h]; simp [h]; omega
  · rw [List.getElem?_eq_none (by rw [downD_len]; omega), List.getElem?_eq_none (by simp; omega)]
end DL
namespace DL
open PySem L2

/-! ## lots of members: plain mathematics -/
theorem nodup_len {α : Type} [DecidableEq α] : ∀ {l m : List α}, l.Nodup → (∀ x ∈ l, x ∈ m) → l.length ≤ m.length
  | [], _, _, _ => Nat.zero_le _
  | a :: l, m, hd, h => by
    have hd' := List.nodup_cons.mp hd
    have ha := h a List.mem_cons_self
    have := nodup_len (l := l) (m := m.erase a) hd'.2 fun x hx => (List.mem_erase_of_ne fun (e : x = a) => hd'.1 (e ▸ hx)).mpr (h x (List.mem_cons_of_mem _ hx))
    have e := List.length_erase_of_mem ha
    have := List.length_pos_of_mem ha
    rw [List.length_cons]; omega
theorem nodup_back {α : Type} [DecidableEq α] {l m : List α} (hd : l.Nodup) (h : ∀ x ∈ l, x ∈ m) (hl : m.length ≤ l.length) : ∀ y ∈ m, y ∈ l := fun y hy => Classical.byContradiction fun z => by
  have := nodup_len (m := m.erase y) hd fun x hx => (List.mem_erase_of_ne fun (e : x = y) => z (e ▸ hx)).mpr (h x hx)
  have e := List.length_erase_of_mem hy
  have := List.length_pos_of_mem hy
  omega
def within (a b : Lot) : Bool := a.all fun x => decide (x ∈ b)
def car (ls : List Lot) (x : Lot) : Bool := ls.any fun one => within one x
def mem (n : Nat) : List Int := (List.range n).map fun (i : Nat) => (i : Int)
def rest (n : Nat) (x : Lot) : Lot := (mem n).filter fun m => !decide (m ∈ x)
def drop1 (x : Lot) (m : Int) : Lot := x.filter fun one => !decide (one = m)
def pw : Nat → List Lot
  | 0 => [[]]
  | n + 1 => pw n ++ (pw n).map fun x => x ++ [(n : Int)]
structure LotOk (n : Nat) (x : Lot) : Prop where
  asc : Asc x
  lt : ∀ m ∈ x, 0 ≤ m ∧ m < n
theorem within_iff {a b : Lot} : within a b = true ↔ ∀ x ∈ a, x ∈ b := by simp [within]
theorem within_refl (a : Lot) : within a a = true := within_iff.mpr fun _ h => h
theorem within_trans {a b c : Lot} (h : within a b = true) (h' : within b c = true) : within a c = true := within_iff.mpr fun x hx => within_iff.mp h' x (within_iff.mp h x hx)
theorem car_iff {ls : List Lot} {x : Lot} : car ls x = true ↔ ∃ one ∈ ls, within one x = true := by simp [car]
theorem car_up {ls : List Lot} {x y : Lot} (h : car ls x = true) (h' : within x y = true) : car ls y = true := by
  obtain ⟨one, h1, h2⟩ := car_iff.mp h
  exact car_iff.mpr ⟨one, h1, within_trans h2 h'⟩
theorem mem_mem {n : Nat} {m : Int} : m ∈ mem n ↔ 0 ≤ m ∧ m < n := by
  unfold mem
  rw [List.mem_map]
  constructor
  · rintro ⟨i, hi, rfl⟩
    have := List.mem_range.mp hi
    omega
  · rintro ⟨h1, h2⟩
    exact ⟨m.toNat, List.mem_range.mpr (by omega), by omega⟩
theorem mem_asc (n : Nat) : Asc (mem n) := by
  unfold Asc mem
  rw [List.pairwise_map]
  exact List.pairwise_lt_range.imp fun h => by omega
theorem mem_len (n : Nat) : (mem n).length = n := by simp [mem]
theorem mem_rest {n : Nat} {x : Lot} {m : Int} : m ∈ rest n x ↔ (0 ≤ m ∧ m < n) ∧ m ∉ x := by
  unfold rest
  rw [List.mem_filter, mem_mem]
  simp
theorem LotOk.sub {n : Nat} {x : Lot} (h : LotOk n x) (p : Int → Bool) : LotOk n (x.filter p) := ⟨List.Pairwise.filter _ h.asc, fun m hm => h.lt m (List.mem_filter.mp hm).1⟩
theorem lotOk_mem (n : Nat) : LotOk n (mem n) := ⟨mem_asc n, fun m hm => mem_mem.mp hm⟩
theorem lotOk_rest (n : Nat) (x : Lot) : LotOk n (rest n x) := (lotOk_mem n).sub _
theorem lotOk_drop {n : Nat} {x : Lot} (h : LotOk n x) (m : Int) : LotOk n (drop1 x m) := h.sub _
theorem rest_rest {n : Nat} {x : Lot} (h : LotOk n x) : rest n (rest n x) = x := by
  refine asc_ext (lotOk_rest n _).asc h.asc fun m => ?_
  rw [mem_rest, mem_rest]
  constructor
  · rintro ⟨h1, h2⟩
    exact Classical.byContradiction fun z => h2 ⟨h1, z⟩
  · exact fun hm => ⟨h.lt m hm, fun z => z.2 hm⟩
theorem LotOk.ext {n : Nat} {x y : Lot} (h : LotOk n x) (h' : LotOk n y) (h1 : within x y = true) (h2 : within y x = true) : x = y := asc_ext h.asc h'.asc fun m => ⟨within_iff.mp h1 m, within_iff.mp h2 m⟩
theorem LotOk.len {n : Nat} {x : Lot} (h : LotOk n x) : x.length ≤ n := by
  have h1 : x.Nodup := h.asc.nodup
  have := nodup_len h1 fun m hm => (mem_mem (n := n)).mpr (h.lt m hm)
  rwa [mem_len] at this
/-! ### all lots -/
theorem pw_len : ∀ n, (pw n).length = 2 ^ n
  | 0 => rfl
  | n + 1 => by rw [pw, List.length_append, List.length_map, pw_len n, Nat.pow_succ]; omega
theorem asc_snoc {x : Lot} {m : Int} (h : Asc x) (h' : ∀ k ∈ x, k < m) : Asc (x ++ [m]) := by
  unfold Asc
  rw [List.pairwise_append]
  exact ⟨h, List.pairwise_singleton _ _, fun a ha b hb => by rw [List.mem_singleton.mp hb]; exact h' a ha⟩
theorem mem_pw : ∀ {n : Nat} {x : Lot}, x ∈ pw n ↔ LotOk n x
  | 0, x => by
    constructor
    · intro h
      have : x = [] := by simpa [pw] using h
      subst this
      exact ⟨List.Pairwise.nil, fun m hm => by cases hm⟩
    · intro h
      cases x with
      | nil => simp [pw]
      | cons m x => have := h.lt m List.mem_cons_self; omega
  | n + 1, x => by
    rw [pw, List.mem_append, List.mem_map]
    constructor
    · rintro (h | ⟨y, h, rfl⟩)
      · have := mem_pw.mp h
        exact ⟨this.asc, fun m hm => by have := this.lt m hm; omega⟩
      · have h := mem_pw.mp h
        refine ⟨asc_snoc h.asc fun k hk => (h.lt k hk).2, fun m hm => ?_⟩
        rcases List.mem_append.mp hm with hm | hm
        · have := h.lt m hm; omega
        · have := List.mem_singleton.mp hm; omega
    · intro h
      by_cases z : (n : Int) ∈ x
      · right
        refine ⟨x.filter fun m => !decide (m = (n : Int)), mem_pw.mpr ⟨List.Pairwise.filter _ h.asc, fun m hm => ?_⟩, ?_⟩
        · have h1 := List.mem_filter.mp hm
          have h2 := h.lt m h1.1
          have h3 : m ≠ n := by simpa using h1.2
          omega
        · refine asc_ext (asc_snoc (List.Pairwise.filter _ h.asc) fun k hk => ?_) h.asc fun m => ?_
          · have h1 := List.mem_filter.mp hk
            have h2 := h.lt k h1.1
            have h3 : k ≠ n := by simpa using h1.2
            omega
          · rw [List.mem_append, List.mem_filter, List.mem_singleton]
            constructor
            · rintro (h | rfl)
              · exact h.1
              · exact z
            · intro hm
              by_cases e : m = n
              · exact .inr e
              · exact .inl ⟨hm, by simp [e]⟩
      · left
        refine mem_pw.mpr ⟨h.asc, fun m hm => ?_⟩
        have := h.lt m hm
        have : m ≠ n := fun e => z (e ▸ hm)
        omega
theorem pw_nodup : ∀ n, (pw n).Nodup
  | 0 => by simp [pw]
  | n + 1 => by
    rw [pw, List.nodup_append]
    refine ⟨pw_nodup n, ?_, fun a ha b hb e => ?_⟩
    · rw [List.Nodup, List.pairwise_map]
      exact (pw_nodup n).imp fun h e => h (List.append_cancel_right e)
    · obtain ⟨y, _, rfl⟩ := List.mem_map.mp hb
      subst e
      have := (mem_pw.mp ha).lt n (by simp)
      omega
def lots (n : Nat) : List Lot := sortLots (pw n)
theorem mem_lots {n : Nat} {x : Lot} : x ∈ lots n ↔ LotOk n x := (sortLots_perm _).mem_iff.trans mem_pw
theorem lots_nodup (n : Nat) : (lots n).Nodup := (sortLots_perm _).nodup_iff.mpr (pw_nodup n)
theorem lots_len (n : Nat) : (lots n).length = 2 ^ n := (sortLots_perm _).length_eq.trans (pw_len n)
/-- lots of n members, none twice: no more than there are -/
theorem few_lots {n : Nat} {ls : List Lot} (h : ∀ x ∈ ls, LotOk n x) (hd : ls.Nodup) : ls.length ≤ 2 ^ n := by
  have := nodup_len hd fun x hx => mem_pw.mpr (h x hx)
  rwa [pw_len] at this
theorem two_le {n : Nat} (h : n ≤ 6) : 2 ^ n ≤ 64 := Nat.pow_le_pow_right (by decide) h
/-! ### the least of lots -/
def leastGo : List Lot → List Lot → List Lot
  | [], found => found
  | x :: xs, found => leastGo xs (if car found x = true then found else found ++ [x])
structure Anti (ls : List Lot) : Prop where
  one : ∀ f ∈ ls, ∀ g ∈ ls, within f g = true → f = g
  nd : ls.Nodup
theorem car_append {a b : List Lot} {x : Lot} : car (a ++ b) x = (car a x || car b x) := by simp [car]
theorem leastGo_sub : ∀ {xs found : List Lot} {x : Lot}, x ∈ leastGo xs found → x ∈ found ∨ x ∈ xs
  | [], found, x, h => .inl h
  | y :: xs, found, x, h => by
    unfold leastGo at h
    rcases leastGo_sub h with h | h
    · split at h
      · exact .inl h
      · rcases List.mem_append.mp h with h | h
        · exact .inl h
        · rw [List.mem_singleton.mp h]; exact .inr List.mem_cons_self
    · exact .inr (List.mem_cons_of_mem _ h)
theorem leastGo_car : ∀ {xs found : List Lot} {x : Lot}, car (leastGo xs found) x = (car found x || car xs x)
  | [], found, x => by simp [leastGo, car]
  | y :: xs, found, x => by
    unfold leastGo
    rw [leastGo_car]
    have e : car (y :: xs) x = (within y x || car xs x) := by simp [car]
    rw [e]
    split
    · rename_i h
      cases z : within y x with
      | false => simp
      | true => simp [car_up h z]
    · rw [car_append, Bool.or_assoc]
      simp [car]
theorem sub_len {a b : Lot} (ha : Asc a) (hb : Asc b) (h : within a b = true) (hl : b.length ≤ a.length) : a = b := by
  have p := within_iff.mp h
  exact asc_ext ha hb fun x => ⟨p x, nodup_back ha.nodup p hl x⟩
theorem leastGo_anti : ∀ {xs found : List Lot}, (∀ x ∈ xs, Asc x) → (∀ x ∈ found, Asc x) → xs.Pairwise (fun a b => a.length ≤ b.length) → (∀ f ∈ found, ∀ x ∈ xs, f.length ≤ x.length) → Anti found → Anti (leastGo xs found)
  | [], _, _, _, _, _, h => h
  | y :: xs, found, hx, hf, hs, hl, h => by
    unfold leastGo
    have hs' := List.pairwise_cons.mp hs
    split
    · exact leastGo_anti (fun x q => hx x (List.mem_cons_of_mem _ q)) hf hs'.2 (fun f q x r => hl f q x (List.mem_cons_of_mem _ r)) h
    · rename_i hc
      have no : ∀ f ∈ found, ¬ within f y = true := fun f q r => hc (car_iff.mpr ⟨f, q, r⟩)
      refine leastGo_anti (fun x q => hx x (List.mem_cons_of_mem _ q)) (fun x q => ?_) hs'.2 (fun f q x r => ?_) ⟨fun f q g r w => ?_, ?_⟩
      · rcases List.mem_append.mp q with q | q
        · exact hf x q
        · rw [List.mem_singleton.mp q]; exact hx y List.mem_cons_self
      · rcases List.mem_append.mp q with q | q
        · exact hl f q x (List.mem_cons_of_mem _ r)
        · rw [List.mem_singleton.mp q]; exact hs'.1 x r
      · rcases List.mem_append.mp q with q | q <;> rcases List.mem_append.mp r with r | r
        · exact h.one f q g r w
        · rw [List.mem_singleton.mp r] at w; exact absurd w (no f q)
        · rw [List.mem_singleton.mp q] at w ⊢
          have e := sub_len (hx y List.mem_cons_self) (hf g r) w (hl g r y List.mem_cons_self)
          rw [e] at no
          exact absurd (within_refl g) (no g r)
        · rw [List.mem_singleton.mp q, List.mem_singleton.mp r]
      · rw [List.nodup_append]
        refine ⟨h.nd, by simp, fun a ha b hb e => ?_⟩
        rw [List.mem_singleton.mp hb] at e
        subst e
        exact no a ha (within_refl a)
/-- a book's lots as a Book keeps them -/
structure Bk (n : Nat) (L : List Lot) : Prop where
  ok : ∀ x ∈ L, LotOk n x
  srt : L.Pairwise (· ≤ ·)
  anti : Anti L
theorem Bk.few {n : Nat} {L : List Lot} (h : Bk n L) : L.length ≤ 2 ^ n := few_lots h.ok h.anti.nd
theorem Bk.ext {n : Nat} {L M : List Lot} (h : Bk n L) (h' : Bk n M) (e : ∀ x, LotOk n x → car L x = car M x) : L = M := by
  have go : ∀ {L M : List Lot}, Bk n L → Bk n M → (∀ x, LotOk n x → car L x = car M x) → ∀ f ∈ L, f ∈ M := fun {L M} h h' e f hf => by
    have h1 : car M f = true := by rw [← e f (h.ok f hf)]; exact car_iff.mpr ⟨f, hf, within_refl f⟩
    obtain ⟨g, hg, w⟩ := car_iff.mp h1
    have h2 : car L g = true := by rw [e g (h'.ok g hg)]; exact car_iff.mpr ⟨g, hg, within_refl g⟩
    obtain ⟨f', hf', w'⟩ := car_iff.mp h2
    have e1 := h.anti.one f' hf' f hf (within_trans w' w)
    subst e1
    rw [(h.ok f' hf').ext (h'.ok g hg) w' w]
    exact hg
  refine lots_ext h.srt h'.srt ((List.perm_ext_iff_of_nodup h.anti.nd h'.anti.nd).mpr fun f => Iff.intro (go h h' e f) (go h' h (fun x hx => (e x hx).symm) f))
theorem car_perm {a b : List Lot} (p : a.Perm b) (x : Lot) : car a x = car b x := by
  rw [Bool.eq_iff_iff, car_iff, car_iff]
  exact ⟨fun ⟨o, h1, h2⟩ => ⟨o, p.mem_iff.mp h1, h2⟩, fun ⟨o, h1, h2⟩ => ⟨o, p.mem_iff.mpr h1, h2⟩⟩
/-- what is left of lots: sorted by length, the least ones, ascending -/
theorem bk_least {n : Nat} {ls xs : List Lot} (h : ∀ x ∈ ls, LotOk n x) (p : xs.Perm ls) (hs : xs.Pairwise fun a b => a.length ≤ b.length) : Bk n (sortLots (leastGo xs [])) ∧ ∀ x, car (sortLots (leastGo xs [])) x = car ls x := by
  have hx : ∀ x ∈ xs, LotOk n x := fun x q => h x (p.mem_iff.mp q)
  have A : Anti (leastGo xs []) := leastGo_anti (fun x q => (hx x q).asc) (fun x q => by cases q) hs (fun f q => by cases q) ⟨fun f q => (by cases q), List.nodup_nil⟩
  have P := sortLots_perm (leastGo xs [])
  refine ⟨⟨fun x q => ?_, sortLots_le _, ⟨fun f q g r => A.one f (P.mem_iff.mp q) g (P.mem_iff.mp r), P.nodup_iff.mpr A.nd⟩⟩, fun x => ?_⟩
  · rcases leastGo_sub (P.mem_iff.mp q) with q | q
    · cases q
    · exact hx x q
  · rw [car_perm P, leastGo_car, car_perm p]; simp [car]
/-! ### met lots -/
/-- each of these lots has a member of x -/
def hit (ls : List Lot) (x : Lot) : Bool := ls.all fun lot => lot.any fun m => decide (m ∈ x)
theorem hit_iff {ls : List Lot} {x : Lot} : hit ls x = true ↔ ∀ lot ∈ ls, ∃ m ∈ lot, m ∈ x := by simp [hit]
theorem hit_rest {n : Nat} {ls : List Lot} {x : Lot} (h : ∀ lot ∈ ls, LotOk n lot) : hit ls x = !car ls (rest n x) := by
  rw [Bool.eq_iff_iff, hit_iff, Bool.not_eq_true', ← Bool.not_eq_true, car_iff]
  constructor
  · rintro q ⟨one, h1, h2⟩
    obtain ⟨m, h3, h4⟩ := q one h1
    exact (mem_rest.mp (within_iff.mp h2 m h3)).2 h4
  · intro q lot hl
    refine Classical.byContradiction fun z => q ⟨lot, hl, within_iff.mpr fun m hm => mem_rest.mpr ⟨(h lot hl).lt m hm, fun y => z ⟨m, hm, y⟩⟩⟩
def hits (hit lot : Lot) : List Lot := if (lot.any fun m => decide (m ∈ hit)) = true then [hit] else lot.map fun m => sortI (hit ++ [m])
theorem hits_ok {n : Nat} {h lot : Lot} (h1 : LotOk n h) (h2 : LotOk n lot) : ∀ x ∈ hits h lot, LotOk n x := by
  intro x hx
  unfold hits at hx
  split at hx
  · rw [List.mem_singleton.mp hx]; exact h1
  · rename_i hc
    obtain ⟨m, hm, rfl⟩ := List.mem_map.mp hx
    have hn : m ∉ h := fun z => hc (List.any_eq_true.mpr ⟨m, hm, by simpa using z⟩)
    have nd : (h ++ [m]).Nodup := List.nodup_append.mpr ⟨h1.asc.nodup, by simp, fun a ha b hb e => by rw [List.mem_singleton.mp hb] at e; exact hn (e ▸ ha)⟩
    refine ⟨asc_sort nd, fun k hk => ?_⟩
    rcases List.mem_append.mp ((sortI_perm _).mem_iff.mp hk) with q | q
    · exact h1.lt k q
    · rw [List.mem_singleton.mp q]; exact h2.lt m hm
theorem hits_car {h lot x : Lot} : car (hits h lot) x = (within h x && lot.any fun m => decide (m ∈ x)) := by
  rw [Bool.eq_iff_iff, car_iff, Bool.and_eq_true]
  unfold hits
  split
  · rename_i hc
    obtain ⟨m, hm, hh⟩ := List.any_eq_true.mp hc
    constructor
    · rintro ⟨o, ho, w⟩
      rw [List.mem_singleton.mp ho] at w
      exact ⟨w, List.any_eq_true.mpr ⟨m, hm, by simpa using within_iff.mp w m (by simpa using hh)⟩⟩
    · exact fun w => ⟨h, List.mem_singleton.mpr rfl, w.1⟩
  · constructor
    · rintro ⟨o, ho, w⟩
      obtain ⟨m, hm, rfl⟩ := List.mem_map.mp ho
      have w := within_iff.mp w
      have P := sortI_perm (h ++ [m])
      exact ⟨within_iff.mpr fun k hk => w k (P.mem_iff.mpr (List.mem_append_left _ hk)), List.any_eq_true.mpr ⟨m, hm, by simpa using w m (P.mem_iff.mpr (List.mem_append_right _ (List.mem_singleton.mpr rfl)))⟩⟩
    · rintro ⟨w, a⟩
      obtain ⟨m, hm, hx⟩ := List.any_eq_true.mp a
      refine ⟨_, List.mem_map.mpr ⟨m, hm, rfl⟩, within_iff.mpr fun k hk => ?_⟩
      rcases List.mem_append.mp ((sortI_perm _).mem_iff.mp hk) with q | q
      · exact within_iff.mp w k q
      · rw [List.mem_singleton.mp q]; simpa using hx
theorem hits_all {found : List Lot} {lot x : Lot} : car (found.flatMap fun h => hits h lot) x = (car found x && lot.any fun m => decide (m ∈ x)) := by
  induction found with
  | nil => simp [car]
  | cons h found ih =>
    rw [List.flatMap_cons, car_append, hits_car, ih]
    have e : car (h :: found) x = (within h x || car found x) := by simp [car]
    rw [e, Bool.and_or_distrib_right]
theorem hit_snoc {ls : List Lot} {lot x : Lot} : hit (ls ++ [lot]) x = (hit ls x && lot.any fun m => decide (m ∈ x)) := by simp [hit]
/-- the least ones, not yet ascending -/
theorem least_mid {n : Nat} {ls : List Lot} (h : ∀ x ∈ ls, LotOk n x) : (∀ x ∈ leastGo (sortLen ls) [], LotOk n x) ∧ Anti (leastGo (sortLen ls) []) ∧ ∀ x, car (leastGo (sortLen ls) []) x = car ls x := by
  have P := sortLen_perm ls
  have hx : ∀ x ∈ sortLen ls, LotOk n x := fun x q => h x (P.mem_iff.mp q)
  refine ⟨fun x q => ?_, leastGo_anti (fun x q => (hx x q).asc) (fun x q => by cases q) (sortLen_le ls) (fun f q => by cases q) ⟨fun f q => (by cases q), List.nodup_nil⟩, fun x => ?_⟩
  · rcases leastGo_sub q with q | q
    · cases q
    · exact hx x q
  · rw [leastGo_car, car_perm P]; simp [car]
theorem leastOf_ok {n : Nat} {ls : List Lot} (h : ∀ x ∈ ls, LotOk n x) : Bk n (sortLots (leastGo (sortLen ls) [])) ∧ ∀ x, car (sortLots (leastGo (sortLen ls) [])) x = car ls x := bk_least h (sortLen_perm ls) (sortLen_le ls)
theorem hits_len {h lot : Lot} : (hits h lot).length ≤ 1 + lot.length := by
  unfold hits
  split
  · simp
  · simp
theorem flat_len {α β : Type} {f : α → List β} {k : Nat} : ∀ {l : List α}, (∀ x ∈ l, (f x).length ≤ k) → (l.flatMap f).length ≤ l.length * k
  | [], _ => by simp
  | x :: l, h => by
    rw [List.flatMap_cons, List.length_append, List.length_cons, Nat.succ_mul]
    have := h x List.mem_cons_self
    have := flat_len (l := l) fun y hy => h y (List.mem_cons_of_mem _ hy)
    omega
/-! ### proper, strong -/
theorem proper_iff {n : Nat} {L : List Lot} (h : ∀ x ∈ L, LotOk n x) : (L.all fun lot => !car L (rest n lot)) = true ↔ ∀ x, LotOk n x → ¬ (car L x = true ∧ car L (rest n x) = true) := by
  rw [List.all_eq_true]
  constructor
  · rintro q x hx ⟨c1, c2⟩
    obtain ⟨o, ho, w⟩ := car_iff.mp c1
    have : car L (rest n o) = true := car_up c2 (within_iff.mpr fun m hm => by
      have := mem_rest.mp hm
      exact mem_rest.mpr ⟨this.1, fun z => this.2 (within_iff.mp w m z)⟩)
    have := q o ho
    simp_all
  · intro q o ho
    have := q o (h o ho)
    have c : car L o = true := car_iff.mpr ⟨o, ho, within_refl o⟩
    simp [c] at this
    simp [this]
theorem strong_iff {n : Nat} {L M : List Lot} (hL : ∀ x ∈ L, LotOk n x) (hM : ∀ x ∈ M, LotOk n x) (e : ∀ x, car M x = !car L (rest n x)) : (M.all fun h => car L h) = true ↔ ∀ x, LotOk n x → (car L x = true ∨ car L (rest n x) = true) := by
  rw [List.all_eq_true]
  constructor
  · intro q x hx
    cases z : car L (rest n x) with
    | true => exact .inr rfl
    | false =>
      have : car M x = true := by rw [e, z]; rfl
      obtain ⟨o, ho, w⟩ := car_iff.mp this
      exact .inl (car_up (q o ho) w)
  · intro q o ho
    rcases q o (hM o ho) with c | c
    · exact c
    · have : car M o = true := car_iff.mpr ⟨o, ho, within_refl o⟩
      rw [e, c] at this; cases this
theorem decisive_iff {n : Nat} {L M : List Lot} (hL : Bk n L) (hM : Bk n M) (e : ∀ x, car M x = !car L (rest n x)) :
    M = L ↔ (∀ x, LotOk n x → ¬ (car L x = true ∧ car L (rest n x) = true)) ∧ ∀ x, LotOk n x → (car L x = true ∨ car L (rest n x) = true) := by
  constructor
  · rintro rfl
    refine ⟨fun x _ => ?_, fun x _ => ?_⟩
    · rw [e x]; rintro ⟨a, b⟩; rw [b] at a; cases a
    · rw [e x]; cases car M (rest n x) <;> simp
  · rintro ⟨p, q⟩
    refine hM.ext hL fun x hx => ?_
    rw [e]
    have p := p x hx
    have q := q x hx
    cases h1 : car L x <;> cases h2 : car L (rest n x) <;> simp_all
/-! ### all lots, counted -/
/-- lots of the members n - j .. n - 1, as the program lays them -/
def ev (n : Nat) : Nat → List Lot
  | 0 => [[]]
  | j + 1 => [[]] ++ (ev n j).map (fun x => ((n : Int) - 1 - (j : Int)) :: x) ++ (ev n j).tail
theorem ev_head (n : Nat) : ∀ j, ∃ t, ev n j = [] :: t
  | 0 => ⟨[], rfl⟩
  | j + 1 => ⟨_, rfl⟩
theorem ev_mem {n : Nat} : ∀ {j : Nat}, j ≤ n → ∀ {x : Lot}, x ∈ ev n j ↔ Asc x ∧ ∀ m ∈ x, (n : Int) - j ≤ m ∧ m < n
  | 0, _, x => by
    rw [ev, List.mem_singleton]
    constructor
    · rintro rfl; exact ⟨List.Pairwise.nil, fun m hm => by cases hm⟩
    · rintro ⟨_, h⟩
      cases x with
      | nil => rfl
      | cons m x => have := h m List.mem_cons_self; omega
  | j + 1, hj, x => by
    obtain ⟨t, ht⟩ := ev_head n j
    have ih := @ev_mem n j (by omega)
    rw [ev, List.mem_append, List.mem_append, List.mem_singleton, List.mem_map]
    have tl : x ∈ (ev n j).tail → x ∈ ev n j := List.mem_of_mem_tail
    constructor
    · rintro ((rfl | ⟨y, hy, rfl⟩) | h)
      · exact ⟨List.Pairwise.nil, fun m hm => by cases hm⟩
      · obtain ⟨h1, h2⟩ := ih.mp hy
        refine ⟨List.pairwise_cons.mpr ⟨fun m hm => by have := h2 m hm; omega, h1⟩, fun m hm => ?_⟩
        rcases List.mem_cons.mp hm with rfl | hm
        · omega
        · have := h2 m hm; omega
      · obtain ⟨h1, h2⟩ := ih.mp (tl h)
        exact ⟨h1, fun m hm => by have := h2 m hm; omega⟩
    · rintro ⟨h1, h2⟩
      cases x with
      | nil => exact .inl (.inl rfl)
      | cons m x =>
        have h1' := List.pairwise_cons.mp h1
        by_cases z : m = (n : Int) - 1 - j
        · refine .inl (.inr ⟨x, ih.mpr ⟨h1'.2, fun k hk => ?_⟩, by rw [z]⟩)
          have := h1'.1 k hk
          have := h2 k (List.mem_cons_of_mem _ hk)
          omega
        · right
          have : (m :: x) ∈ ev n j := ih.mpr ⟨h1, fun k hk => by
            have := h2 m List.mem_cons_self
            have := h2 k hk
            rcases List.mem_cons.mp hk with rfl | hk
            · omega
            · have := h1'.1 k hk; omega⟩
          rw [ht] at this ⊢
          rcases List.mem_cons.mp this with q | q
          · cases q
          · exact q
theorem ev_nodup {n : Nat} : ∀ {j : Nat}, j ≤ n → (ev n j).Nodup
  | 0, _ => by simp [ev]
  | j + 1, hj => by
    have ih := @ev_nodup n j (by omega)
    obtain ⟨t, ht⟩ := ev_head n j
    have hm := @ev_mem n j (by omega)
    rw [ev, List.append_assoc, List.singleton_append, List.nodup_cons, List.nodup_append]
    refine ⟨fun q => ?_, ?_, ?_, fun a ha b hb e => ?_⟩
    · rcases List.mem_append.mp q with q | q
      · obtain ⟨y, _, e⟩ := List.mem_map.mp q; cases e
      · rw [ht] at q ih
        exact (List.nodup_cons.mp ih).1 q
    · rw [List.Nodup, List.pairwise_map]
      exact ih.imp fun h e => h (List.cons.inj e).2
    · exact ih.sublist (List.tail_sublist _)
    · obtain ⟨y, _, rfl⟩ := List.mem_map.mp ha
      subst e
      have := (hm.mp (List.mem_of_mem_tail hb)).2 _ List.mem_cons_self
      omega
theorem ev_lots (n : Nat) : (ev n n).Perm (lots n) := by
  refine (List.perm_ext_iff_of_nodup (ev_nodup (Nat.le_refl n)) (lots_nodup n)).mpr fun x => ?_
  rw [ev_mem (Nat.le_refl n), mem_lots]
  constructor
  · rintro ⟨h1, h2⟩; exact ⟨h1, fun m hm => by have := h2 m hm; omega⟩
  · rintro ⟨h1, h2⟩; exact ⟨h1, fun m hm => by have := h2 m hm; omega⟩
theorem rest_perm (n : Nat) : ((lots n).map (rest n)).Perm (lots n) := by
  refine (List.perm_ext_iff_of_nodup ?_ (lots_nodup n)).mpr fun x => ?_
  · rw [List.Nodup, List.pairwise_map]
    refine List.Pairwise.imp_of_mem (fun {a b} ha hb h e => h ?_) (lots_nodup n)
    rw [← rest_rest (mem_lots.mp ha), e, rest_rest (mem_lots.mp hb)]
  · rw [List.mem_map, mem_lots]
    constructor
    · rintro ⟨y, _, rfl⟩; exact lotOk_rest n y
    · exact fun h => ⟨rest n x, mem_lots.mpr (lotOk_rest n x), rest_rest h⟩
def count (n : Nat) (p : Lot → Bool) : Nat := ((lots n).filter p).length
theorem count_rest (n : Nat) (p : Lot → Bool) : count n (fun x => p (rest n x)) = count n p := by
  unfold count
  rw [← List.countP_eq_length_filter, ← List.countP_eq_length_filter]
  have := (rest_perm n).countP_eq p
  rw [List.countP_map] at this
  exact this
/-- two sorts that do not meet -/
theorem count_two {n : Nat} {p q : Lot → Bool} (h : ∀ x, LotOk n x → ¬ (p x = true ∧ q x = true)) : count n p + count n q = count n fun x => p x || q x := by
  have : ∀ l : List Lot, (∀ x ∈ l, LotOk n x) → (l.filter p).length + (l.filter q).length = (l.filter fun x => p x || q x).length := by
    intro l
    induction l with
    | nil => intro _; rfl
    | cons x l ih =>
      intro hl
      have i := ih fun y hy => hl y (List.mem_cons_of_mem _ hy)
      have := h x (hl x List.mem_cons_self)
      rw [List.filter_cons, List.filter_cons, List.filter_cons]
      cases z1 : p x <;> cases z2 : q x <;> simp_all <;> omega
  exact this _ fun x hx => mem_lots.mp hx
theorem count_all {n : Nat} {p : Lot → Bool} : count n p = 2 ^ n ↔ ∀ x, LotOk n x → p x = true := by
  unfold count
  rw [← lots_len n, List.length_filter_eq_length_iff]
  exact ⟨fun h x hx => h x (mem_lots.mpr hx), fun h x hx => h x (mem_lots.mp hx)⟩
/-! ### the lots that a rule lets carry -/
def leastBy (p : Lot → Bool) (x : Lot) : Bool := p x && (x.filter fun m => p (drop1 x m)).isEmpty
def byLots (n : Nat) (p : Lot → Bool) : List Lot := (lots n).filter (leastBy p)
def Mono (n : Nat) (p : Lot → Bool) : Prop := ∀ x y, LotOk n x → LotOk n y → within x y = true → p x = true → p y = true
theorem mem_drop1 {x : Lot} {m k : Int} : k ∈ drop1 x m ↔ k ∈ x ∧ k ≠ m := by
  unfold drop1
  rw [List.mem_filter]; simp
theorem bk_by {n : Nat} {p : Lot → Bool} (hp : Mono n p) : Bk n (byLots n p) := by
  have ok : ∀ x ∈ byLots n p, LotOk n x := fun x hx => mem_lots.mp (List.mem_filter.mp hx).1
  refine ⟨ok, List.Pairwise.filter _ (sortLots_le _), ⟨fun f hf g hg w => ?_, List.Pairwise.filter _ (lots_nodup n)⟩⟩
  refine Classical.byContradiction fun z => ?_
  have hg2 := (List.mem_filter.mp hg).2
  have hf2 := (List.mem_filter.mp hf).2
  unfold leastBy at hf2 hg2
  rw [Bool.and_eq_true] at hf2 hg2
  obtain ⟨m, hm, hn⟩ : ∃ m, m ∈ g ∧ m ∉ f := Classical.byContradiction fun y => z ((ok f hf).ext (ok g hg) w (within_iff.mpr fun m hm => Classical.byContradiction fun q => y ⟨m, hm, q⟩))
  have := hp f (drop1 g m) (ok f hf) (lotOk_drop (ok g hg) m) (within_iff.mpr fun k hk => mem_drop1.mpr ⟨within_iff.mp w k hk, fun e => hn (e ▸ hk)⟩) hf2.1
  have e := List.isEmpty_iff.mp hg2.2
  have : m ∈ g.filter fun m => p (drop1 g m) := List.mem_filter.mpr ⟨hm, this⟩
  rw [e] at this; cases this
theorem car_by {n : Nat} {p : Lot → Bool} (hp : Mono n p) : ∀ (k : Nat) (x : Lot), x.length ≤ k → LotOk n x → car (byLots n p) x = p x := by
  intro k
  induction k with
  | zero =>
    intro x hk hx
    rw [Bool.eq_iff_iff, car_iff]
    constructor
    · rintro ⟨o, ho, w⟩
      have h2 := (List.mem_filter.mp ho).2
      unfold leastBy at h2
      rw [Bool.and_eq_true] at h2
      exact hp o x (mem_lots.mp (List.mem_filter.mp ho).1) hx w h2.1
    · intro h
      have : x = [] := List.eq_nil_of_length_eq_zero (by omega)
      subst this
      exact ⟨[], List.mem_filter.mpr ⟨mem_lots.mpr hx, by simp [leastBy, h]⟩, within_refl _⟩
  | succ k ih =>
    intro x hk hx
    rw [Bool.eq_iff_iff, car_iff]
    constructor
    · rintro ⟨o, ho, w⟩
      have h2 := (List.mem_filter.mp ho).2
      unfold leastBy at h2
      rw [Bool.and_eq_true] at h2
      exact hp o x (mem_lots.mp (List.mem_filter.mp ho).1) hx w h2.1
    · intro h
      by_cases z : leastBy p x = true
      · exact ⟨x, List.mem_filter.mpr ⟨mem_lots.mpr hx, z⟩, within_refl _⟩
      · obtain ⟨m, hm, q⟩ : ∃ m, m ∈ x ∧ p (drop1 x m) = true := Classical.byContradiction fun y => z (by
          unfold leastBy
          rw [h, Bool.true_and, List.isEmpty_iff, List.filter_eq_nil_iff]
          exact fun m hm r => y ⟨m, hm, r⟩)
        have hl : (drop1 x m).length < x.length := by
          unfold drop1
          have := List.length_filter_lt_length_iff_exists (p := fun one : Int => !decide (one = m)) (l := x)
          exact this.mpr ⟨m, hm, by simp⟩
        have := ih (drop1 x m) (by omega) (lotOk_drop hx m)
        rw [q] at this
        obtain ⟨o, ho, w⟩ := car_iff.mp this
        exact ⟨o, ho, within_trans w (within_iff.mpr fun k hk => (mem_drop1.mp hk).1)⟩
theorem byLots_ok {n : Nat} {p : Lot → Bool} (hp : Mono n p) : Bk n (byLots n p) ∧ ∀ x, LotOk n x → car (byLots n p) x = p x := ⟨bk_by hp, fun x hx => car_by hp _ x (Nat.le_refl _) hx⟩
theorem mono_car {n : Nat} (ls : List Lot) : Mono n (car ls) := fun _ _ _ _ w h => car_up h w
theorem rest_anti {n : Nat} {x y : Lot} (w : within x y = true) : within (rest n y) (rest n x) = true := within_iff.mpr fun m hm => by
  have := mem_rest.mp hm
  exact mem_rest.mpr ⟨this.1, fun z => this.2 (within_iff.mp w m z)⟩
theorem mono_dual {n : Nat} (ls : List Lot) : Mono n fun x => !car ls (rest n x) := fun x y _ _ w h => by
  cases z : car ls (rest n y) with
  | false => show (!car ls (rest n y)) = true; rw [z]; rfl
  | true => simp [car_up z (rest_anti w)] at h
theorem Mono.and {n : Nat} {p q : Lot → Bool} (hp : Mono n p) (hq : Mono n q) : Mono n fun x => p x && q x := fun x y hx hy w h => by
  rw [Bool.and_eq_true] at h ⊢
  exact ⟨hp x y hx hy w h.1, hq x y hx hy w h.2⟩
theorem Mono.or {n : Nat} {p q : Lot → Bool} (hp : Mono n p) (hq : Mono n q) : Mono n fun x => p x || q x := fun x y hx hy w h => by
  rw [Bool.or_eq_true] at h ⊢
  exact h.imp (hp x y hx hy w) (hq x y hx hy w)
theorem mono_mem {n : Nat} (b : Int) : Mono n fun x => decide (b ∈ x) := fun x y _ _ w h => by
  simp only [decide_eq_true_eq] at h ⊢
  exact within_iff.mp w b h
def wsum (ws : List Int) (x : Lot) : Int := (x.map fun m => ws.getD m.toNat 0).sum
theorem sum_filter_le {f : Int → Int} (p : Int → Bool) : ∀ {l : List Int}, (∀ m ∈ l, 0 ≤ f m) → ((l.filter p).map f).sum ≤ (l.map f).sum
  | [], _ => by simp
  | a :: l, h => by
    have h1 := h a List.mem_cons_self
    have h2 := sum_filter_le (f := f) p (l := l) fun m hm => h m (List.mem_cons_of_mem _ hm)
    rw [List.filter_cons]
    split
    · simp only [List.map_cons, List.sum_cons]; omega
    · simp only [List.map_cons, List.sum_cons]; omega
theorem mono_weighed {n : Nat} {ws : List Int} {q : Int} (h : ∀ w ∈ ws, 0 ≤ w) : Mono n fun x => decide (q ≤ wsum ws x) := fun x y hx hy w h' => by
  have e : x = y.filter fun m => decide (m ∈ x) := asc_ext hx.asc (List.Pairwise.filter _ hy.asc) fun m => by
    rw [List.mem_filter, decide_eq_true_eq]
    exact ⟨fun hm => ⟨within_iff.mp w m hm, hm⟩, fun hm => hm.2⟩
  have f0 : ∀ m : Int, 0 ≤ ws.getD m.toNat 0 := fun m => by
    rw [List.getD_eq_getElem?_getD]
    cases z : ws[m.toNat]? with
    | none => simp
    | some v => exact h v (List.mem_of_getElem? z)
  have : wsum ws x ≤ wsum ws y := by
    unfold wsum
    conv => lhs; rw [e]
    exact sum_filter_le _ fun m _ => f0 m
  simp only [decide_eq_true_eq] at h' ⊢
  omega
/-! ### the least of some lots, as the law keeps them -/
def keepLot (ls : List Lot) (x : Lot) : Bool := (ls.filter fun o => !decide (o = x) && within o x).isEmpty
theorem bk_keep {n : Nat} {ms : List Lot} (h : ∀ x ∈ ms, LotOk n x) (hd : ms.Nodup) : Bk n (sortLots (ms.filter (keepLot ms))) := by
  have P := sortLots_perm (ms.filter (keepLot ms))
  refine ⟨fun x hx => h x (List.mem_filter.mp (P.mem_iff.mp hx)).1, sortLots_le _, ⟨fun f hf g hg w => ?_, P.nodup_iff.mpr (List.Pairwise.filter _ hd)⟩⟩
  have f1 := (List.mem_filter.mp (P.mem_iff.mp hf)).1
  have g2 := (List.mem_filter.mp (P.mem_iff.mp hg)).2
  unfold keepLot at g2
  rw [List.isEmpty_iff, List.filter_eq_nil_iff] at g2
  refine Classical.byContradiction fun z => g2 f f1 ?_
  simp [z, w]
theorem firsts_nodup (ks : List Lot) : (((List.range ks.length).filter fun i => !decide (ks.getD i [] ∈ ks.take i)).map fun i => ks.getD i []).Nodup := by
  rw [List.Nodup, List.pairwise_map]
  refine List.Pairwise.imp_of_mem (fun {i j} hi hj h e => ?_) (List.Pairwise.filter _ List.pairwise_lt_range)
  have hj2 := (List.mem_filter.mp hj).2
  have hjl := List.mem_range.mp (List.mem_filter.mp hj).1
  simp only [Bool.not_eq_true', decide_eq_false_iff_not] at hj2
  refine hj2 ?_
  rw [← e, List.getD_eq_getElem?_getD, List.getElem?_eq_getElem (by omega : i < ks.length), Option.getD_some]
  have : ks[i]'(by omega) = (ks.take j)[i]'(by rw [List.length_take]; omega) := by simp
  rw [this]
  exact List.getElem_mem _
theorem bk_one {n : Nat} {x : Lot} (h : LotOk n x) : Bk n [x] := ⟨fun y hy => by rw [List.mem_singleton.mp hy]; exact h, List.pairwise_singleton _ _, ⟨fun f hf g hg _ => by rw [List.mem_singleton.mp hf, List.mem_singleton.mp hg], by simp⟩⟩
theorem bk_none {n : Nat} : Bk n [] := ⟨fun y hy => (by cases hy), List.Pairwise.nil, ⟨fun f hf => (by cases hf), List.nodup_nil⟩⟩
/-- the lots of a book, and no more of them than can be counted -/
structure BookOk (n : Nat) (ls : List Lot) : Prop where
  ok : ∀ x ∈ ls, LotOk n x
  few : ls.length ≤ 64
theorem Bk.book {n : Nat} {ls : List Lot} (h : Bk n ls) (hn : n ≤ 6) : BookOk n ls := ⟨h.ok, Nat.le_trans h.few (two_le hn)⟩
theorem BookOk.sub {n : Nat} {ls ks : List Lot} (h : BookOk n ls) (hm : ∀ x ∈ ks, x ∈ ls) (hl : ks.length ≤ ls.length) : BookOk n ks := ⟨fun x hx => h.ok x (hm x hx), Nat.le_trans hl h.few⟩
/-- two antichains that let carry alike have the same lots -/
theorem anti_mem {n : Nat} {A B : List Lot} (hA : ∀ x ∈ A, LotOk n x) (hB : ∀ x ∈ B, LotOk n x) (a : Anti A) (b : Anti B) (e : ∀ x, LotOk n x → car A x = car B x) : A.Perm B := by
  have go : ∀ {L M : List Lot}, (∀ x ∈ L, LotOk n x) → (∀ x ∈ M, LotOk n x) → Anti L → (∀ x, LotOk n x → car L x = car M x) → ∀ f ∈ L, f ∈ M := fun {L M} h h' a e f hf => by
    have h1 : car M f = true := by rw [← e f (h f hf)]; exact car_iff.mpr ⟨f, hf, within_refl f⟩
    obtain ⟨g, hg, w⟩ := car_iff.mp h1
    have h2 : car L g = true := by rw [e g (h' g hg)]; exact car_iff.mpr ⟨g, hg, within_refl g⟩
    obtain ⟨f', hf', w'⟩ := car_iff.mp h2
    have e1 := a.one f' hf' f hf (within_trans w' w)
    subst e1
    rw [(h f' hf').ext (h' g hg) w' w]
    exact hg
  exact (List.perm_ext_iff_of_nodup a.nd b.nd).mpr fun f => Iff.intro (go hA hB a e f) (go hB hA b (fun x hx => (e x hx).symm) f)
theorem sort_perm {A B : List Lot} (p : A.Perm B) : sortLots A = sortLots B := lots_ext (sortLots_le _) (sortLots_le _) ((sortLots_perm A).trans (p.trans (sortLots_perm B).symm))
theorem rest_within {n : Nat} {x y : Lot} (hx : LotOk n x) : within x (rest n y) = true ↔ ∀ m ∈ x, m ∉ y := by
  rw [within_iff]
  exact ⟨fun h m hm => (mem_rest.mp (h m hm)).2, fun h m hm => mem_rest.mpr ⟨hx.lt m hm, h m hm⟩⟩
end DL
namespace DL
open PySem L2
namespace k03
@[simp] theorem ne_cells_at : (Str.ofString "cells" = Str.ofString "at") = False := eq_false (by decide +kernel)
@[simp] theorem ne_cells_digits : (Str.ofString "cells" = Str.ofString "digits") = False := eq_false (by decide +kernel)
@[simp] theorem ne_cells_count : (Str.ofString "cells" = Str.ofString "count") = False := eq_false (by decide +kernel)
@[simp] theorem ne_cells_fold : (Str.ofString "cells" = Str.ofString "fold") = False := eq_false (by decide +kernel)
@[simp] theorem ne_at_cells : (Str.ofString "at" = Str.ofString "cells") = False := eq_false (by decide +kernel)
@[simp] theorem ne_at_digits : (Str.ofString "at" = Str.ofString "digits") = False := eq_false (by decide +kernel)
@[simp] theorem ne_at_count : (Str.ofString "at" = Str.ofString "count") = False := eq_false (by decide +kernel)
@[simp] theorem ne_at_fold : (Str.ofString "at" = Str.ofString "fold") = False := eq_false (by decide +kernel)
@[simp] theorem ne_digits_cells : (Str.ofString "digits" = Str.ofString "cells") = False := eq_false (by decide +kernel)
@[simp] theorem ne_digits_at : (Str.ofString "digits" = Str.ofString "at") = False := eq_false (by decide +kernel)
@[simp] theorem ne_digits_count : (Str.ofString "digits" = Str.ofString "count") = False := eq_false (by decide +kernel)
@[simp] theorem ne_digits_fold : (Str.ofString "digits" = Str.ofString "fold") = False := eq_false (by decide +kernel)
@[simp] theorem ne_count_cells : (Str.ofString "count" = Str.ofString "cells") = False := eq_false (by decide +kernel)
@[simp] theorem ne_count_at : (Str.ofString "count" = Str.ofString "at") = False := eq_false (by decide +kernel)
@[simp] theorem ne_count_digits : (Str.ofString "count" = Str.ofString "digits") = False := eq_false (by decide +kernel)
@[simp] theorem ne_count_fold : (Str.ofString "count" = Str.ofString "fold") = False := eq_false (by decide +kernel)
@[simp] theorem ne_fold_cells : (Str.ofString "fold" = Str.ofString "cells") = False := eq_false (by decide +kernel)
@[simp] theorem ne_fold_at : (Str.ofString "fold" = Str.ofString "at") = False := eq_false (by decide +kernel)
@[simp] theorem ne_fold_digits : (Str.ofString "fold" = Str.ofString "digits") = False := eq_false (by decide +kernel)
@[simp] theorem ne_fold_count : (Str.ofString "fold" = Str.ofString "count") = False := eq_false (by decide +kernel)

def penKs : List Key := [.inr "cells", .inr "at", .inr "digits", .inr "count", .inr "fold"]
def penD (c : List D) (a b n f : Int) : D := .dct penKs [.lst c, .int a, .int b, .int n, .int f]
section
variable (c : List D) (a b n f : Int) (d : D)
@[simp] theorem pen_get1 : ixA (penD c a b n f) (.str "cells") = some (.dat (.lst c)) := by simp [penD, penKs]
@[simp] theorem pen_get2 : ixA (penD c a b n f) (.str "at") = some (.dat (.int a)) := by simp [penD, penKs]
@[simp] theorem pen_get3 : ixA (penD c a b n f) (.str "digits") = some (.dat (.int b)) := by simp [penD, penKs]
@[simp] theorem pen_get4 : ixA (penD c a b n f) (.str "count") = some (.dat (.int n)) := by simp [penD, penKs]
@[simp] theorem pen_get5 : ixA (penD c a b n f) (.str "fold") = some (.dat (.int f)) := by simp [penD, penKs]
theorem lim5 : penKs.length < LIM := by decide
theorem pen_ks {q : Key} (h : hasK q penKs = true) : putKs q penKs = penKs := by unfold putKs; rw [if_pos h]
theorem pen_ds {q : Key} (h : hasK q penKs = true) {e : D} {vs : List D} : putDs q e penKs vs = repD1 q e penKs vs := by unfold putDs; rw [if_pos h]
@[simp] theorem pen_set2 {ρ : Env} {i : Nat} (h : ρ.at i = .own (penD c a b n f)) (z : Int) : setAt i (.dat (.str "at")) (.int z) ρ = .ok .nx (ρ.set i (.own (penD c z b n f))) := by
  simp only [s_setAt, s_contD, h, penD, s_keyS]; rw [if_pos lim5, pen_ks (by decide +kernel), pen_ds (by decide +kernel)]; simp [penKs, repD1]
@[simp] theorem pen_set3 {ρ : Env} {i : Nat} (h : ρ.at i = .own (penD c a b n f)) (z : Int) : setAt i (.dat (.str "digits")) (.int z) ρ = .ok .nx (ρ.set i (.own (penD c a z n f))) := by
  simp only [s_setAt, s_contD, h, penD, s_keyS]; rw [if_pos lim5, pen_ks (by decide +kernel), pen_ds (by decide +kernel)]; simp [penKs, repD1]
@[simp] theorem pen_set4 {ρ : Env} {i : Nat} (h : ρ.at i = .own (penD c a b n f)) (z : Int) : setAt i (.dat (.str "count")) (.int z) ρ = .ok .nx (ρ.set i (.own (penD c a b z f))) := by
  simp only [s_setAt, s_contD, h, penD, s_keyS]; rw [if_pos lim5, pen_ks (by decide +kernel), pen_ds (by decide +kernel)]; simp [penKs, repD1]
@[simp] theorem pen_set5 {ρ : Env} {i : Nat} (h : ρ.at i = .own (penD c a b n f)) (z : Int) : setAt i (.dat (.str "fold")) (.int z) ρ = .ok .nx (ρ.set i (.own (penD c a b n z))) := by
  simp only [s_setAt, s_contD, h, penD, s_keyS]; rw [if_pos lim5, pen_ks (by decide +kernel), pen_ds (by decide +kernel)]; simp [penKs, repD1]
end

theorem pow18 : (10 : Int) ^ (18 : Int).toNat = 1000000000000000000 := by decide +kernel
theorem log2_lt {x : Int} {k : Nat} (h : x.natAbs < 2 ^ k) : x.natAbs.log2 < k ∨ x.natAbs = 0 := by
  by_cases z : x.natAbs = 0
  · exact .inr z
  · exact .inl ((Nat.log2_lt z).mpr h)
theorem mul_fit {x y : Int} (hx : x.natAbs < 2 ^ 400000) (hy : y.natAbs < 2 ^ 400000) : x.natAbs.log2 + y.natAbs.log2 < 1000000 := by
  have l0 : Nat.log2 0 = 0 := by decide
  rcases log2_lt hx with h | h <;> rcases log2_lt hy with h' | h' <;> (try rw [h]) <;> (try rw [h']) <;> omega

def IsPen (K : Int) (d : D) : Prop := ∃ (c : List Int) (a b n f : Int), d = penD (c.map .int) a b n f ∧ 0 ≤ a ∧ 0 ≤ b ∧ 0 ≤ n ∧ n ≤ K ∧ 0 ≤ f ∧ f < 2147483648
theorem fit_nat {x : Int} (h : -(10 ^ 30) < x) (h' : x < 10 ^ 30) : x.natAbs < 2 ^ 400000 := by
  have : (10 : Nat) ^ 30 < 2 ^ 400000 := Nat.lt_of_lt_of_le (by decide +kernel : (10 : Nat) ^ 30 < 2 ^ 100) (Nat.pow_le_pow_right (by decide) (by decide))
  have h1 : x.natAbs < 10 ^ 30 := by omega
  omega
@[simp] theorem pset2 {c : List D} {a b n f z : Int} {ρ : Env} : setAt 0 (.dat (.str "at")) (.int z) (SV.own (penD c a b n f) :: ρ) = .ok .nx (SV.own (penD c z b n f) :: ρ) := pen_set2 c a b n f rfl z
@[simp] theorem pset3 {c : List D} {a b n f z : Int} {ρ : Env} : setAt 0 (.dat (.str "digits")) (.int z) (SV.own (penD c a b n f) :: ρ) = .ok .nx (SV.own (penD c a z n f) :: ρ) := pen_set3 c a b n f rfl z
@[simp] theorem pset4 {c : List D} {a b n f z : Int} {ρ : Env} : setAt 0 (.dat (.str "count")) (.int z) (SV.own (penD c a b n f) :: ρ) = .ok .nx (SV.own (penD c a b z f) :: ρ) := pen_set4 c a b n f rfl z
@[simp] theorem pset5 {c : List D} {a b n f z : Int} {ρ : Env} : setAt 0 (.dat (.str "fold")) (.int z) (SV.own (penD c a b n f) :: ρ) = .ok .nx (SV.own (penD c a b n z) :: ρ) := pen_set5 c a b n f rfl z
theorem draw_1 {c : List D} {a b n f m : Int} (hb : 0 < b) (hm : 0 < m) (hml : m.natAbs.log2 < 9000) : m_law_draw [.own (penD c a b n f), .dat (.int m)] = .ok (.dat (.int (b % m))) [.own (penD c a (b / m) (n + 1) f), .dat (.int m)] := by
  have h0 : ¬ b = 0 := by omega
  simp [-s_setAt, m_law_draw, b_law_draw, h0, hb, hm, hml]

structure Fit (x : Int) : Prop where
  fit : x.natAbs < 2 ^ 400000
theorem Fit.of {x : Int} (h : -(10 ^ 30) < x) (h' : x < 10 ^ 30) : Fit x := ⟨fit_nat h h'⟩
theorem mulF {x y : Int} (hx : Fit x) (hy : Fit y) : mulD (.int x) (.int y) = some (.dat (.int (x * y))) := by rw [s_mulI, if_pos (mul_fit hx.fit hy.fit)]
theorem fit_mod {x k : Int} (h : 0 < k) (h2 : k < 1000000000000) : Fit (x % k) := by
  have h1 := Int.emod_nonneg x (by omega : k ≠ 0)
  have h3 := Int.emod_lt_of_pos x h
  exact Fit.of (by omega) (by omega)
theorem l64 : Nat.log2 64 < 9000 := by decide
def pY (f n : Int) : Int := (f * 48271 + n * 7919 + 13) % 2147483647
def pZ (f n : Int) : Int := (pY f n * pY f n + 31 * pY f n + n) % 2147483629
def pF (f n : Int) : Int := (pZ f n * 16807 + 7) % 2147483647
theorem pF_ok (f n : Int) : 0 ≤ pF f n ∧ pF f n < 2147483648 := by
  have h1 := Int.emod_nonneg (pZ f n * 16807 + 7) (by decide : (2147483647 : Int) ≠ 0)
  have h2 := Int.emod_lt_of_pos (pZ f n * 16807 + 7) (by decide : (0 : Int) < 2147483647)
  unfold pF; omega
section
variable {c : List D} {a n f m : Int} (hn : 0 ≤ n) (hn2 : n ≤ 1000000) (hf : 0 ≤ f) (hf2 : f < 2147483648) (hm : 0 < m)
include hn hn2 hf hf2 hm
theorem draw_2 (ha : (c.length : Int) ≤ a) : m_law_draw [.own (penD c a 0 n f), .dat (.int m)] = .ok (.dat (.int (pZ f (n + 1) / 64 % m))) [.own (penD c a 0 (n + 1) (pF f (n + 1))), .dat (.int m)] := by
  have h1 : ¬ a < (c.length : Int) := by omega
  have F1 : Fit f := Fit.of (by omega) (by omega)
  have F2 : Fit (n + 1) := Fit.of (by omega) (by omega)
  have L1 : Fit 48271 := Fit.of (by decide) (by decide)
  have L2 : Fit 7919 := Fit.of (by decide) (by decide)
  have L3 : Fit 31 := Fit.of (by decide) (by decide)
  have L4 : Fit 16807 := Fit.of (by decide) (by decide)
  simp [-s_setAt, -s_mulI, mulF, m_law_draw, b_law_draw, h1, hm, F1, F2, L1, L2, L3, L4, fit_mod, pY, pZ, pF, l64]
theorem draw_3 {x : Int} (hx : atI c a = some (.int x)) (ha : a < (c.length : Int)) (h18 : 1000000000000000000 ≤ x) (h0 : ¬ x - 1000000000000000000 = 0) (hml : m.natAbs.log2 < 9000) :
    m_law_draw [.own (penD c a 0 n f), .dat (.int m)] = .ok (.dat (.int ((x - 1000000000000000000) % m))) [.own (penD c (a + 1) ((x - 1000000000000000000) / m) (n + 1) f), .dat (.int m)] := by
  have h1 : 1000000000000000000 < x := by omega
  simp [-s_setAt, -s_mulI, mulF, m_law_draw, b_law_draw, ha, hm, hx, h18, hml, h1]
theorem draw_4 (hx : atI c a = some (.int 1000000000000000000)) (ha : a < (c.length : Int)) :
    m_law_draw [.own (penD c a 0 n f), .dat (.int m)] = .ok (.dat (.int (pZ f (n + 1) / 64 % m))) [.own (penD c (a + 1) 0 (n + 1) (pF f (n + 1))), .dat (.int m)] := by
  have F1 : Fit f := Fit.of (by omega) (by omega)
  have F2 : Fit (n + 1) := Fit.of (by omega) (by omega)
  have L1 : Fit 48271 := Fit.of (by decide) (by decide)
  have L2 : Fit 7919 := Fit.of (by decide) (by decide)
  have L3 : Fit 31 := Fit.of (by decide) (by decide)
  have L4 : Fit 16807 := Fit.of (by decide) (by decide)
  simp [-s_setAt, -s_mulI, mulF, m_law_draw, b_law_draw, ha, hm, hx, F1, F2, L1, L2, L3, L4, fit_mod, pY, pZ, pF, l64]
theorem draw_5 {x : Int} (hx : atI c a = some (.int x)) (ha : a < (c.length : Int)) (h18 : ¬ 1000000000000000000 ≤ x) :
    ∃ g, g = (f * 69069 + x) % 2147483587 ∧ m_law_draw [.own (penD c a 0 n f), .dat (.int m)] = .ok (.dat (.int (pZ g (n + 1) / 64 % m))) [.own (penD c (a + 1) 0 (n + 1) (pF g (n + 1))), .dat (.int m)] := by
  refine ⟨_, rfl, ?_⟩
  have F1 : Fit f := Fit.of (by omega) (by omega)
  have F2 : Fit (n + 1) := Fit.of (by omega) (by omega)
  have L1 : Fit 48271 := Fit.of (by decide) (by decide)
  have L2 : Fit 7919 := Fit.of (by decide) (by decide)
  have L3 : Fit 31 := Fit.of (by decide) (by decide)
  have L4 : Fit 16807 := Fit.of (by decide) (by decide)
  have L5 : Fit 69069 := Fit.of (by decide) (by decide)
  simp [-s_setAt, -s_mulI, mulF, m_law_draw, b_law_draw, ha, hm, hx, h18, F1, F2, L1, L2, L3, L4, L5, fit_mod, pY, pZ, pF, l64]
end
theorem draw_ok {K m : Int} {d : D} (h : IsPen K d) (hK : K ≤ 1000000) (hm : 0 < m) (hm2 : m ≤ 1000000) : ∃ r d', m_law_draw [.own d, .dat (.int m)] = .ok (.dat (.int r)) [.own d', .dat (.int m)] ∧ 0 ≤ r ∧ r < m ∧ IsPen (K + 1) d' := by
  obtain ⟨c, a, b, n, f, rfl, ha, hb, hn, hnK, hf, hf2⟩ := h
  have hml : m.natAbs.log2 < 9000 := by
    rcases log2_lt (x := m) (k := 9000) (Nat.lt_of_lt_of_le (by omega : m.natAbs < 2 ^ 20) (Nat.pow_le_pow_right (by decide) (by decide))) with h | h
    · exact h
    · omega
  have R : ∀ z : Int, 0 ≤ z % m ∧ z % m < m := fun z => ⟨Int.emod_nonneg z (by omega), Int.emod_lt_of_pos z hm⟩
  have hn2 : n ≤ 1000000 := by omega
  by_cases h0 : b = 0
  · subst h0
    by_cases hl : a < (c.length : Int)
    · have hx : ∃ x, atI (c.map D.int) a = some (.int x) := by
        unfold atI ixN
        rw [if_pos ha, if_pos (by rw [List.length_map]; exact hl)]
        have : a.toNat < c.length := by omega
        exact ⟨c[a.toNat], by simp [this]⟩
      obtain ⟨x, hx⟩ := hx
      have hl' : a < ((c.map D.int).length : Int) := by rw [List.length_map]; exact hl
      by_cases h18 : 1000000000000000000 ≤ x
      · by_cases hz : x - 1000000000000000000 = 0
        · have e : x = 1000000000000000000 := by omega
          subst e
          exact ⟨_, _, draw_4 hn hn2 hf hf2 hm hx hl', (R _).1, (R _).2, c, _, _, _, _, rfl, by omega, by omega, by omega, by omega, (pF_ok _ _).1, (pF_ok _ _).2⟩
        · exact ⟨_, _, draw_3 hn hn2 hf hf2 hm hx hl' h18 hz hml, (R _).1, (R _).2, c, _, _, _, _, rfl, by omega, Int.ediv_nonneg (by omega) (by omega), by omega, by omega, hf, hf2⟩
      · obtain ⟨g, _, e⟩ := draw_5 hn hn2 hf hf2 hm hx hl' h18
        exact ⟨_, _, e, (R _).1, (R _).2, c, _, _, _, _, rfl, by omega, by omega, by omega, by omega, (pF_ok _ _).1, (pF_ok _ _).2⟩
    · exact ⟨_, _, draw_2 hn hn2 hf hf2 hm (by rw [List.length_map]; omega), (R _).1, (R _).2, c, _, _, _, _, rfl, ha, by omega, by omega, by omega, (pF_ok _ _).1, (pF_ok _ _).2⟩
  · exact ⟨_, _, draw_1 (by omega) hm hml, (R _).1, (R _).2, c, _, _, _, _, rfl, ha, Int.ediv_nonneg hb (by omega), by omega, by omega, hf, hf2⟩
end k03
end DL
namespace DL
open PySem L2
namespace k03
/-! ## the law's own defs about lots -/
theorem lot_lim {n : Nat} {x : Lot} (h : LotOk n x) (hn : n ≤ 64) : x.length ≤ LIM := by
  have := h.len
  have hL : LIM = 1000000 := rfl
  omega
theorem law_within_ok {a b : Lot} (ha : a.length ≤ LIM) : m_law_within [.dat (lotD a), .dat (lotD b)] = .ok (.dat (.bl (within a b))) [.dat (lotD a), .dat (lotD b)] := by
  have e := lcR_flt (vs := [2]) (ft := nameT 2) (tt := testS (op2S notInS (getS 2) (getS 1))) (fe := getS 2) (L := a) (it := .int) (fun x => !decide (x ∈ b)) .int (ρ := [.dat (lotD a), .dat (lotD b), .un]) (by rfl) ha fun x _ =>
    ⟨[.dat (lotD a), .dat (lotD b), .dat (.int x)], [.dat (lotD a), .dat (lotD b), .dat (.int x)], by simp, by simp [nin_lot], fun _ => ⟨[.dat (lotD a), .dat (lotD b), .dat (.int x)], by simp, by simp⟩, fun _ => by simp⟩
  have w : (a.filter fun x => !decide (x ∈ b)).isEmpty = within a b := by
    rw [Bool.eq_iff_iff, within_iff, List.isEmpty_iff, List.filter_eq_nil_iff]
    simp
  simp [m_law_within, b_law_within, e, eq_intsN, w]
abbrev bookD (n : Nat) (ls : List Lot) : D := .tup [.int (n : Nat), .tup (ls.map lotD)]
@[simp] theorem at_0 {a b : D} : atI [a, b] 0 = some a := rfl
@[simp] theorem at_1 {a b : D} : atI [a, b] 1 = some b := rfl
theorem le_lim {k : Nat} (h : k ≤ 64) : k ≤ LIM := by
  have hL : LIM = 1000000 := rfl
  omega
theorem law_carries_ok {n : Nat} {ls : List Lot} (hn : n ≤ 64) (h : BookOk n ls) (x : Lot) : m_law_carries [.dat (bookD n ls), .dat (lotD x)] = .ok (.dat (.bl (car ls x))) [.dat (bookD n ls), .dat (lotD x)] := by
  have e := lcR_flt (vs := [2]) (ft := nameT 2) (tt := truS (fnS m_law_within (consS (getS 2) (consS (getS 1) nilS)))) (fe := getS 2) (L := ls) (it := lotD) (fun o => within o x) lotD (ρ := [.dat (bookD n ls), .dat (lotD x), .un]) (by rfl) (le_lim h.few) fun o ho =>
    ⟨[.dat (bookD n ls), .dat (lotD x), .dat (lotD o)], [.dat (bookD n ls), .dat (lotD x), .dat (lotD o)], by simp, by simp [law_within_ok (lot_lim (h.ok o ho) hn)], fun _ => ⟨[.dat (bookD n ls), .dat (lotD x), .dat (lotD o)], by simp, by simp⟩, fun _ => by simp⟩
  have w : (!(ls.filter fun o => within o x).isEmpty) = car ls x := by
    rw [Bool.eq_iff_iff, car_iff, Bool.not_eq_true', ← Bool.not_eq_true, List.isEmpty_iff, List.filter_eq_nil_iff]
    simp
  simp [m_law_carries, b_law_carries, e, ne_lotsN, w]
theorem rg_nat {n : Nat} (h : n ≤ 1000000) : Rg (n : Int) := Rg.of (by omega) (by omega)
theorem rangeD_nat (n : Nat) : rangeD 0 ((n : Int).toNat) = (mem n).map D.int := by
  rw [rangeD_eq]
  unfold mem
  rw [List.map_map, Int.toNat_natCast]
  apply List.map_congr_left
  intro i _
  simp
theorem law_others_ok {n : Nat} (hn : n ≤ 64) (x : Lot) : m_law_others [.dat (.int (n : Nat)), .dat (lotD x)] = .ok (.dat (lotD (rest n x))) [.dat (.int (n : Nat)), .dat (lotD x)] := by
  have e := lcR_flt (vs := [2]) (ft := nameT 2) (tt := testS (op2S notInS (getS 2) (getS 1))) (fe := getS 2) (L := mem n) (it := .int) (fun m => !decide (m ∈ x)) .int (ρ := [.dat (.int (n : Nat)), .dat (lotD x), .un]) (by rfl) (by rw [mem_len]; exact le_lim hn) fun m _ =>
    ⟨[.dat (.int (n : Nat)), .dat (lotD x), .dat (.int m)], [.dat (.int (n : Nat)), .dat (lotD x), .dat (.int m)], by simp, by simp [nin_lot], fun _ => ⟨[.dat (.int (n : Nat)), .dat (lotD x), .dat (.int m)], by simp, by simp⟩, fun _ => by simp⟩
  rw [← rangeD_nat] at e
  simp [m_law_others, b_law_others, rg1_ok (rg_nat (by omega : n ≤ 1000000))]
  rw [show rangeD 0 n = rangeD 0 ((n : Int).toNat) by simp, e]
  simp [rest]
theorem law_without_ok {x : Lot} (hx : x.length ≤ LIM) (m : Int) : m_law_without [.dat (lotD x), .dat (.int m)] = .ok (.dat (lotD (drop1 x m))) [.dat (lotD x), .dat (.int m)] := by
  have e := lcR_flt (vs := [2]) (ft := nameT 2) (tt := testS (op2S neD (getS 2) (getS 1))) (fe := getS 2) (L := x) (it := .int) (fun o => !decide (o = m)) .int (ρ := [.dat (lotD x), .dat (.int m), .un]) (by rfl) hx fun o _ =>
    ⟨[.dat (lotD x), .dat (.int m), .dat (.int o)], [.dat (lotD x), .dat (.int m), .dat (.int o)], by simp, by simp [ne_int], fun _ => ⟨[.dat (lotD x), .dat (.int m), .dat (.int o)], by simp, by simp⟩, fun _ => by simp⟩
  simp [m_law_without, b_law_without, e, drop1]
theorem pw_step {n k : Nat} (hk : k < n) (hn : n ≤ 6) : ∃ ρ2, asgS 1 (op2S addD (getS 1) (overS 1 (lcR [3] (nameT 3) yesT (op2S addD (getS 3) (tupS (consD (getS 2) nilS)))))) [.dat (.int (n : Nat)), .own (.lst ((pw k).map lotD)), .dat (.int (k : Nat)), .un] = .ok .nx ρ2 ∧
    forget [2, 3] ρ2 = [.dat (.int (n : Nat)), .own (.lst ((pw (k + 1)).map lotD)), .un, .un] := by
  have h2 : 2 ^ k ≤ 64 := two_le (by omega)
  have e := lcR_all (vs := [3]) (ft := nameT 3) (tt := yesT) (fe := op2S addD (getS 3) (tupS (consD (getS 2) nilS))) (L := pw k) (it := lotD) (y := fun x => lotD (x ++ [(k : Int)])) (ρ := [.dat (.int (n : Nat)), .brw (.lst ((pw k).map lotD)), .dat (.int (k : Nat)), .un]) (by rfl) (by rw [pw_len]; exact le_lim h2) fun x hx =>
    ⟨[.dat (.int (n : Nat)), .brw (.lst ((pw k).map lotD)), .dat (.int (k : Nat)), .dat (lotD x)], [.dat (.int (n : Nat)), .brw (.lst ((pw k).map lotD)), .dat (.int (k : Nat)), .dat (lotD x)], [.dat (.int (n : Nat)), .brw (.lst ((pw k).map lotD)), .dat (.int (k : Nat)), .dat (lotD x)], by simp, by simp, by
      have := (mem_pw.mp hx).len
      have l : x.length ≤ 999999 := by omega
      simp [l], by simp⟩
  refine ⟨[.dat (.int (n : Nat)), .own (.lst ((pw (k + 1)).map lotD)), .dat (.int (k : Nat)), .un], ?_, by simp⟩
  have l1 := pw_len k
  have l2 : 2 ^ k + 2 ^ k ≤ 1000000 := by omega
  simp [e, pw, l1, l2]
theorem law_all_lots_ok {n : Nat} (hn : n ≤ 6) : m_law_all_lots [.dat (.int (n : Nat))] = .ok (.own (.lst ((lots n).map lotD))) [.dat (.int (n : Nat))] := by
  have e := forL_st (fg := [2, 3]) (ft := nameT 2) (fb := asgS 1 (op2S addD (getS 1) (overS 1 (lcR [3] (nameT 3) yesT (op2S addD (getS 3) (tupS (consD (getS 2) nilS))))))) ((mem n).map D.int) (fun k => [.dat (.int (n : Nat)), .own (.lst ((pw k).map lotD)), .un, .un]) [.dat (.int (n : Nat)), .own (.lst [.tup []]), .un, .un] rfl fun k hk => by
    rw [List.length_map, mem_len] at hk
    obtain ⟨ρ2, h1, h2⟩ := pw_step (n := n) hk hn
    exact ⟨[.dat (.int (n : Nat)), .own (.lst ((pw k).map lotD)), .dat (.int (k : Nat)), .un], ρ2, by simp [mem], h1, h2⟩
  have h2 : 2 ^ n ≤ 64 := two_le hn
  have l1 : (pw n).length ≤ LIM := by rw [pw_len]; exact le_lim h2
  rw [← rangeD_nat] at e
  simp [m_law_all_lots, b_law_all_lots, rg1_ok (rg_nat (by omega : n ≤ 1000000))]
  rw [show rangeD 0 n = rangeD 0 ((n : Int).toNat) by simp, e]
  have l2 : (rangeD 0 n).length = n := by simp [rangeD_len]
  simp [-s_sortL, l2, sortL_lots l1, lots]
end k03
end DL
namespace DL
open PySem L2
namespace k03
/-! ## the program's Book -/
theorem is_whole_int (a : Int) : m_is_whole [.dat (.int a)] = .ok (.dat (.bl true)) [.dat (.int a)] := by
  simp [m_is_whole, b_is_whole]
theorem is_index_ok (a n : Int) : m_is_index [.dat (.int a), .dat (.int n)] = .ok (.dat (.bl (decide (0 ≤ a ∧ a < n)))) [.dat (.int a), .dat (.int n)] := by
  by_cases h : 0 ≤ a
  · simp [m_is_index, b_is_index, is_whole_int, h]
  · simp [m_is_index, b_is_index, is_whole_int, h]
theorem lot_at {x : Lot} {i : Nat} (h : i < x.length) : atI (x.map D.int) (i : Int) = some (.int x[i]) := at_nat (by simp [h])
theorem range_nat (k : Nat) : rangeD 0 k = (List.range k).map fun (i : Nat) => D.int (i : Int) := by
  rw [rangeD_eq]
  apply List.map_congr_left
  intro i _
  simp
theorem is_lot_ok {n : Nat} {x : Lot} (h : LotOk n x) (hn : n ≤ 64) : m_is_lot [.dat (.int (n : Nat)), .dat (lotD x)] = .ok (.dat (.bl true)) [.dat (.int (n : Nat)), .dat (lotD x)] := by
  have hl := h.len
  have e1 := lcR_all (vs := [3]) (ft := nameT 3) (tt := yesT) (fe := fnS m_is_index (consS (getS 3) (consS (getS 0) nilS))) (L := x) (it := .int) (y := fun _ => .bl true) (ρ := [.dat (.int (n : Nat)), .dat (lotD x), .un, .un]) (by rfl) (lot_lim h hn) fun m hm =>
    ⟨[.dat (.int (n : Nat)), .dat (lotD x), .un, .dat (.int m)], [.dat (.int (n : Nat)), .dat (lotD x), .un, .dat (.int m)], [.dat (.int (n : Nat)), .dat (lotD x), .un, .dat (.int m)], by simp, by simp, by simp [is_index_ok, h.lt m hm], by simp⟩
  have e2 := lcR_all (vs := [2]) (ft := nameT 2) (tt := yesT) (fe := op2S ltD (op2S ixA (getS 1) (getS 2)) (op2S ixA (getS 1) (op2S addD (getS 2) (constS (.int 1))))) (L := List.range (x.length - 1)) (it := fun (i : Nat) => .int (i : Int)) (y := fun _ => .bl true) (ρ := [.dat (.int (n : Nat)), .dat (lotD x), .un, .un]) (by rfl) (by rw [List.length_range]; have := lot_lim h hn; omega) fun i hi => by
    have hi := List.mem_range.mp hi
    have q1 : i < x.length := by omega
    have q2 : i + 1 < x.length := by omega
    have g1 := lot_at q1
    have g2 : atI (x.map D.int) ((i : Int) + 1) = some (.int x[i + 1]) := lot_at q2
    have q3 : x[i] < x[i + 1] := (List.pairwise_iff_getElem.mp h.asc) i (i + 1) q1 q2 (by omega)
    exact ⟨[.dat (.int (n : Nat)), .dat (lotD x), .dat (.int (i : Nat)), .un], [.dat (.int (n : Nat)), .dat (lotD x), .dat (.int (i : Nat)), .un], [.dat (.int (n : Nat)), .dat (lotD x), .dat (.int (i : Nat)), .un], by simp, by simp, by simp [g1, g2, q3], by simp⟩
  rw [← range_nat] at e2
  have r : Rg ((x.length : Int) - 1) := Rg.of (by omega) (by omega)
  simp [m_is_lot, b_is_lot, e1, rg1_ok r, e2, all_tt]
theorem is_inside_ok {a b : Lot} (ha : a.length ≤ LIM) : m_is_inside [.dat (lotD a), .dat (lotD b)] = .ok (.dat (.bl (within a b))) [.dat (lotD a), .dat (lotD b)] := by
  have e := lcR_all (vs := [2]) (ft := nameT 2) (tt := yesT) (fe := op2S inS (getS 2) (getS 1)) (L := a) (it := .int) (y := fun x => .bl (decide (x ∈ b))) (ρ := [.dat (lotD a), .dat (lotD b), .un]) (by rfl) ha fun x _ =>
    ⟨[.dat (lotD a), .dat (lotD b), .dat (.int x)], [.dat (lotD a), .dat (lotD b), .dat (.int x)], [.dat (lotD a), .dat (lotD b), .dat (.int x)], by simp, by simp, by simp [in_lot], by simp⟩
  simp [m_is_inside, b_is_inside, e, all_map, within]
abbrev bookI (n : Nat) (L : List Lot) : D := .ins "Book" ["many", "least"] [.int (n : Nat), .tup (L.map lotD)]
theorem ne_ml : (Str.ofString "many" = Str.ofString "least") = False := eq_false (by decide +kernel)
@[simp] theorem look_many {a b : D} : lookD "many" ["many", "least"] [a, b] = some a := by simp [lookD]
@[simp] theorem look_least {a b : D} : lookD "least" ["many", "least"] [a, b] = some b := by simp [lookD, ne_ml]
/-- a Book, however it is held -/
def IsB (X : SV) (n : Nat) (L : List Lot) : Prop := X = .own (bookI n L) ∨ X = .dat (bookI n L)
theorem carries_in_ok {n : Nat} {L : List Lot} {X : SV} (hn : n ≤ 6) (h : Bk n L) (hX : IsB X n L) (x : Lot) : m_carries_in [X, .dat (lotD x)] = .ok (.dat (.bl (car L x))) [X, .dat (lotD x)] := by
  have hl : L.length ≤ 64 := Nat.le_trans h.few (two_le hn)
  have e := lcR_all (vs := [2]) (ft := nameT 2) (tt := yesT) (fe := fnS m_is_inside (consS (getS 2) (consS (getS 1) nilS))) (L := L) (it := lotD) (y := fun o => .bl (within o x)) (ρ := [X, .dat (lotD x), .un]) (by rcases hX with rfl | rfl <;> rfl) (le_lim hl) fun o ho =>
    ⟨[X, .dat (lotD x), .dat (lotD o)], [X, .dat (lotD x), .dat (lotD o)], [X, .dat (lotD x), .dat (lotD o)], by simp, by simp, by simp [is_inside_ok (lot_lim (h.ok o ho) (by omega : n ≤ 64))], by simp⟩
  rcases hX with rfl | rfl
  · simp [m_carries_in, b_carries_in, e, any_map, car]
  · simp [m_carries_in, b_carries_in, e, any_map, car]
theorem least_loop {d : D} : ∀ (xs found : List Lot) (A B : SV), (∀ x ∈ found, x.length ≤ LIM) → (∀ x ∈ xs, x.length ≤ LIM) → found.length + xs.length ≤ 1000 →
    forL [2, 3] (nameT 2) (iteS (notT (truS (callS anyL (consS (overS 1 (lcR [3] (nameT 3) yesT (fnS m_is_inside (consS (getS 3) (consS (getS 2) nilS))))) nilS)))) (dropS (methS appendD 1 (consD (getS 2) nilS))) nextS) (xs.map lotD) [.dat d, .own (.lst (found.map lotD)), A, B] =
      .ok .nx [.dat d, .own (.lst ((leastGo xs found).map lotD)), .un, .un]
  | [], found, A, B, _, _, _ => rfl
  | x :: xs, found, A, B, hf, hx, hl => by
    have hL : LIM = 1000000 := rfl
    rw [List.length_cons] at hl
    have e := lcR_all (vs := [3]) (ft := nameT 3) (tt := yesT) (fe := fnS m_is_inside (consS (getS 3) (consS (getS 2) nilS))) (L := found) (it := lotD) (y := fun o => .bl (within o x)) (ρ := [.dat d, .brw (.lst (found.map lotD)), .dat (lotD x), .un]) (by rfl) (by omega) fun o ho =>
      ⟨[.dat d, .brw (.lst (found.map lotD)), .dat (lotD x), .dat (lotD o)], [.dat d, .brw (.lst (found.map lotD)), .dat (lotD x), .dat (lotD o)], [.dat d, .brw (.lst (found.map lotD)), .dat (lotD x), .dat (lotD o)], by simp, by simp, by simp [is_inside_ok (hf o ho)], by simp⟩
    have c : (found.any fun o => within o x) = car found x := rfl
    have lf : found.length < 1000000 := by omega
    unfold leastGo
    rw [List.map_cons, forL]
    by_cases z : car found x = true
    · rw [if_pos z, ← least_loop xs found (.dat (lotD x)) .un hf (fun y hy => hx y (List.mem_cons_of_mem _ hy)) (by omega)]
      simp [e, any_map, c, z]
    · rw [if_neg z, ← least_loop xs (found ++ [x]) (.dat (lotD x)) .un (fun y hy => by
        rcases List.mem_append.mp hy with hy | hy
        · exact hf y hy
        · rw [List.mem_singleton.mp hy]; exact hx x List.mem_cons_self) (fun y hy => hx y (List.mem_cons_of_mem _ hy)) (by rw [List.length_append]; simp; omega)]
      simp [e, any_map, c, z, lf]
theorem least_of_ok {ls : List Lot} {d : D} (hd : d = .tup (ls.map lotD) ∨ d = .lst (ls.map lotD)) (hx : ∀ x ∈ ls, x.length ≤ LIM) (hl : ls.length ≤ 1000) : m_least_of [.dat d] = .ok (.own (.lst ((leastGo (sortLen ls) []).map lotD))) [.dat d] := by
  have hL : LIM = 1000000 := rfl
  have P := sortLen_perm ls
  have e := least_loop (d := d) (sortLen ls) [] .un .un (fun x h => by cases h) (fun x h => hx x (P.mem_iff.mp h)) (by rw [P.length_eq]; simpa using hl)
  have s : sortLenD d = some (.own (.lst ((sortLen ls).map lotD))) := lotsLen_ok (by omega) (by rcases hd with rfl | rfl <;> rfl)
  rw [List.map_nil] at e
  simp [m_least_of, b_least_of, s, e]
end k03
end DL
namespace DL
open PySem L2
namespace k03
theorem need_many_ok {n : Nat} (h1 : 1 ≤ n) (h2 : n ≤ 20) : m_need_many [.dat (.int (n : Nat)), .dat (.int 20)] = .ok (.dat .non) [.dat (.int (n : Nat)), .dat (.int 20)] := by
  have e1 : (1 : Int) ≤ n := by omega
  have e2 : (n : Int) ≤ 20 := by omega
  simp [m_need_many, b_need_many, is_whole_int, e1, e2]
/-- lots that are handed over: as a tuple, as a list -/
def IsLs (d : D) (ls : List Lot) : Prop := d = .tup (ls.map lotD) ∨ d = .lst (ls.map lotD)
theorem book_init_ok {n : Nat} {ls : List Lot} {d : D} (h1 : 1 ≤ n) (h2 : n ≤ 6) (hd : IsLs d ls) (h : ∀ x ∈ ls, LotOk n x) (hl : ls.length ≤ 1000) :
    m_Book_init [.own (.ins "Book" [] []), .dat (.int (n : Nat)), .dat d] = .ok (.dat .non) [.own (bookI n (sortLots (leastGo (sortLen ls) []))), .dat (.int (n : Nat)), .dat d] := by
  have hL : LIM = 1000000 := rfl
  have e1 := forL_same (fg := [3]) (ft := nameT 3) (fb := iteS (notT (truS (fnS m_is_lot (consS (getS 1) (consS (getS 3) nilS))))) neverS nextS) (ls.map lotD) [.own (.ins "Book" [] []), .dat (.int (n : Nat)), .dat d, .un] fun e he => by
    obtain ⟨x, hx, rfl⟩ := List.mem_map.mp he
    exact ⟨[.own (.ins "Book" [] []), .dat (.int (n : Nat)), .dat d, .dat (lotD x)], [.own (.ins "Book" [] []), .dat (.int (n : Nat)), .dat d, .dat (lotD x)], by simp, by simp [is_lot_ok (h x hx) (by omega : n ≤ 64)], by simp⟩
  have e2 := least_of_ok hd (fun x hx => lot_lim (h x hx) (by omega)) hl
  have m := least_mid h
  have l : (leastGo (sortLen ls) []).length ≤ LIM := by
    have := few_lots m.1 m.2.1.nd
    have := two_le h2
    omega
  rcases hd with rfl | rfl
  · simp [-s_sortL, m_Book_init, b_Book_init, need_many_ok h1 (by omega : n ≤ 20), e1, e2, sortL_lots l, putNs, putVs, ne_ml]
  · simp [-s_sortL, m_Book_init, b_Book_init, need_many_ok h1 (by omega : n ≤ 20), e1, e2, sortL_lots l, putNs, putVs, ne_ml]
/-- the Book that is made of these lots -/
theorem law_made_ok {n : Nat} {ls : List Lot} (h1 : 1 ≤ n) (h2 : n ≤ 6) (h : BookOk n ls) : ∃ L, Bk n L ∧ (∀ x, car L x = car ls x) ∧ m_law_made [.dat (bookD n ls)] = .ok (.own (bookI n L)) [.dat (bookD n ls)] := by
  have e := book_init_ok h1 h2 (.inl rfl) h.ok (by have := h.few; omega)
  exact ⟨_, (leastOf_ok h.ok).1, (leastOf_ok h.ok).2, by simp [m_law_made, b_law_made, e]⟩
/-! ## duals -/
theorem sort_snoc {h : Lot} {m : Int} (hl : h.length ≤ 1000) : sortL [.tup (h.map D.int ++ [.int m])] = some (.own (.lst ((sortI (h ++ [m])).map .int))) := by
  have hL : LIM = 1000000 := rfl
  have := sortL_intsT (l := h ++ [m]) (by rw [List.length_append]; simp; omega)
  rwa [List.map_append] at this
theorem hits_with_ok {n : Nat} {h lot : Lot} (hn : n ≤ 6) (h1 : LotOk n h) (h2 : LotOk n lot) : m_hits_with [.dat (lotD h), .dat (lotD lot)] = .ok (.own (.lst ((hits h lot).map lotD))) [.dat (lotD h), .dat (lotD lot)] := by
  have l1 : h.length ≤ 999999 := by have := h1.len; omega
  have l0 : h.length ≤ 1000 := by have := h1.len; omega
  have e1 := lcR_all (vs := [2]) (ft := nameT 2) (tt := yesT) (fe := op2S inS (getS 2) (getS 0)) (L := lot) (it := .int) (y := fun m => .bl (decide (m ∈ h))) (ρ := [.dat (lotD h), .dat (lotD lot), .un]) (by rfl) (lot_lim h2 (by omega)) fun m _ =>
    ⟨[.dat (lotD h), .dat (lotD lot), .dat (.int m)], [.dat (lotD h), .dat (lotD lot), .dat (.int m)], [.dat (lotD h), .dat (lotD lot), .dat (.int m)], by simp, by simp, by simp [in_lot], by simp⟩
  have e2 := lcR_all (vs := [2]) (ft := nameT 2) (tt := yesT) (fe := callS tupL (consS (callS sortL (consS (op2S addD (getS 0) (tupS (consD (getS 2) nilS))) nilS)) nilS)) (L := lot) (it := .int) (y := fun m => lotD (sortI (h ++ [m]))) (ρ := [.dat (lotD h), .dat (lotD lot), .un]) (by rfl) (lot_lim h2 (by omega)) fun m _ =>
    ⟨[.dat (lotD h), .dat (lotD lot), .dat (.int m)], [.dat (lotD h), .dat (lotD lot), .dat (.int m)], [.dat (lotD h), .dat (lotD lot), .dat (.int m)], by simp, by simp, by simp [-s_sortL, sort_snoc l0, l1], by simp⟩
  unfold hits
  by_cases z : (lot.any fun m => decide (m ∈ h)) = true
  · rw [if_pos z]
    simp only [m_hits_with, b_hits_with]
    simp [-List.any_eq_true, e1, any_map, z]
  · rw [if_neg z]
    have z := Bool.eq_false_iff.mpr z
    simp only [m_hits_with, b_hits_with]
    simp [-List.any_eq_true, -List.any_eq_false, e1, any_map, z, e2]
theorem same_loop {A B C E : SV} : ∀ (l acc : List D), acc.length + l.length ≤ LIM → ∃ F, lcL [4] (nameT 4) yesT (getS 4) l acc [A, B, C, E, .un] = .ok (acc ++ l) [A, B, C, E, F]
  | [], acc, _ => ⟨.un, by simp [lcL]⟩
  | d :: l, acc, h => by
    have hL : LIM = 1000000 := rfl
    rw [List.length_cons] at h
    obtain ⟨F, e⟩ := same_loop (A := A) (B := B) (C := C) (E := E) l (acc ++ [d]) (by rw [List.length_append]; simp; omega)
    refine ⟨F, ?_⟩
    have l1 : acc.length < 1000000 := by omega
    rw [lcL]
    simp [l1, e]
theorem meet_step {n : Nat} {found : List Lot} {lot : Lot} {X : SV} (hn : n ≤ 6) (hf : ∀ x ∈ found, LotOk n x) (hd : found.Nodup) (h2 : LotOk n lot) :
    asgS 1 (fnS m_least_of (consS (overS 1 (lc2R [3, 4] [4] (nameT 3) yesT (inV_ (fnS m_hits_with (consS (getS 3) (consS (getS 2) nilS))) itV) (nameT 4) yesT (getS 4))) nilS)) [X, .own (.lst (found.map lotD)), .dat (lotD lot), .un, .un] =
      .ok .nx [X, .own (.lst ((leastGo (sortLen (found.flatMap fun h => hits h lot)) []).map lotD)), .dat (lotD lot), .un, .un] := by
  have hL : LIM = 1000000 := rfl
  have l1 : found.length ≤ 64 := Nat.le_trans (few_lots hf hd) (two_le hn)
  have l2 : (found.flatMap fun h => hits h lot).length ≤ found.length * 7 := flat_len fun x _ => by have := hits_len (h := x) (lot := lot); have := h2.len; omega
  have fm : (found.flatMap fun h => (hits h lot).map lotD) = (found.flatMap fun h => hits h lot).map lotD := by rw [List.map_flatMap]
  have e := lc2R_flat (vs := [3, 4]) (vs1 := [4]) (ft := nameT 3) (tt := yesT) (fi1 := inV_ (fnS m_hits_with (consS (getS 3) (consS (getS 2) nilS))) itV) (ft1 := nameT 4) (tt1 := yesT) (fe := getS 4) (L := found) (it := lotD) (ys := fun h => (hits h lot).map lotD)
    (ρ := [X, .brw (.lst (found.map lotD)), .dat (lotD lot), .un, .un]) (by rfl) (by rw [fm, List.length_map]; omega) fun h hh =>
    ⟨[X, .brw (.lst (found.map lotD)), .dat (lotD lot), .dat (lotD h), .un], [X, .brw (.lst (found.map lotD)), .dat (lotD lot), .dat (lotD h), .un], [X, .brw (.lst (found.map lotD)), .dat (lotD lot), .dat (lotD h), .un], by simp, by simp, by simp [hits_with_ok hn (hf h hh) h2], fun acc ha => by
      obtain ⟨F, q⟩ := same_loop (A := X) (B := .brw (.lst (found.map lotD))) (C := .dat (lotD lot)) (E := .dat (lotD h)) ((hits h lot).map lotD) acc ha
      exact ⟨_, by simpa using q, by simp⟩⟩
  rw [fm] at e
  have hm : ∀ x ∈ found.flatMap fun h => hits h lot, LotOk n x := fun x hx => by
    obtain ⟨h, q1, q2⟩ := List.mem_flatMap.mp hx
    exact hits_ok (hf h q1) h2 x q2
  have e2 := least_of_ok (ls := found.flatMap fun h => hits h lot) (.inr rfl) (fun x hx => lot_lim (hm x hx) (by omega)) (by omega)
  simp [e, e2]
def meetB : Env → R Out := asgS 1 (fnS m_least_of (consS (overS 1 (lc2R [3, 4] [4] (nameT 3) yesT (inV_ (fnS m_hits_with (consS (getS 3) (consS (getS 2) nilS))) itV) (nameT 4) yesT (getS 4))) nilS))
def MeetP (n : Nat) (L : List Lot) (rest : List D) (ρ : Env) : Prop := ∃ done todo found A B C, done ++ todo = L ∧ rest = todo.map lotD ∧ (∀ x ∈ found, LotOk n x) ∧ Anti found ∧ (∀ x, car found x = hit done x) ∧ ρ = [.dat (.tup (L.map lotD)), .own (.lst (found.map lotD)), A, B, C]
theorem meet_next {n : Nat} {L : List Lot} (hn : n ≤ 6) (h : ∀ x ∈ L, LotOk n x) : ∀ d ds ρ, MeetP n L (d :: ds) ρ → ∃ ρ1 ρ2, nameT 2 d (forget [2, 3, 4] ρ) = some ρ1 ∧ meetB ρ1 = .ok .nx ρ2 ∧ MeetP n L ds ρ2 := by
  rintro d ds ρ ⟨done, todo, found, A, B, C, p1, p2, p3, p4, p5, rfl⟩
  cases todo with
  | nil => cases p2
  | cons lot todo =>
    rw [List.map_cons] at p2
    cases p2
    have hl : LotOk n lot := h lot (by rw [← p1]; simp)
    have hm : ∀ x ∈ found.flatMap fun h => hits h lot, LotOk n x := fun x hx => by
      obtain ⟨h, q1, q2⟩ := List.mem_flatMap.mp hx
      exact hits_ok (p3 h q1) hl x q2
    have m := least_mid hm
    refine ⟨_, _, rfl, meet_step (X := .dat (.tup (L.map lotD))) hn p3 p4.nd hl, done ++ [lot], todo, _, _, _, _, by rw [← p1]; simp, rfl, m.1, m.2.1, fun x => ?_, rfl⟩
    rw [m.2.2, hits_all, p5, hit_snoc]
theorem meeting_ok {n : Nat} {L : List Lot} (hn : n ≤ 6) (h : ∀ x ∈ L, LotOk n x) : ∃ found, (∀ x ∈ found, LotOk n x) ∧ found.length ≤ 64 ∧ Anti found ∧ (∀ x, car found x = hit L x) ∧ m_meeting [.dat (.tup (L.map lotD))] = .ok (.own (.lst (found.map lotD))) [.dat (.tup (L.map lotD))] := by
  have h0 : MeetP n L (L.map lotD) [.dat (.tup (L.map lotD)), .own (.lst [.tup []]), .un, .un, .un] := by
    refine ⟨[], L, [[]], .un, .un, .un, rfl, rfl, fun x hx => ?_, ⟨fun f hf g hg _ => by rw [List.mem_singleton.mp hf, List.mem_singleton.mp hg], by simp⟩, fun x => by simp [car, within, hit], rfl⟩
    rw [List.mem_singleton.mp hx]
    exact ⟨List.Pairwise.nil, fun m hm => by cases hm⟩
  obtain ⟨ρ', e, done, todo, found, A, B, C, p1, p2, p3, p4, p5, p6⟩ := forL_ind (fg := [2, 3, 4]) (ft := nameT 2) (fb := meetB) (MeetP n L) (meet_next hn h) _ _ h0
  have : todo = [] := by cases todo with
    | nil => rfl
    | cons _ _ => cases p2
  subst this
  rw [List.append_nil] at p1
  subst p1
  refine ⟨found, p3, Nat.le_trans (few_lots p3 p4.nd) (two_le hn), p4, p5, ?_⟩
  rw [p6] at e
  unfold meetB at e
  simp [m_meeting, b_meeting, e]
/-- the dual: what carries there -/
theorem dual_ok {n : Nat} {L : List Lot} {X : SV} (h1 : 1 ≤ n) (h2 : n ≤ 6) (h : Bk n L) (hX : IsB X n L) : ∃ M, Bk n M ∧ (∀ x, car M x = !car L (rest n x)) ∧ m_dual [X] = .ok (.own (bookI n M)) [X] := by
  obtain ⟨found, f1, f2, _, f3, f4⟩ := meeting_ok h2 h.ok
  have e := book_init_ok h1 h2 (d := .lst (found.map lotD)) (.inr rfl) f1 (by omega)
  refine ⟨_, (leastOf_ok f1).1, fun x => ?_, ?_⟩
  · rw [(leastOf_ok f1).2, f3, hit_rest h.ok]
  · rcases hX with rfl | rfl
    · simp [m_dual, b_dual, f4, e]
    · simp [m_dual, b_dual, f4, e]
end k03
end DL
namespace DL
open PySem L2
namespace k03
theorem eq_books (n : Nat) (L M : List Lot) : eqD (.tup [.int (n : Nat), .tup (L.map lotD)]) (.tup [.int (n : Nat), .tup (M.map lotD)]) = some (.dat (.bl (decide (L = M)))) := by
  have := (encP encI (encT (encT encI))).eqD (by decide) ((n : Int), L) ((n : Int), M)
  have q : decide (((n : Int), L) = ((n : Int), M)) = decide (L = M) := by simp
  rw [q] at this
  exact this
theorem book_eq_ok {n : Nat} {L M : List Lot} {X Y : SV} (hX : IsB X n L) (hY : IsB Y n M) : m_Book_eq [X, Y] = .ok (.dat (.bl (decide (L = M)))) [X, Y] := by
  rcases hX with rfl | rfl <;> rcases hY with rfl | rfl <;> simp [m_Book_eq, b_Book_eq, eq_books]
/-! ## all lots -/
theorem ev_bound {n j : Nat} (hj : j ≤ n) (hn : n ≤ 6) : (ev n j).length ≤ 64 := by
  refine Nat.le_trans (few_lots (n := n) (fun x hx => ?_) (ev_nodup hj)) (two_le hn)
  obtain ⟨h1, h2⟩ := (ev_mem hj).mp hx
  exact ⟨h1, fun m hm => by have := h2 m hm; omega⟩
theorem ev_step {n j : Nat} {A : SV} (hj : j < n) (hn : n ≤ 6) : asgS 1 (op2S addD (op2S addD (lstS (consD (tupS nilS) nilS)) (overS 1 (lcR [3] (nameT 3) yesT (tupS (consD (getS 2) (starS (getS 3) nilS)))))) (sliceS (getS 1) (someP (constS (.int 1))) noP)) [A, .own (.lst ((ev n j).map lotD)), .dat (.int ((n : Int) - 1 - (j : Int))), .un] =
      .ok .nx [A, .own (.lst ((ev n (j + 1)).map lotD)), .dat (.int ((n : Int) - 1 - (j : Int))), .un] := by
  have hL : LIM = 1000000 := rfl
  have hb := ev_bound (Nat.le_of_lt hj) hn
  have e := lcR_all (vs := [3]) (ft := nameT 3) (tt := yesT) (fe := tupS (consD (getS 2) (starS (getS 3) nilS))) (L := ev n j) (it := lotD) (y := fun x => lotD (((n : Int) - 1 - (j : Int)) :: x)) (ρ := [A, .brw (.lst ((ev n j).map lotD)), .dat (.int ((n : Int) - 1 - (j : Int))), .un]) (by rfl) (le_lim hb) fun x hx => by
    have lx : x.length ≤ n := by
      obtain ⟨h1, h2⟩ := (ev_mem (Nat.le_of_lt hj)).mp hx
      exact LotOk.len ⟨h1, fun m hm => by have := h2 m hm; omega⟩
    have l1 : x.length ≤ 999999 := by omega
    have ds : ∀ l : List D, datsOf (l.map XV.dat) = some l := fun l => by
      induction l with
      | nil => rfl
      | cons a l ih => simp [ih]
    exact ⟨[A, .brw (.lst ((ev n j).map lotD)), .dat (.int ((n : Int) - 1 - (j : Int))), .dat (lotD x)], [A, .brw (.lst ((ev n j).map lotD)), .dat (.int ((n : Int) - 1 - (j : Int))), .dat (lotD x)], [A, .brw (.lst ((ev n j).map lotD)), .dat (.int ((n : Int) - 1 - (j : Int))), .dat (lotD x)], by simp, by simp, by
      have := ds (x.map D.int)
      rw [List.map_map] at this
      simp [this, l1], by simp⟩
  obtain ⟨t, ht⟩ := ev_head n j
  have l2 : 1 + (ev n j).length ≤ 1000000 := by omega
  have l3 : (ev n j).length + 1 + ((ev n j).length - 1) ≤ 1000000 := by omega
  simp [e, cut_1, l2, l3, ev]
theorem every_lot_ok {n : Nat} (h1 : 1 ≤ n) (hn : n ≤ 6) : m_every_lot [.dat (.int (n : Nat))] = .ok (.own (.lst ((ev n n).map lotD))) [.dat (.int (n : Nat))] := by
  have e := forL_st (fg := [2, 3]) (ft := nameT 2) (fb := asgS 1 (op2S addD (op2S addD (lstS (consD (tupS nilS) nilS)) (overS 1 (lcR [3] (nameT 3) yesT (tupS (consD (getS 2) (starS (getS 3) nilS)))))) (sliceS (getS 1) (someP (constS (.int 1))) noP))) (downD ((n : Int) - 1) n)
    (fun j => [.dat (.int (n : Nat)), .own (.lst ((ev n j).map lotD)), .un, .un]) [.dat (.int (n : Nat)), .own (.lst [.tup []]), .un, .un] rfl fun j hj => by
    rw [downD_len] at hj
    exact ⟨[.dat (.int (n : Nat)), .own (.lst ((ev n j).map lotD)), .dat (.int ((n : Int) - 1 - (j : Int))), .un], _, by simp [downD_eq], ev_step hj hn, by simp⟩
  rw [downD_len] at e
  have r : rg3 [.dat (.int ((n : Int) - 1)), .dat (.int (-1)), .dat (.int (-1))] = fun ρ => .ok (downD ((n : Int) - 1) n) ρ := by
    funext ρ
    unfold rg3
    dsimp only
    rw [if_pos ⟨rfl, by omega, by omega⟩, show ((n : Int) - 1 - -1).toNat = n by omega]
  simp [m_every_lot, b_every_lot, r, e]
theorem how_many_ok {n : Nat} {L : List Lot} {X : SV} (h1 : 1 ≤ n) (hn : n ≤ 6) (h : Bk n L) (hX : IsB X n L) : m_how_many [X] = .ok (.dat (.int (count n (car L) : Nat))) [X] := by
  have hb := ev_bound (Nat.le_refl n) hn
  have e := lcR_flt (vs := [1]) (ft := nameT 1) (tt := truS (fnS m_carries_in (consS (getS 0) (consS (getS 1) nilS)))) (fe := getS 1) (L := ev n n) (it := lotD) (fun x => car L x) lotD (ρ := [X, .un]) (by rfl) (le_lim hb) fun x _ => by
    have c := carries_in_ok hn h hX x
    refine ⟨[X, .dat (lotD x)], [X, .dat (lotD x)], by simp, ?_, fun _ => ⟨[X, .dat (lotD x)], by simp, by simp⟩, fun _ => by simp⟩
    rcases hX with rfl | rfl <;> simp [c]
  have c : ((ev n n).filter fun x => car L x).length = count n (car L) := ((ev_lots n).filter _).length_eq
  rcases hX with rfl | rfl <;> simp [m_how_many, b_how_many, every_lot_ok h1 hn, e, c]
end k03
end DL
namespace DL
open PySem L2
namespace k03
/-! ## what is drawn -/
theorem IsPen.mono {K K' : Int} {d : D} (h : IsPen K d) (hk : K ≤ K') : IsPen K' d := by
  obtain ⟨c, a, b, n, f, h1, h2, h3, h4, h5, h6⟩ := h
  exact ⟨c, a, b, n, f, h1, h2, h3, h4, by omega, h6⟩
theorem atI_ok {l : List D} {r : Int} (h0 : 0 ≤ r) (h1 : r.toNat < l.length) : atI l r = some l[r.toNat] := by
  have := at_nat (List.getElem?_eq_getElem h1)
  rwa [Int.toNat_of_nonneg h0] at this
theorem pick_ok {K : Int} {d : D} {l : List D} (h : IsPen K d) (hK : K ≤ 1000000) (h1 : 1 ≤ l.length) (h2 : l.length ≤ 1000) : ∃ (i : Nat) (d' : D) (hi : i < l.length), m_law_pick [.own d, .dat (.lst l)] = .ok (.dat l[i]) [.own d', .dat (.lst l)] ∧ IsPen (K + 1) d' := by
  obtain ⟨r, d', e, r0, r1, p⟩ := draw_ok (m := (l.length : Nat)) h hK (by omega) (by omega)
  have hr : r.toNat < l.length := by omega
  refine ⟨r.toNat, d', hr, ?_, p⟩
  simp [m_law_pick, b_law_pick, e, atI_ok r0 hr]
theorem popAt_ok {l : List D} {r : Int} (h0 : 0 ≤ r) (h1 : r.toNat < l.length) (hl : l.length ≤ LIM) : popAtD (.lst l) [.int r] = some (.lst (l.eraseIdx r.toNat), l[r.toNat]) := by
  have e : ixN l.length r = some r.toNat := by
    unfold ixN
    rw [if_pos h0, if_pos (by omega)]
  simp only [popAtD, if_pos hl, e, List.getElem?_eq_getElem h1]
theorem idx_perm {α : Type} : ∀ {l : List α} {j : Nat} (hj : j < l.length), (l[j] :: l.eraseIdx j).Perm l
  | a :: l, 0, _ => by simp
  | a :: l, j + 1, hj => by
    have := idx_perm (l := l) (j := j) (by simpa using hj)
    simp only [List.getElem_cons_succ, List.eraseIdx_cons_succ]
    exact (List.Perm.swap a _ _).trans (this.cons a)
def shufB : Env → R Out := dropS (methS appendD 3 (consD (methS popAtD 2 (consD (fnS m_law_draw (consS (getS 0) (consS (callS lenD (consS (getS 2) nilS)) nilS))) nilS)) nilS))
theorem shuf_step {K : Int} {d : D} {left found : List D} {A V : SV} (h : IsPen K d) (hK : K ≤ 1000000) (h1 : 1 ≤ left.length) (h2 : left.length ≤ 1000) (h3 : found.length ≤ 1000) :
    ∃ (j : Nat) (d' : D) (hj : j < left.length), shufB [.own d, A, .own (.lst left), .own (.lst found), V] = .ok .nx [.own d', A, .own (.lst (left.eraseIdx j)), .own (.lst (found ++ [left[j]])), V] ∧ IsPen (K + 1) d' := by
  obtain ⟨r, d', e, r0, r1, p⟩ := draw_ok (m := (left.length : Nat)) h hK (by omega) (by omega)
  have hr : r.toNat < left.length := by omega
  have hL : LIM = 1000000 := rfl
  have l3 : found.length < 1000000 := by omega
  refine ⟨r.toNat, d', hr, ?_, p⟩
  simp [shufB, e, popAt_ok r0 hr (by omega : left.length ≤ LIM), l3]
def ShufP (K : Int) (l : List D) (rest : List D) (ρ : Env) : Prop := ∃ left found d V, (left ++ found).Perm l ∧ rest.length = left.length ∧ IsPen (K + (found.length : Int)) d ∧ ρ = [.own d, .dat (.lst l), .own (.lst left), .own (.lst found), V]
theorem shuffled_ok {K : Int} {d : D} {l : List D} (h : IsPen K d) (hK : K ≤ 990000) (hl : l.length ≤ 1000) : ∃ l' d', l'.Perm l ∧ m_law_shuffled [.own d, .dat (.lst l)] = .ok (.own (.lst l')) [.own d', .dat (.lst l)] ∧ IsPen (K + (l.length : Int)) d' := by
  have step : ∀ x xs ρ, ShufP K l (x :: xs) ρ → ∃ ρ1 ρ2, nameT 4 x (forget [4] ρ) = some ρ1 ∧ shufB ρ1 = .ok .nx ρ2 ∧ ShufP K l xs ρ2 := by
    rintro x xs ρ ⟨left, found, d, V, p1, p2, p3, rfl⟩
    have pl := p1.length_eq
    rw [List.length_append] at pl
    rw [List.length_cons] at p2
    obtain ⟨j, d', hj, e, q⟩ := shuf_step (A := .dat (.lst l)) (V := .dat x) (found := found) p3 (by omega) (by omega : 1 ≤ left.length) (by omega) (by omega)
    refine ⟨_, _, rfl, e, left.eraseIdx j, found ++ [left[j]], d', .dat x, ?_, ?_, ?_, rfl⟩
    · refine List.Perm.trans ?_ p1
      have := idx_perm hj
      have h1 : (left.eraseIdx j ++ (found ++ [left[j]])).Perm (left[j] :: (left.eraseIdx j ++ found)) := by
        rw [← List.append_assoc]
        exact List.perm_append_singleton _ _
      exact h1.trans (this.append_right found)
    · rw [List.length_eraseIdx, if_pos hj]; omega
    · rw [List.length_append]; exact q.mono (by simp; omega)
  have h0 : ShufP K l (rangeD 0 l.length) [.own d, .dat (.lst l), .own (.lst l), .own (.lst []), .un] := ⟨l, [], d, .un, by simp, by rw [rangeD_len], by simpa using h, rfl⟩
  obtain ⟨ρ', e, left, found, d', V, p1, p2, p3, rfl⟩ := forL_ind (fg := [4]) (ft := nameT 4) (fb := shufB) (ShufP K l) step _ _ h0
  have : left = [] := List.eq_nil_of_length_eq_zero p2.symm
  subst this
  rw [List.nil_append] at p1
  refine ⟨found, d', p1, ?_, by rwa [p1.length_eq] at p3⟩
  unfold shufB at e
  simp [m_law_shuffled, b_law_shuffled, rg1_ok (rg_nat (by omega : l.length ≤ 1000000)), e]
def DrawP (K : Int) (n : Nat) (items acc : List D) (ρ : Env) : Prop := ∃ (done todo ch : List Int) (d : D), done ++ todo = mem n ∧ items = todo.map D.int ∧ acc = ch.map D.int ∧ ch.Sublist done ∧ IsPen (K + (done.length : Int)) d ∧ ρ = [.own d, .dat (.int (n : Nat)), .un]
theorem drawn_lot_ok {K : Int} {d : D} {n : Nat} (h : IsPen K d) (hK : K ≤ 990000) (hn : n ≤ 64) : ∃ x d', LotOk n x ∧ m_law_drawn_lot [.own d, .dat (.int (n : Nat))] = .ok (.dat (lotD x)) [.own d', .dat (.int (n : Nat))] ∧ IsPen (K + (n : Int)) d' := by
  have hL : LIM = 1000000 := rfl
  obtain ⟨out, ρ', e, done, todo, ch, d', p1, p2, p3, p4, p5, p6⟩ := lcL_ind (vs := [2]) (ft := nameT 2) (tt := testS (op2S eqD (fnS m_law_draw (consS (getS 0) (consS (constS (.int 2)) nilS))) (constS (.int 0)))) (fe := getS 2) (DrawP K n) (by
    rintro x xs acc ρ ⟨done, todo, ch, d, p1, p2, p3, p4, p5, rfl⟩
    cases todo with
    | nil => cases p2
    | cons m todo =>
      rw [List.map_cons] at p2
      cases p2
      have hl : done.length + (todo.length + 1) = n := by
        have := congrArg List.length p1
        rwa [List.length_append, List.length_cons, mem_len] at this
      have hc := p4.length_le
      obtain ⟨r, d', e, r0, r1, q⟩ := draw_ok (m := 2) p5 (by omega) (by omega) (by omega)
      have q' : IsPen (K + ((done ++ [m]).length : Int)) d' := q.mono (by simp; omega)
      refine ⟨[.own d, .dat (.int (n : Nat)), .dat (.int m)], decide (r = 0), [.own d', .dat (.int (n : Nat)), .dat (.int m)], by simp, by simp [e], fun _ => ⟨.int m, [.own d', .dat (.int (n : Nat)), .dat (.int m)], by simp, ?_, done ++ [m], todo, ch ++ [m], d', by rw [← p1]; simp, rfl, ?_, p4.append (List.Sublist.refl _), q', by simp⟩,
        fun _ => ⟨done ++ [m], todo, ch, d', by rw [← p1]; simp, rfl, p3, p4.trans (List.sublist_append_left _ _), q', by simp⟩⟩
      · rw [p3, List.length_map]; omega
      · rw [p3, List.map_append]; rfl) ((mem n).map D.int) [] [.own d, .dat (.int (n : Nat)), .un] ⟨[], mem n, [], d, rfl, rfl, rfl, List.Sublist.refl _, by simpa using h, rfl⟩
  have : todo = [] := by cases todo with
    | nil => rfl
    | cons _ _ => cases p2
  subst this
  rw [List.append_nil] at p1
  subst p1
  subst p3
  subst p6
  refine ⟨ch, d', ⟨(mem_asc n).sublist p4, fun m hm => mem_mem.mp (p4.subset hm)⟩, ?_, by rwa [mem_len] at p5⟩
  have e2 : lcR [2] (nameT 2) (testS (op2S eqD (fnS m_law_draw (consS (getS 0) (consS (constS (.int 2)) nilS))) (constS (.int 0)))) (getS 2) (rangeD 0 n) [.own d, .dat (.int (n : Nat)), .un] = .ok (.own (.lst (ch.map D.int))) [.own d', .dat (.int (n : Nat)), .un] := by
    unfold lcR
    rw [if_pos (show clear [2] [SV.own d, .dat (.int (n : Nat)), .un] = true from rfl), show rangeD 0 n = (mem n).map D.int by rw [← rangeD_nat]; simp]
    have : forget [2] [SV.own d, .dat (.int (n : Nat)), .un] = [.own d, .dat (.int (n : Nat)), .un] := rfl
    rw [this, e]
    rfl
  simp [m_law_drawn_lot, b_law_drawn_lot, rg1_ok (rg_nat (by omega : n ≤ 1000000)), e2]
end k03
end DL
namespace DL
open PySem L2
namespace k03
/-! ## books of drawn lots -/
theorem least_lots_ok {n : Nat} {ls : List Lot} {X : SV} (h : BookOk n ls) (hn : n ≤ 64) (hX : X = .own (.lst (ls.map lotD)) ∨ X = .dat (.lst (ls.map lotD))) :
    m_law_least_lots [.dat (.int (n : Nat)), X] = .ok (.dat (.tup ((sortLots (ls.filter (keepLot ls))).map lotD))) [.dat (.int (n : Nat)), X] := by
  obtain ⟨Y, hY, bx⟩ : ∃ Y : SV, (Y = .brw (.lst (ls.map lotD)) ∨ Y = .dat (.lst (ls.map lotD))) ∧ ((X = .own (.lst (ls.map lotD)) ∧ Y = .brw (.lst (ls.map lotD))) ∨ (X = .dat (.lst (ls.map lotD)) ∧ Y = .dat (.lst (ls.map lotD)))) := by
    rcases hX with rfl | rfl
    · exact ⟨_, .inl rfl, .inl ⟨rfl, rfl⟩⟩
    · exact ⟨_, .inr rfl, .inr ⟨rfl, rfl⟩⟩
  have inner : ∀ x, lcR [4] (nameT 4) (andT (testS (op2S neD (getS 4) (getS 3))) (truS (fnS m_law_within (consS (getS 4) (consS (getS 3) nilS))))) (getS 4) (ls.map lotD) [.dat (.int (n : Nat)), Y, .un, .dat (lotD x), .un] =
      .ok (.own (.lst ((ls.filter fun o => !decide (o = x) && within o x).map lotD))) [.dat (.int (n : Nat)), Y, .un, .dat (lotD x), .un] := fun x => by
    refine (lcR_flt (vs := [4]) (L := ls) (it := lotD) (fun o => !decide (o = x) && within o x) lotD (by rcases hY with rfl | rfl <;> rfl) (le_lim h.few) fun o ho =>
      ⟨[.dat (.int (n : Nat)), Y, .un, .dat (lotD x), .dat (lotD o)], [.dat (.int (n : Nat)), Y, .un, .dat (lotD x), .dat (lotD o)], by simp, ?_, fun _ => ⟨[.dat (.int (n : Nat)), Y, .un, .dat (lotD x), .dat (lotD o)], by simp, by simp⟩, fun _ => by simp⟩).trans (by simp)
    by_cases z : o = x
    · simp [ne_lot, z]
    · simp [ne_lot, z, law_within_ok (lot_lim (h.ok o ho) hn)]
  have outer : lcR [3] (nameT 3) (testS (op2S eqD (overS 1 (lcR [4] (nameT 4) (andT (testS (op2S neD (getS 4) (getS 3))) (truS (fnS m_law_within (consS (getS 4) (consS (getS 3) nilS))))) (getS 4))) (lstS nilS))) (getS 3) (ls.map lotD) [.dat (.int (n : Nat)), Y, .un, .un, .un] =
      .ok (.own (.lst ((ls.filter (keepLot ls)).map lotD))) [.dat (.int (n : Nat)), Y, .un, .un, .un] := by
    refine (lcR_flt (vs := [3]) (L := ls) (it := lotD) (keepLot ls) lotD (by rcases hY with rfl | rfl <;> rfl) (le_lim h.few) fun x hx =>
      ⟨[.dat (.int (n : Nat)), Y, .un, .dat (lotD x), .un], [.dat (.int (n : Nat)), Y, .un, .dat (lotD x), .un], by simp, ?_, fun _ => ⟨[.dat (.int (n : Nat)), Y, .un, .dat (lotD x), .un], by simp, by simp⟩, fun _ => by simp⟩).trans (by simp)
    have i := inner x
    rcases hY with rfl | rfl
    · simp [i, eq_lotsN, keepLot]
    · simp [i, eq_lotsN, keepLot]
  have l : (ls.filter (keepLot ls)).length ≤ LIM := Nat.le_trans (List.length_filter_le _ _) (le_lim h.few)
  rcases bx with ⟨rfl, rfl⟩ | ⟨rfl, rfl⟩
  · simp [-s_sortL, m_law_least_lots, b_law_least_lots, outer, sortL_lots l]
  · simp [-s_sortL, m_law_least_lots, b_law_least_lots, outer, sortL_lots l]
theorem perm_ints {l' : List D} {l : List Int} (p : l'.Perm (l.map D.int)) : ∃ k : List Int, k.Perm l ∧ l' = k.map D.int := by
  let f : D → Int := fun d => match d with
    | .int i => i
    | _ => 0
  have e : ∀ d ∈ l', D.int (f d) = d := fun d hd => by
    obtain ⟨i, _, rfl⟩ := List.mem_map.mp (p.mem_iff.mp hd)
    rfl
  refine ⟨l'.map f, ?_, ?_⟩
  · have := p.map f
    rw [List.map_map] at this
    have i : (f ∘ D.int) = id := rfl
    rwa [i, List.map_id] at this
  · rw [List.map_map]
    conv => lhs; rw [← List.map_id l']
    exact List.map_congr_left fun d hd => (e d hd).symm
def anyB : Env → R Out := (seqS (asgS 5 (callS min2 (consS (getS 1) (consS (op2S addD (getS 2) (fnS m_law_pick (consS (getS 0) (consS (lstS (consD (constS (.int 0)) (consD (constS (.int 0)) (consD (constS (.int 0)) (consD (constS (.int 1)) nilS))))) nilS)))) nilS))))
    (dropS (methS appendD 3 (consD (callS tupL (consS (callS sortL (consS (sliceS (fnS m_law_shuffled (consS (getS 0) (consS (lrgS (rgO1 (getS 1))) nilS))) noP (someP (getS 5))) nilS)) nilS)) nilS))))
theorem any_step {K : Int} {d : D} {n : Nat} {ls : List Lot} {z : Int} {A B : SV} (h : IsPen K d) (hK : K ≤ 900000) (hn : n ≤ 6) (hz : 1 ≤ z) (hb : BookOk n ls) (hl : ls.length ≤ 60) :
    ∃ x d' A' B', LotOk n x ∧ anyB [.own d, .dat (.int (n : Nat)), .dat (.int z), .own (.lst (ls.map lotD)), A, B, .un] = .ok .nx [.own d', .dat (.int (n : Nat)), .dat (.int z), .own (.lst ((ls ++ [x]).map lotD)), A', B', .un] ∧ IsPen (K + 1 + (n : Int)) d' := by
  have hL : LIM = 1000000 := rfl
  obtain ⟨i, d1, hi, e1, p1⟩ := pick_ok (l := [.int 0, .int 0, .int 0, .int 1]) h (by omega) (by decide) (by decide)
  obtain ⟨y, ey, y0⟩ : ∃ y : Int, [D.int 0, .int 0, .int 0, .int 1][i] = .int y ∧ 0 ≤ y := by
    match i, hi with
    | 0, _ => exact ⟨0, rfl, by decide⟩
    | 1, _ => exact ⟨0, rfl, by decide⟩
    | 2, _ => exact ⟨0, rfl, by decide⟩
    | 3, _ => exact ⟨1, rfl, by decide⟩
  rw [ey] at e1
  obtain ⟨l', d2, q1, e2, p2⟩ := shuffled_ok (l := (mem n).map D.int) p1 (by omega) (by rw [List.length_map, mem_len]; omega)
  rw [List.length_map, mem_len] at p2
  obtain ⟨k, q2, rfl⟩ := perm_ints q1
  obtain ⟨s, es⟩ : ∃ s : Nat, (if z + y < (n : Int) then z + y else (n : Int)) = (s : Int) := by
    split
    · exact ⟨(z + y).toNat, by omega⟩
    · exact ⟨n, rfl⟩
  have hk : k.length = n := by rw [q2.length_eq, mem_len]
  have nd : (k.take s).Nodup := (q2.nodup_iff.mpr (mem_asc n).nodup).sublist (List.take_sublist _ _)
  have lo : LotOk n (sortI (k.take s)) := ⟨asc_sort nd, fun m hm => mem_mem.mp (q2.mem_iff.mp (List.mem_of_mem_take ((sortI_perm _).mem_iff.mp hm)))⟩
  have hs : sortL [.lst ((k.map D.int).take s)] = some (.own (.lst ((sortI (k.take s)).map .int))) := by
    rw [← List.map_take]; exact sortL_ints (by rw [List.length_take]; omega)
  have rg : rangeD 0 n = (mem n).map D.int := by rw [← rangeD_nat]; simp
  have fit : rgFit (0, (n : Int)) = true := by
    unfold rgFit
    refine decide_eq_true ⟨by simp, ?_, ?_⟩ <;> simp <;> omega
  have ct : cutD (k.map D.int) none (some (s : Int)) = (k.map D.int).take s := cut_to
  refine ⟨sortI (k.take s), d2, A, .dat (.int (s : Nat)), lo, ?_, p2.mono (by omega)⟩
  have l3 : ls.length < 1000000 := by omega
  simp [-s_sortL, anyB, e1, es, fit, rg, e2, ct, hs, l3]
theorem any_book_ok {K : Int} {d : D} {n : Nat} (h : IsPen K d) (hK : K ≤ 800000) (h1 : 1 ≤ n) (hn : n ≤ 6) : ∃ ls d', Bk n ls ∧ m_law_any_book [.own d, .dat (.int (n : Nat))] = .ok (.dat (bookD n ls)) [.own d', .dat (.int (n : Nat))] ∧ IsPen (K + 100) d' := by
  have hL : LIM = 1000000 := rfl
  obtain ⟨r, d1, e1, r0, r1, p1⟩ := draw_ok (m := (n : Int)) h (by omega) (by omega) (by omega)
  obtain ⟨x, d2, x1, e2, p2⟩ := drawn_lot_ok (n := n) p1 (by omega) (by omega)
  obtain ⟨q, d3, e3, q0, q1, p3⟩ := draw_ok (m := 6) p2 (by omega) (by decide) (by decide)
  -- the loop
  have loop : ∀ (l : List D) (K : Int) (d : D) (ls : List Lot) (A B : SV), IsPen K d → K + 7 * (l.length : Int) ≤ 850000 → BookOk n ls → ls.length + l.length ≤ 60 → ∃ ls' d' , BookOk n ls' ∧ ls'.length ≤ 60 ∧ IsPen (K + l.length * (1 + (n : Int))) d' ∧
      forL [4, 5] (nameT 4) anyB l [.own d, .dat (.int (n : Nat)), .dat (.int (1 + r)), .own (.lst (ls.map lotD)), A, B, .un] = .ok .nx [.own d', .dat (.int (n : Nat)), .dat (.int (1 + r)), .own (.lst (ls'.map lotD)), .un, .un, .un] := by
    intro l
    induction l with
    | nil => intro K d ls A B p _ hb hl; exact ⟨ls, d, hb, by simpa using hl, by simpa using p, rfl⟩
    | cons a l ih =>
      intro K d ls A B p hK hb hl
      rw [List.length_cons] at hl hK
      obtain ⟨y, d', A', B', y1, e, p'⟩ := any_step (A := .dat a) (B := .un) p (by omega) hn (by omega : 1 ≤ 1 + r) hb (by omega)
      have hb' : BookOk n (ls ++ [y]) := ⟨fun z hz => by
        rcases List.mem_append.mp hz with hz | hz
        · exact hb.ok z hz
        · rw [List.mem_singleton.mp hz]; exact y1, by rw [List.length_append]; simp; omega⟩
      obtain ⟨ls', d'', b1, b2, b3, b4⟩ := ih (K + 1 + (n : Int)) d' (ls ++ [y]) A' B' p' (by omega) hb' (by rw [List.length_append]; simp; omega)
      refine ⟨ls', d'', b1, b2, b3.mono ?_, ?_⟩
      · rw [List.length_cons, Int.natCast_add, Int.add_mul]; simp; omega
      · rw [forL]
        simp only [s_forgetC, s_forget0, s_nameT, List.set_cons_succ, List.set_cons_zero]
        rw [e]
        exact b4
  have hb0 : BookOk n [x] := ⟨fun z hz => by rw [List.mem_singleton.mp hz]; exact x1, by simp⟩
  obtain ⟨ls, d4, b1, b2, p4, e4⟩ := loop (rangeD 0 ((1 + q).toNat)) _ d3 [x] .un .un p3 (by rw [rangeD_len]; omega) hb0 (by rw [rangeD_len]; simp; omega)
  rw [rangeD_len] at p4
  have p4 : IsPen (K + 90) d4 := p4.mono (by
    have : (((1 + q).toNat : Nat) : Int) = 1 + q := by omega
    rw [this]
    have h6 : (1 + q) * (1 + (n : Int)) ≤ 6 * 7 := Int.mul_le_mul (by omega) (by omega) (by omega) (by omega)
    omega)
  obtain ⟨t, d5, e5, t0, t1, p5⟩ := draw_ok (m := 3) p4 (by omega) (by decide) (by decide)
  -- what is left
  have fin : ∀ (ks : List Lot) (X : SV), BookOk n ks → (X = .own (.lst (ks.map lotD)) ∨ X = .dat (.lst (ks.map lotD))) → ∃ ms : List Lot, Bk n (sortLots (ms.filter (keepLot ms))) ∧
      (seqS (asgS 3 (lcS [6] (rangeI rg1 (consS (callS lenD (consS (getS 3) nilS)) nilS)) (nameT 6) (testS (op2S notInS (op2S ixA (getS 3) (getS 6)) (sliceS (getS 3) noP (someP (getS 6))))) (op2S ixA (getS 3) (getS 6))))
        (retS (tupS (consD (getS 1) (consD (fnS m_law_least_lots (consS (getS 1) (consS (getS 3) nilS))) nilS))))) [.own d5, .dat (.int (n : Nat)), .dat (.int (1 + r)), X, .un, .un, .un] =
        .ok (.ret (.dat (bookD n (sortLots (ms.filter (keepLot ms)))))) [.own d5, .dat (.int (n : Nat)), .dat (.int (1 + r)), .own (.lst (ms.map lotD)), .un, .un, .un] := by
    intro ks X hb hX
    have hl := hb.few
    have e := lcR_flt (vs := [6]) (ft := nameT 6) (tt := testS (op2S notInS (op2S ixA (getS 3) (getS 6)) (sliceS (getS 3) noP (someP (getS 6))))) (fe := op2S ixA (getS 3) (getS 6)) (L := List.range ks.length) (it := fun (i : Nat) => .int (i : Int)) (fun i => !decide (ks.getD i [] ∈ ks.take i)) (fun i => lotD (ks.getD i []))
      (ρ := [.own d5, .dat (.int (n : Nat)), .dat (.int (1 + r)), X, .un, .un, .un]) (by rcases hX with rfl | rfl <;> rfl) (by rw [List.length_range]; exact le_lim hl) fun i hi => by
      have hi := List.mem_range.mp hi
      have g : atI (ks.map lotD) (i : Int) = some (lotD (ks.getD i [])) := at_nat (by simp [hi])
      have c : cutD (ks.map lotD) none (some (i : Int)) = (ks.take i).map lotD := by rw [cut_to, List.map_take]
      have n1 := nin_lotsL (ks.getD i []) (ks.take i)
      refine ⟨[.own d5, .dat (.int (n : Nat)), .dat (.int (1 + r)), X, .un, .un, .dat (.int (i : Nat))], [.own d5, .dat (.int (n : Nat)), .dat (.int (1 + r)), X, .un, .un, .dat (.int (i : Nat))], by simp, ?_, fun _ => ⟨[.own d5, .dat (.int (n : Nat)), .dat (.int (1 + r)), X, .un, .un, .dat (.int (i : Nat))], ?_, by simp⟩, fun _ => by simp⟩
      · rcases hX with rfl | rfl <;> simp only [s_test, s_op2, s_opnd, s_getS, s_bind, s_at0, s_atS, s_app2, s_contS, s_contD, s_contO, s_ixL, g, Option.map_some, s_slice, s_slO, s_noP, s_someP, s_slL, c, n1]
      · rcases hX with rfl | rfl <;> simp [g]
    have e := e.trans (show _ = R.ok (XV.own (.lst (((List.range ks.length).filter fun i => !decide (ks.getD i [] ∈ ks.take i)).map fun i => lotD (ks.getD i [])))) [SV.own d5, .dat (.int (n : Nat)), .dat (.int (1 + r)), X, .un, .un, .un] by simp)
    rw [← range_nat] at e
    refine ⟨((List.range ks.length).filter fun i => !decide (ks.getD i [] ∈ ks.take i)).map fun i => ks.getD i [], bk_keep (fun y hy => ?_) (firsts_nodup ks), ?_⟩
    · obtain ⟨i, hi, rfl⟩ := List.mem_map.mp hy
      have hi := List.mem_range.mp (List.mem_filter.mp hi).1
      refine hb.ok _ ?_
      rw [List.getD_eq_getElem?_getD, List.getElem?_eq_getElem hi, Option.getD_some]
      exact List.getElem_mem hi
    · have hb' : BookOk n (((List.range ks.length).filter fun i => !decide (ks.getD i [] ∈ ks.take i)).map fun i => ks.getD i []) := ⟨fun y hy => by
        obtain ⟨i, hi, rfl⟩ := List.mem_map.mp hy
        have hi := List.mem_range.mp (List.mem_filter.mp hi).1
        refine hb.ok _ ?_
        rw [List.getD_eq_getElem?_getD, List.getElem?_eq_getElem hi, Option.getD_some]
        exact List.getElem_mem hi, by
        rw [List.length_map]
        exact Nat.le_trans (List.length_filter_le _ _) (by rw [List.length_range]; exact hl)⟩
      generalize hm : (((List.range ks.length).filter fun i => !decide (ks.getD i [] ∈ ks.take i)).map fun i => ks.getD i []) = ms at hb'
      have em : (((List.range ks.length).filter fun i => !decide (ks.getD i [] ∈ ks.take i)).map fun i => lotD (ks.getD i [])) = ms.map lotD := by rw [← hm, List.map_map]; rfl
      rw [em] at e
      have ll := least_lots_ok hb' (by omega : n ≤ 64) (.inl rfl)
      rcases hX with rfl | rfl <;> simp [rg1_ok (rg_nat (by omega : ks.length ≤ 1000000)), e, ll]
  have r6 : Rg (1 + q) := Rg.of (by omega) (by omega)
  have fit : rgFit (0, (n : Int)) = true := by
    unfold rgFit
    refine decide_eq_true ⟨by simp, ?_, ?_⟩ <;> simp <;> omega
  have s1 : par2S 2 3 (op2S addD (constS (.int 1)) (fnS m_law_draw (consS (getS 0) (consS (getS 1) nilS)))) (lstS (consD (fnS m_law_drawn_lot (consS (getS 0) (consS (getS 1) nilS))) nilS)) [.own d, .dat (.int (n : Nat)), .un, .un, .un, .un, .un] =
      .ok .nx [.own d2, .dat (.int (n : Nat)), .dat (.int (1 + r)), .own (.lst ([x].map lotD)), .un, .un, .un] := by simp [e1, e2]
  have s2 : forS [4, 5] (rangeI rg1 (consS (op2S addD (constS (.int 1)) (fnS m_law_draw (consS (getS 0) (consS (constS (.int 6)) nilS)))) nilS)) (nameT 4) anyB [.own d2, .dat (.int (n : Nat)), .dat (.int (1 + r)), .own (.lst ([x].map lotD)), .un, .un, .un] =
      .ok .nx [.own d4, .dat (.int (n : Nat)), .dat (.int (1 + r)), .own (.lst (ls.map lotD)), .un, .un, .un] := by simpa [e3, rg1_ok r6] using e4
  by_cases ht : 0 < t
  · obtain ⟨ms, m1, m2⟩ := fin ls.tail (.own (.lst (ls.tail.map lotD))) (b1.sub (fun x hx => List.mem_of_mem_tail hx) (by simp)) (.inl rfl)
    have s3 : asgS 3 (ifS (testS (op2S gtD (fnS m_law_draw (consS (getS 0) (consS (constS (.int 3)) nilS))) (constS (.int 0)))) (sliceS (getS 3) (someP (constS (.int 1))) noP) (getS 3)) [.own d4, .dat (.int (n : Nat)), .dat (.int (1 + r)), .own (.lst (ls.map lotD)), .un, .un, .un] =
        .ok .nx [.own d5, .dat (.int (n : Nat)), .dat (.int (1 + r)), .own (.lst (ls.tail.map lotD)), .un, .un, .un] := by simp [e5, ht, cut_1]
    have hb : b_law_any_book [.own d, .dat (.int (n : Nat)), .un, .un, .un, .un, .un] = _ := (seq_nx s1).trans ((seq_nx s2).trans ((seq_nx s3).trans m2))
    exact ⟨_, d5, m1, by simp [m_law_any_book, hb], p5.mono (by omega)⟩
  · obtain ⟨ms, m1, m2⟩ := fin ls (.dat (.lst (ls.map lotD))) b1 (.inr rfl)
    have s3 : asgS 3 (ifS (testS (op2S gtD (fnS m_law_draw (consS (getS 0) (consS (constS (.int 3)) nilS))) (constS (.int 0)))) (sliceS (getS 3) (someP (constS (.int 1))) noP) (getS 3)) [.own d4, .dat (.int (n : Nat)), .dat (.int (1 + r)), .own (.lst (ls.map lotD)), .un, .un, .un] =
        .ok .nx [.own d5, .dat (.int (n : Nat)), .dat (.int (1 + r)), .dat (.lst (ls.map lotD)), .un, .un, .un] := by simp [e5, ht]
    have hb : b_law_any_book [.own d, .dat (.int (n : Nat)), .un, .un, .un, .un, .un] = _ := (seq_nx s1).trans ((seq_nx s2).trans ((seq_nx s3).trans m2))
    exact ⟨_, d5, m1, by simp [m_law_any_book, hb], p5.mono (by omega)⟩
end k03
end DL
namespace DL
open PySem L2
namespace k03
/-! ## the book of the lots that a handed lambda lets carry -/
/-- what a handed lambda answers -/
def Says (id : Nat) (ds : List D) (n : Nat) (p : Lot → Bool) : Prop := ∀ x, LotOk n x → ∃ m, tab_law_book_by_is_carrying id = some m ∧ lamF m ds [.dat (lotD x)] = .ok (.dat (.bl (p x))) [.dat (lotD x)]
def byB : Env → R Out := iteS (andT (truS (cloS tab_law_book_by_is_carrying 1 (consS (getS 3) nilS))) (testS (op2S eqD (overS 3 (lcR [4] (nameT 4) (truS (cloS tab_law_book_by_is_carrying 1 (consS (fnS m_law_without (consS (getS 3) (consS (getS 4) nilS))) nilS))) (getS 4))) (lstS nilS)))) (dropS (methS appendD 2 (consD (getS 3) nilS))) nextS
theorem by_step {id : Nat} {ds : List D} {n : Nat} {p : Lot → Bool} {x : Lot} {found : List Lot} (hs : Says id ds n p) (hx : LotOk n x) (hn : n ≤ 64) (hf : found.length ≤ 1000) :
    byB [.dat (.int (n : Nat)), .clo id ds, .own (.lst (found.map lotD)), .dat (lotD x), .un] = .ok .nx [.dat (.int (n : Nat)), .clo id ds, .own (.lst ((if leastBy p x = true then found ++ [x] else found).map lotD)), .dat (lotD x), .un] := by
  have hL : LIM = 1000000 := rfl
  have l3 : found.length < 1000000 := by omega
  obtain ⟨m, hm, hp⟩ := hs x hx
  have e : lcR [4] (nameT 4) (truS (cloS tab_law_book_by_is_carrying 1 (consS (fnS m_law_without (consS (getS 3) (consS (getS 4) nilS))) nilS))) (getS 4) (x.map D.int) [.dat (.int (n : Nat)), .clo id ds, .own (.lst (found.map lotD)), .dat (lotD x), .un] =
      .ok (.own (.lst ((x.filter fun m => p (drop1 x m)).map .int))) [.dat (.int (n : Nat)), .clo id ds, .own (.lst (found.map lotD)), .dat (lotD x), .un] := by
    refine (lcR_flt (vs := [4]) (L := x) (it := .int) (fun m => p (drop1 x m)) .int (by rfl) (lot_lim hx hn) fun k hk =>
      ⟨[.dat (.int (n : Nat)), .clo id ds, .own (.lst (found.map lotD)), .dat (lotD x), .dat (.int k)], [.dat (.int (n : Nat)), .clo id ds, .own (.lst (found.map lotD)), .dat (lotD x), .dat (.int k)], by simp, ?_, fun _ => ⟨[.dat (.int (n : Nat)), .clo id ds, .own (.lst (found.map lotD)), .dat (lotD x), .dat (.int k)], by simp, by simp⟩, fun _ => by simp⟩).trans (by simp)
    obtain ⟨m', hm', hp'⟩ := hs (drop1 x k) (lotOk_drop hx k)
    simp [-s_lamF, law_without_ok (lot_lim hx hn), hm', hp']
  have w : leastBy p x = (p x && (x.filter fun m => p (drop1 x m)).isEmpty) := rfl
  cases h1 : p x with
  | false =>
    rw [h1] at hp
    rw [w, h1, Bool.false_and, if_neg (by decide)]
    simp [-s_lamF, byB, hm, hp]
  | true =>
    rw [h1] at hp
    rw [w, h1, Bool.true_and]
    cases h2 : (x.filter fun m => p (drop1 x m)).isEmpty with
    | false =>
      rw [if_neg (by decide)]
      simp [-s_lamF, -List.isEmpty_iff, -List.isEmpty_eq_false_iff, byB, hm, hp, e, eq_intsN, h2]
    | true =>
      rw [if_pos rfl]
      simp [-s_lamF, -List.isEmpty_iff, -List.isEmpty_eq_false_iff, byB, hm, hp, e, eq_intsN, h2, l3]
theorem by_loop {id : Nat} {ds : List D} {n : Nat} {p : Lot → Bool} (hs : Says id ds n p) (hn : n ≤ 64) : ∀ (xs found : List Lot) (A B : SV), (∀ x ∈ xs, LotOk n x) → found.length + xs.length ≤ 1000 →
    forL [3, 4] (nameT 3) byB (xs.map lotD) [.dat (.int (n : Nat)), .clo id ds, .own (.lst (found.map lotD)), A, B] = .ok .nx [.dat (.int (n : Nat)), .clo id ds, .own (.lst ((found ++ xs.filter (leastBy p)).map lotD)), .un, .un]
  | [], found, A, B, _, _ => by simp [forL]
  | x :: xs, found, A, B, hx, hl => by
    rw [List.length_cons] at hl
    rw [List.map_cons, forL]
    simp only [s_forgetC, s_forget0, s_nameT, List.set_cons_succ, List.set_cons_zero]
    rw [by_step hs (hx x List.mem_cons_self) hn (by omega)]
    dsimp only
    rw [by_loop hs hn xs _ _ _ (fun y hy => hx y (List.mem_cons_of_mem _ hy)) (by split <;> (try rw [List.length_append, List.length_singleton]) <;> omega), List.filter_cons]
    cases h : leastBy p x <;> simp
theorem book_by_ok {id : Nat} {ds : List D} {n : Nat} {p : Lot → Bool} (hs : Says id ds n p) (hn : n ≤ 6) (hp : Mono n p) : ∃ ls, Bk n ls ∧ (∀ x, LotOk n x → car ls x = p x) ∧ m_law_book_by [.dat (.int (n : Nat)), .clo id ds] = .ok (.dat (bookD n ls)) [.dat (.int (n : Nat)), .clo id ds] := by
  have hl := lots_len n
  have h2 := two_le hn
  have e := by_loop hs (by omega) (lots n) [] .un .un (fun x hx => mem_lots.mp hx) (by simp; omega)
  refine ⟨byLots n p, (byLots_ok hp).1, (byLots_ok hp).2, ?_⟩
  rw [List.nil_append, List.map_nil] at e
  unfold byB at e
  simp [m_law_book_by, b_law_book_by, law_all_lots_ok hn, e, byLots]
/-! ### the lambdas -/
theorem says_dual {n : Nat} {ls : List Lot} (h : BookOk n ls) (hn : n ≤ 6) : Says 1 [bookD n ls] n fun x => !car ls (rest n x) := fun x _ => by
  refine ⟨m_lam1, rfl, ?_⟩
  simp [m_lam1, b_lam1, law_others_ok (by omega : n ≤ 64), law_carries_ok (by omega : n ≤ 64) h]
theorem says_meet {n : Nat} {ls ks : List Lot} (h : BookOk n ls) (h' : BookOk n ks) (hn : n ≤ 6) : Says 2 [bookD n ls, bookD n ks] n fun x => car ls x && car ks x := fun x _ => by
  refine ⟨m_lam2, rfl, ?_⟩
  cases z : car ls x <;> simp [m_lam2, b_lam2, law_carries_ok (by omega : n ≤ 64) h, law_carries_ok (by omega : n ≤ 64) h', z]
theorem says_join {n : Nat} {ls ks : List Lot} (h : BookOk n ls) (h' : BookOk n ks) (hn : n ≤ 6) : Says 3 [bookD n ls, bookD n ks] n fun x => car ls x || car ks x := fun x _ => by
  refine ⟨m_lam3, rfl, ?_⟩
  cases z : car ls x <;> simp [m_lam3, b_lam3, law_carries_ok (by omega : n ≤ 64) h, law_carries_ok (by omega : n ≤ 64) h', z]
theorem ints_of {α : Type} {l : List α} {f : α → Int} : intsD (l.map fun x => D.int (f x)) = some (l.map f) := by
  induction l with
  | nil => rfl
  | cons a l ih => simp only [List.map_cons, intsD, ih]; rfl
theorem law_weight_ok {n : Nat} {ws : List Int} {x : Lot} (hw : ws.length = n) (hx : LotOk n x) (hn : n ≤ 64) : m_law_weight [.dat (.tup (ws.map .int)), .dat (lotD x)] = .ok (.dat (.int (wsum ws x))) [.dat (.tup (ws.map .int)), .dat (lotD x)] := by
  have e : lcR [2] (nameT 2) yesT (op2S ixA (getS 0) (getS 2)) (x.map D.int) [.dat (.tup (ws.map .int)), .dat (lotD x), .un] = .ok (.own (.lst (x.map fun m => D.int (ws.getD m.toNat 0)))) [.dat (.tup (ws.map .int)), .dat (lotD x), .un] := by
    refine (lcR_all (vs := [2]) (L := x) (it := .int) (y := fun m => D.int (ws.getD m.toNat 0)) (by rfl) (lot_lim hx hn) fun m hm =>
      ⟨[.dat (.tup (ws.map .int)), .dat (lotD x), .dat (.int m)], [.dat (.tup (ws.map .int)), .dat (lotD x), .dat (.int m)], [.dat (.tup (ws.map .int)), .dat (lotD x), .dat (.int m)], by simp, by simp, ?_, by simp⟩).trans (by simp)
    have hm := hx.lt m hm
    have hl : m.toNat < ws.length := by omega
    have g : atI (ws.map D.int) m = some (.int (ws.getD m.toNat 0)) := by
      rw [atI_ok hm.1 (by rw [List.length_map]; exact hl)]; simp [hl]
    simp [g]
  simp [m_law_weight, b_law_weight, e, ints_of, wsum]
theorem says_weighed {n : Nat} {ws : List Int} {q : Int} (hw : ws.length = n) (hn : n ≤ 6) : Says 0 [.int q, .tup (ws.map .int)] n fun x => decide (q ≤ wsum ws x) := fun x hx => by
  refine ⟨m_lam0, rfl, ?_⟩
  simp [m_lam0, b_lam0, law_weight_ok hw hx (by omega : n ≤ 64)]
theorem law_dual_ok {n : Nat} {ls : List Lot} (h : BookOk n ls) (hn : n ≤ 6) : ∃ ks, Bk n ks ∧ (∀ x, LotOk n x → car ks x = !car ls (rest n x)) ∧ m_law_dual [.dat (bookD n ls)] = .ok (.dat (bookD n ks)) [.dat (bookD n ls)] := by
  obtain ⟨ks, k1, k2, e⟩ := book_by_ok (says_dual h hn) hn (mono_dual ls)
  exact ⟨ks, k1, k2, by simp [m_law_dual, b_law_dual, e]⟩
theorem law_meet_ok {n : Nat} {ls ks : List Lot} (h : BookOk n ls) (h' : BookOk n ks) (hn : n ≤ 6) : ∃ ms, Bk n ms ∧ (∀ x, LotOk n x → car ms x = (car ls x && car ks x)) ∧ m_law_meet [.dat (bookD n ls), .dat (bookD n ks)] = .ok (.dat (bookD n ms)) [.dat (bookD n ls), .dat (bookD n ks)] := by
  obtain ⟨ms, k1, k2, e⟩ := book_by_ok (says_meet h h' hn) hn ((mono_car ls).and (mono_car ks))
  exact ⟨ms, k1, k2, by simp [m_law_meet, b_law_meet, e]⟩
theorem law_join_ok {n : Nat} {ls ks : List Lot} (h : BookOk n ls) (h' : BookOk n ks) (hn : n ≤ 6) : ∃ ms, Bk n ms ∧ (∀ x, LotOk n x → car ms x = (car ls x || car ks x)) ∧ m_law_join [.dat (bookD n ls), .dat (bookD n ks)] = .ok (.dat (bookD n ms)) [.dat (bookD n ls), .dat (bookD n ks)] := by
  obtain ⟨ms, k1, k2, e⟩ := book_by_ok (says_join h h' hn) hn ((mono_car ls).or (mono_car ks))
  exact ⟨ms, k1, k2, by simp [m_law_join, b_law_join, e]⟩
theorem law_weighed_ok {n : Nat} {ws : List Int} {q : Int} (hw : ws.length = n) (h0 : ∀ w ∈ ws, 0 ≤ w) (hn : n ≤ 6) : ∃ ms, Bk n ms ∧ (∀ x, LotOk n x → car ms x = decide (q ≤ wsum ws x)) ∧ m_law_weighed_book [.dat (.tup (ws.map .int)), .dat (.int q)] = .ok (.dat (bookD n ms)) [.dat (.tup (ws.map .int)), .dat (.int q)] := by
  obtain ⟨ms, k1, k2, e⟩ := book_by_ok (says_weighed (q := q) hw hn) hn (mono_weighed h0)
  exact ⟨ms, k1, k2, by simp [m_law_weighed_book, b_law_weighed_book, hw, e]⟩
/-! ### drawn weights -/
def WgtP (K : Int) (n : Nat) (t : Int) (A : SV) (items acc : List D) (ρ : Env) : Prop := ∃ (done todo ws : List Int) (d : D), done ++ todo = mem n ∧ items = todo.map D.int ∧ acc = ws.map D.int ∧ ws.length = done.length ∧ (∀ w ∈ ws, 0 ≤ w ∧ w ≤ t) ∧ IsPen (K + (done.length : Int)) d ∧ ρ = [.own d, .dat (.int (n : Nat)), .dat (.int t), A, .un]
theorem weights_lc {K t : Int} {d : D} {n : Nat} {A : SV} (h : IsPen K d) (hK : K ≤ 900000) (hn : n ≤ 6) (h0 : 0 ≤ t) (h1 : t ≤ 9) (hA : A = .un) : ∃ (ws : List Int) (d' : D), ws.length = n ∧ (∀ w ∈ ws, 0 ≤ w ∧ w ≤ t) ∧ IsPen (K + (n : Int)) d' ∧
    lcR [4] (nameT 4) yesT (fnS m_law_draw (consS (getS 0) (consS (op2S addD (getS 2) (constS (.int 1))) nilS))) (rangeD 0 n) [.own d, .dat (.int (n : Nat)), .dat (.int t), A, .un] = .ok (.own (.lst (ws.map D.int))) [.own d', .dat (.int (n : Nat)), .dat (.int t), A, .un] := by
  have hL : LIM = 1000000 := rfl
  obtain ⟨out, ρ', e, done, todo, ws, d', p1, p2, p3, p4, p5, p6, p7⟩ := lcL_ind (vs := [4]) (ft := nameT 4) (tt := yesT) (fe := fnS m_law_draw (consS (getS 0) (consS (op2S addD (getS 2) (constS (.int 1))) nilS))) (WgtP K n t A) (by
    rintro x xs acc ρ ⟨done, todo, ws, d, p1, p2, p3, p4, p5, p6, rfl⟩
    cases todo with
    | nil => cases p2
    | cons m todo =>
      rw [List.map_cons] at p2
      cases p2
      have hl : done.length + (todo.length + 1) = n := by
        have := congrArg List.length p1
        rwa [List.length_append, List.length_cons, mem_len] at this
      obtain ⟨r, d', e, r0, r1, q⟩ := draw_ok (m := t + 1) p6 (by omega) (by omega) (by omega)
      refine ⟨[.own d, .dat (.int (n : Nat)), .dat (.int t), A, .dat (.int m)], true, [.own d, .dat (.int (n : Nat)), .dat (.int t), A, .dat (.int m)], by simp, by simp, fun _ => ⟨.int r, [.own d', .dat (.int (n : Nat)), .dat (.int t), A, .dat (.int m)], by subst hA; simp [e], ?_, done ++ [m], todo, ws ++ [r], d', by rw [← p1]; simp, rfl, ?_, by simp [p4], fun w hw => ?_, q.mono (by simp; omega), by simp⟩, fun z => by cases z⟩
      · rw [p3, List.length_map]; omega
      · rw [p3, List.map_append]; rfl
      · rcases List.mem_append.mp hw with hw | hw
        · exact p5 w hw
        · rw [List.mem_singleton.mp hw]; omega) ((mem n).map D.int) [] [.own d, .dat (.int (n : Nat)), .dat (.int t), A, .un] ⟨[], mem n, [], d, rfl, rfl, rfl, rfl, fun w hw => (by cases hw), by simpa using h, rfl⟩
  have : todo = [] := by cases todo with
    | nil => rfl
    | cons _ _ => cases p2
  subst this
  rw [List.append_nil] at p1
  subst p1
  subst p3
  subst p7
  rw [mem_len] at p4 p6
  refine ⟨ws, d', p4, p5, p6, ?_⟩
  subst hA
  unfold lcR
  rw [if_pos (show clear [4] [SV.own d, .dat (.int (n : Nat)), .dat (.int t), .un, .un] = true from rfl), show rangeD 0 n = (mem n).map D.int by rw [← rangeD_nat]; simp]
  have : forget [4] [SV.own d, .dat (.int (n : Nat)), .dat (.int t), .un, .un] = [.own d, .dat (.int (n : Nat)), .dat (.int t), .un, .un] := rfl
  rw [this, e]
  rfl
theorem sum_le {t : Int} : ∀ {ws : List Int}, (∀ w ∈ ws, 0 ≤ w ∧ w ≤ t) → 0 ≤ ws.sum ∧ ws.sum ≤ ws.length * t
  | [], _ => by simp
  | w :: ws, h => by
    have := h w List.mem_cons_self
    have := sum_le (ws := ws) fun v hv => h v (List.mem_cons_of_mem _ hv)
    have e : ((1 : Nat) : Int) * t = t := by simp
    rw [List.sum_cons, List.length_cons, Int.natCast_add, Int.add_mul, e]
    constructor <;> omega
theorem drawn_weights_ok {K : Int} {d : D} {n : Nat} (h : IsPen K d) (hK : K ≤ 800000) (hn : n ≤ 6) : ∃ (ws : List Int) (q : Int) (d' : D), ws.length = n ∧ (∀ w ∈ ws, 0 ≤ w) ∧ m_law_drawn_weights [.own d, .dat (.int (n : Nat))] = .ok (.dat (.tup [.tup (ws.map .int), .int q])) [.own d', .dat (.int (n : Nat))] ∧ IsPen (K + 20) d' := by
  obtain ⟨i, d1, hi, e1, p1⟩ := pick_ok (l := [.int 1, .int 2, .int 4, .int 9]) h (by omega) (by decide) (by decide)
  obtain ⟨t, et, t0, t1⟩ : ∃ t : Int, [D.int 1, .int 2, .int 4, .int 9][i] = .int t ∧ 0 ≤ t ∧ t ≤ 9 := by
    match i, hi with
    | 0, _ => exact ⟨1, rfl, by decide, by decide⟩
    | 1, _ => exact ⟨2, rfl, by decide, by decide⟩
    | 2, _ => exact ⟨4, rfl, by decide, by decide⟩
    | 3, _ => exact ⟨9, rfl, by decide, by decide⟩
  rw [et] at e1
  obtain ⟨ws, d2, w1, w2, p2, e2⟩ := weights_lc (A := .un) p1 (by omega) hn t0 t1 rfl
  have sl := sum_le w2
  have sb : ws.sum ≤ 54 := by
    have : (ws.length : Int) * t ≤ 6 * 9 := Int.mul_le_mul (by omega) t1 t0 (by omega)
    omega
  obtain ⟨q, d3, e3, q0, q1, p3⟩ := draw_ok (m := ws.sum + 2) p2 (by omega) (by omega) (by omega)
  have si : intsD (ws.map D.int) = some ws := by
    have := ints_of (l := ws) (f := fun x => x)
    rwa [List.map_id'] at this
  refine ⟨ws, q, d3, w1, fun w hw => (w2 w hw).1, ?_, p3.mono (by omega)⟩
  simp [m_law_drawn_weights, b_law_drawn_weights, e1, rg1_ok (rg_nat (by omega : n ≤ 1000000)), e2, si, e3]
/-! ### a drawn book -/
theorem drawn_book_ok {K : Int} {d : D} {n : Nat} (h : IsPen K d) (hK : K ≤ 700000) (h1 : 1 ≤ n) (hn : n ≤ 6) : ∃ ls d', Bk n ls ∧ m_law_drawn_book [.own d, .dat (.int (n : Nat))] = .ok (.dat (bookD n ls)) [.own d', .dat (.int (n : Nat))] ∧ IsPen (K + 300) d' := by
  obtain ⟨w, d1, e1, w0, w1, p1⟩ := draw_ok (m := 9) h (by omega) (by decide) (by decide)
  by_cases c1 : w < 3
  · obtain ⟨ws, q, d2, l1, l0, e2, p2⟩ := drawn_weights_ok (n := n) p1 (by omega) hn
    obtain ⟨ms, m1, _, e3⟩ := law_weighed_ok (q := q) l1 l0 hn
    exact ⟨ms, d2, m1, by simp [m_law_drawn_book, b_law_drawn_book, e1, c1, e2, e3], p2.mono (by omega)⟩
  by_cases c2 : w < 6
  · obtain ⟨ms, d2, m1, e2, p2⟩ := any_book_ok p1 (by omega) h1 hn
    exact ⟨ms, d2, m1, by simp [m_law_drawn_book, b_law_drawn_book, e1, c1, c2, e2], p2.mono (by omega)⟩
  by_cases c3 : w = 6
  · have rg : rangeD 0 n = (mem n).map D.int := by rw [← rangeD_nat]; simp
    have fit : rgFit (0, (n : Int)) = true := by
      unfold rgFit
      refine decide_eq_true ⟨by simp, ?_, ?_⟩ <;> simp <;> omega
    obtain ⟨i, d2, hi, e2, p2⟩ := pick_ok (l := [.tup [.int (n : Nat), .tup []], .tup [.int (n : Nat), .tup [.tup []]], .tup [.int (n : Nat), .tup [.tup ((mem n).map .int)]]]) p1 (by omega) (by simp) (by simp)
    obtain ⟨ms, em, m1⟩ : ∃ ms, ([.tup [.int (n : Nat), .tup []], .tup [.int (n : Nat), .tup [.tup []]], .tup [.int (n : Nat), .tup [.tup ((mem n).map .int)]]] : List D)[i] = bookD n ms ∧ Bk n ms := by
      match i, hi with
      | 0, _ => exact ⟨[], rfl, bk_none⟩
      | 1, _ => exact ⟨[[]], rfl, bk_one ⟨List.Pairwise.nil, fun m hm => by cases hm⟩⟩
      | 2, _ => exact ⟨[mem n], rfl, bk_one (lotOk_mem n)⟩
    rw [em] at e2
    refine ⟨ms, d2, m1, ?_, p2.mono (by omega)⟩
    simp [m_law_drawn_book, b_law_drawn_book, e1, c1, c2, c3, fit, rg, e2]
  · obtain ⟨ls, d2, b1, e2, p2⟩ := any_book_ok p1 (by omega) h1 hn
    obtain ⟨ks, d3, b2, e3, p3⟩ := any_book_ok p2 (by omega) h1 hn
    by_cases c4 : w = 7
    · obtain ⟨ms, m1, _, e4⟩ := law_meet_ok (b1.book hn) (b2.book hn) hn
      exact ⟨ms, d3, m1, by simp [m_law_drawn_book, b_law_drawn_book, e1, c1, c2, c3, e2, e3, c4, e4], p3.mono (by omega)⟩
    · obtain ⟨ms, m1, _, e4⟩ := law_join_ok (b1.book hn) (b2.book hn) hn
      exact ⟨ms, d3, m1, by simp [m_law_drawn_book, b_law_drawn_book, e1, c1, c2, c3, e2, e3, c4, e4], p3.mono (by omega)⟩
end k03
end DL
namespace DL
open PySem L2
namespace k03
theorem pen_ok (ns : List Int) : ∃ d, m_law_pen [.dat (.rol (ns.map .int))] = .ok (.own d) [.dat (.rol (ns.map .int))] ∧ IsPen 0 d := by
  have step : ∀ d ds ρ, (∃ (td : List Int) (f : Int) (V : SV), (d :: ds) = td.map D.int ∧ 0 ≤ f ∧ f < 2147483648 ∧ ρ = [.dat (.rol (ns.map .int)), .dat (.int f), V]) →
      ∃ ρ1 ρ2, nameT 2 d (forget [2] ρ) = some ρ1 ∧ asgS 1 (op2S modD (callS intL (consS (op2S addD (op2S mulD (getS 1) (constS (.int 47))) (getS 2)) nilS)) (constS (.int 1000000007))) ρ1 = .ok .nx ρ2 ∧ ∃ (td : List Int) (f : Int) (V : SV), ds = td.map D.int ∧ 0 ≤ f ∧ f < 2147483648 ∧ ρ2 = [.dat (.rol (ns.map .int)), .dat (.int f), V] := by
    rintro d ds ρ ⟨td, f, V, h1, f0, f1, rfl⟩
    cases td with
    | nil => cases h1
    | cons c td =>
      rw [List.map_cons] at h1
      cases h1
      have F1 : Fit f := Fit.of (by omega) (by omega)
      have L1 : Fit 47 := Fit.of (by decide) (by decide)
      refine ⟨_, [.dat (.rol (ns.map .int)), .dat (.int ((f * 47 + c) % 1000000007)), .dat (.int c)], rfl, ?_, td, (f * 47 + c) % 1000000007, _, rfl, Int.emod_nonneg _ (by decide), ?_, rfl⟩
      · simp [-s_mulI, mulF F1 L1]
      · have := Int.emod_lt_of_pos (f * 47 + c) (by decide : (0 : Int) < 1000000007)
        omega
  obtain ⟨ρ', e, td, f, V, h1, f0, f1, h3⟩ := forL_ind (fun rest ρ => ∃ (td : List Int) (f : Int) (V : SV), rest = td.map D.int ∧ 0 ≤ f ∧ f < 2147483648 ∧ ρ = [.dat (.rol (ns.map .int)), .dat (.int f), V]) step (ns.map .int) [.dat (.rol (ns.map .int)), .dat (.int 0), .un] ⟨ns, 0, .un, rfl, by decide, by decide, rfl⟩
  rw [h3] at e
  refine ⟨penD (ns.map .int) 0 0 0 f, ?_, ns, 0, 0, 0, f, rfl, by decide, by decide, by decide, by decide, f0, f1⟩
  simp [m_law_pen, b_law_pen, e, penD, penKs]
theorem is_bn (a : Bool) : isD (.bl a) .non = some (.dat (.bl false)) := by cases a <;> rfl
theorem is_bb (a b : Bool) : isD (.bl a) (.bl b) = some (.dat (.bl (decide (a = b)))) := by cases a <;> cases b <;> rfl
theorem law_is_bl {k : Nat} (a b : Bool) : m_law_is (k + 1) [.dat (.bl a), .dat (.bl b)] = .ok (.dat (.bl (decide (a = b)))) [.dat (.bl a), .dat (.bl b)] := by
  cases a <;> cases b <;> simp [m_law_is, b_law_is, is_bn, is_bb]
theorem law_is_int {k : Nat} (a : Int) : m_law_is (k + 1) [.dat (.int a), .dat (.int a)] = .ok (.dat (.bl true)) [.dat (.int a), .dat (.int a)] := by
  have i1 : isD (.int a) .non = some (.dat (.bl false)) := rfl
  have i2 : ∀ b, isD (.int a) (.bl b) = some (.dat (.bl false)) := fun b => by cases b <;> rfl
  simp [m_law_is, b_law_is, i1, i2]
theorem law_is_tup {k : Nat} {l : List D} (hl : l.length ≤ 1000) (h : ∀ d ∈ l, m_law_is (k + 1) [.dat d, .dat d] = .ok (.dat (.bl true)) [.dat d, .dat d]) : m_law_is (k + 2) [.dat (.tup l), .dat (.tup l)] = .ok (.dat (.bl true)) [.dat (.tup l), .dat (.tup l)] := by
  have hL : LIM = 1000000 := rfl
  have e := lcR_flt (vs := [2]) (ft := nameT 2) (tt := notT (truS (fnS (m_law_is (k + 1)) (consS (op2S ixA (getS 0) (getS 2)) (consS (op2S ixA (getS 1) (getS 2)) nilS))))) (fe := getS 2) (L := List.range l.length) (it := fun (i : Nat) => .int (i : Int)) (fun _ => false) (fun (i : Nat) => D.int (i : Int)) (ρ := [.dat (.tup l), .dat (.tup l), .un]) (by rfl) (by rw [List.length_range]; omega) fun i hi => by
    have hi := List.mem_range.mp hi
    have g : atI l (i : Int) = some l[i] := at_nat (List.getElem?_eq_getElem hi)
    have r := h l[i] (List.getElem_mem hi)
    exact ⟨[.dat (.tup l), .dat (.tup l), .dat (.int (i : Nat))], [.dat (.tup l), .dat (.tup l), .dat (.int (i : Nat))], by simp, by simp [g, r], (fun z => by cases z), fun _ => by simp⟩
  have fz : ((List.range l.length).filter fun _ => false) = [] := List.filter_eq_nil_iff.mpr fun _ _ z => by cases z
  rw [← range_nat, fz, List.map_nil] at e
  have n0 := ne_int (l.length : Nat) (l.length : Nat)
  have q := eq_intsN []
  rw [List.map_nil] at q
  rw [m_law_is]
  simp [b_law_is, n0, rg1_ok (rg_nat (by omega : l.length ≤ 1000000)), e, q]
theorem law_is_lots {k : Nat} {ls : List Lot} (hl : ls.length ≤ 1000) (h : ∀ x ∈ ls, x.length ≤ 1000) : m_law_is (k + 3) [.dat (.tup (ls.map lotD)), .dat (.tup (ls.map lotD))] = .ok (.dat (.bl true)) [.dat (.tup (ls.map lotD)), .dat (.tup (ls.map lotD))] :=
  law_is_tup (by rwa [List.length_map]) fun d hd => by
    obtain ⟨x, hx, rfl⟩ := List.mem_map.mp hd
    exact law_is_tup (by rw [List.length_map]; exact h x hx) fun e he => by
      obtain ⟨m, _, rfl⟩ := List.mem_map.mp he
      exact law_is_int m
/-- a book is itself -/
theorem law_is_book {k n : Nat} {ls : List Lot} (h : BookOk n ls) (hn : n ≤ 64) : m_law_is (k + 4) [.dat (bookD n ls), .dat (bookD n ls)] = .ok (.dat (.bl true)) [.dat (bookD n ls), .dat (bookD n ls)] :=
  law_is_tup (by simp) fun d hd => by
    simp only [List.mem_cons, List.not_mem_nil, or_false] at hd
    rcases hd with rfl | rfl
    · exact law_is_int _
    · exact law_is_lots (by have := h.few; omega) fun x hx => by have := (h.ok x hx).len; omega
end k03
end DL
namespace DL
open PySem L2
namespace k03
/-! ## more of the program's defs -/
theorem need_lot_ok {n : Nat} {x : Lot} (h : LotOk n x) (hn : n ≤ 64) : m_need_lot [.dat (.int (n : Nat)), .dat (lotD x)] = .ok (.dat (lotD x)) [.dat (.int (n : Nat)), .dat (lotD x)] := by
  simp [m_need_lot, b_need_lot, is_lot_ok h hn]
theorem rest_in_ok {n : Nat} (hn : n ≤ 64) (x : Lot) : m_rest_in [.dat (.int (n : Nat)), .dat (lotD x)] = .ok (.dat (lotD (rest n x))) [.dat (.int (n : Nat)), .dat (lotD x)] := by
  have e := lcR_flt (vs := [2]) (ft := nameT 2) (tt := testS (op2S notInS (getS 2) (getS 1))) (fe := getS 2) (L := mem n) (it := .int) (fun m => !decide (m ∈ x)) .int (ρ := [.dat (.int (n : Nat)), .dat (lotD x), .un]) (by rfl) (by rw [mem_len]; exact le_lim hn) fun m _ =>
    ⟨[.dat (.int (n : Nat)), .dat (lotD x), .dat (.int m)], [.dat (.int (n : Nat)), .dat (lotD x), .dat (.int m)], by simp, by simp [nin_lot], fun _ => ⟨[.dat (.int (n : Nat)), .dat (lotD x), .dat (.int m)], by simp, by simp⟩, fun _ => by simp⟩
  rw [← rangeD_nat] at e
  simp [m_rest_in, b_rest_in, rg1_ok (rg_nat (by omega : n ≤ 1000000))]
  rw [show rangeD 0 n = rangeD 0 ((n : Int).toNat) by simp, e]
  simp [rest]
theorem rest_of_ok {n : Nat} {x : Lot} (h : LotOk n x) (h1 : 1 ≤ n) (h2 : n ≤ 20) : m_rest_of [.dat (.int (n : Nat)), .dat (lotD x)] = .ok (.dat (lotD (rest n x))) [.dat (.int (n : Nat)), .dat (lotD x)] := by
  simp [m_rest_of, b_rest_of, need_many_ok h1 h2, need_lot_ok h (by omega : n ≤ 64), rest_in_ok (by omega : n ≤ 64)]
theorem carries_ok {n : Nat} {L : List Lot} {X : SV} {x : Lot} (hn : n ≤ 6) (h : Bk n L) (hX : IsB X n L) (hx : LotOk n x) : m_carries [X, .dat (lotD x)] = .ok (.dat (.bl (car L x))) [X, .dat (lotD x)] := by
  have c := carries_in_ok hn h hX x
  rcases hX with rfl | rfl <;> simp [m_carries, b_carries, need_lot_ok hx (by omega : n ≤ 64), c]
theorem failing_ok {n : Nat} {L M : List Lot} {X : SV} (hn : n ≤ 6) (h : Bk n L) (hX : IsB X n L) (hM : Bk n M) (e : ∀ x, LotOk n x → car M x = !car L (rest n x)) : m_failing [X] = .ok (.dat (.tup ((sortLots (M.map (rest n))).map lotD))) [X] := by
  obtain ⟨found, f1, f2, f3, f4, f5⟩ := meeting_ok hn h.ok
  have P : found.Perm M := anti_mem f1 hM.ok f3 hM.anti fun x hx => by rw [f4, hit_rest h.ok, e x hx]
  have s := sort_perm (P.map (rest n))
  have l : (found.map (rest n)).length ≤ LIM := by rw [List.length_map]; exact le_lim f2
  have e1 := lcR_all (vs := [1]) (ft := nameT 1) (tt := yesT) (fe := fnS m_rest_in (consS (fldS ["Book"] "many" (getS 0)) (consS (getS 1) nilS))) (L := found) (it := lotD) (y := fun x => lotD (rest n x)) (ρ := [X, .un]) (by rcases hX with rfl | rfl <;> rfl) (le_lim f2) fun x _ =>
    ⟨[X, .dat (lotD x)], [X, .dat (lotD x)], [X, .dat (lotD x)], by simp, by simp, by rcases hX with rfl | rfl <;> simp [rest_in_ok (by omega : n ≤ 64)], by simp⟩
  have em : (found.map fun x => lotD (rest n x)) = (found.map (rest n)).map lotD := by rw [List.map_map]; rfl
  rw [em] at e1
  rw [← s]
  rcases hX with rfl | rfl <;> simp [-s_sortL, -List.map_map, m_failing, b_failing, f5, e1, sortL_lots l]
theorem law_plain_ok {n : Nat} {L : List Lot} {X : SV} (hX : IsB X n L) : m_law_plain [X] = .ok (.dat (bookD n L)) [X] := by
  rcases hX with rfl | rfl <;> simp [m_law_plain, b_law_plain]
theorem book_ne_ok {n : Nat} {L M : List Lot} {X Y : SV} (hX : IsB X n L) (hY : IsB Y n M) : m_Book_ne [X, Y] = .ok (.dat (.bl (!decide (L = M)))) [X, Y] := by
  have e := book_eq_ok hX hY
  rcases hX with rfl | rfl <;> rcases hY with rfl | rfl <;> simp [m_Book_ne, b_Book_ne, ownEq, e]
end k03
end DL
namespace DL
open PySem L2
namespace k03
/-! ## the law -/
def t1 : Env → R Out := asgS 3 (op2S addD (constS (.int 1)) (fnS m_law_draw (consS (getS 1) (consS (constS (.int 6)) nilS))))
def t2 : Env → R Out := asgS 4 (fnS m_law_drawn_book (consS (getS 1) (consS (getS 3) nilS)))
def t3 : Env → R Out := asgS 5 (fnS m_law_made (consS (getS 4) nilS))
def t4 : Env → R Out := asgS 6 (fnS m_dual (consS (getS 5) nilS))
def t5 : Env → R Out := iteS (orT (notT (truS (fnS (m_law_is 4) (consS (fnS m_law_plain (consS (getS 6) nilS)) (consS (fnS m_law_dual (consS (getS 4) nilS)) nilS))))) (orT (testS (cmpO ownNe neD (fnS m_dual (consS (getS 6) nilS)) (getS 5))) (notT (truS (fnS (m_law_is 4) (consS (fnS m_law_plain (consS (getS 5) nilS)) (consS (getS 4) nilS))))))) (retS (constS (.bl false))) nextS
def t6 : Env → R Out := iteS (orT (testS (op2S neD (callS sortL (consS (lcS [7] (inV_ (fldS ["Book"] "least" (getS 6)) itV) (nameT 7) yesT (fnS m_rest_of (consS (getS 3) (consS (getS 7) nilS)))) nilS)) (callS listL (consS (fnS m_failing (consS (getS 5) nilS)) nilS)))) (testS (op2S neD (op2S addD (fnS m_how_many (consS (getS 5) nilS)) (fnS m_how_many (consS (getS 6) nilS))) (callS lenD (consS (fnS m_law_all_lots (consS (getS 3) nilS)) nilS))))) (retS (constS (.bl false))) nextS
def b7 : Env → R Out := iteS (notT (truS (fnS (m_law_is 4) (consS (fnS m_carries (consS (getS 6) (consS (getS 7) nilS))) (consS (notS (fnS m_carries (consS (getS 5) (consS (fnS m_rest_of (consS (getS 3) (consS (getS 7) nilS))) nilS)))) nilS))))) (retS (constS (.bl false))) nextS
def t7 : Env → R Out := forS [] (inV_ (sliceS (fnS m_law_all_lots (consS (getS 3) nilS)) noP (someP (constS (.int 20)))) itV) (nameT 7) b7
def b8 : Env → R Out := iteS (testS (op2S neD (lcS [8] (inV_ (op2S ixA (getS 4) (constS (.int 1))) itV) (nameT 8) (testS (op2S eqD (overS 8 (lcR [9] (nameT 9) (testS (op2S inS (getS 9) (getS 7))) (getS 9))) (lstS nilS))) (getS 8)) (lstS nilS))) (retS (constS (.bl false))) nextS
def t8 : Env → R Out := forS [8, 9] (inV_ (fldS ["Book"] "least" (getS 6)) itV) (nameT 7) b8
def turn : Env → R Out := seqS t1 (seqS t2 (seqS t3 (seqS t4 (seqS t5 (seqS t6 (seqS t7 t8))))))
/-- a slot that a comprehension may use -/
def Free (Z : SV) : Prop := Z = .un ∨ ∃ d, Z = .dat d
theorem loop7 {n : Nat} {L M : List Lot} {A P V B : SV} {pen : D} (n1 : 1 ≤ n) (n6 : n ≤ 6) (hL : Bk n L) (hM : Bk n M) (e : ∀ x, car M x = !car L (rest n x)) : ∀ (xs : List Lot) (Z : SV), (∀ x ∈ xs, LotOk n x) → Free Z → ∃ Z', Free Z' ∧
    forL [] (nameT 7) b7 (xs.map lotD) [A, P, V, .dat (.int (n : Nat)), B, .own (bookI n L), .own (bookI n M), Z, .un, .un] = .ok .nx [A, P, V, .dat (.int (n : Nat)), B, .own (bookI n L), .own (bookI n M), Z', .un, .un]
  | [], Z, _, hZ => ⟨Z, hZ, rfl⟩
  | x :: xs, Z, hx, hZ => by
    have lx := hx x List.mem_cons_self
    have c1 := carries_ok n6 hM (X := .own (bookI n M)) (.inl rfl) lx
    have c2 := carries_ok n6 hL (X := .own (bookI n L)) (.inl rfl) (lotOk_rest n x)
    have r := rest_of_ok lx n1 (by omega : n ≤ 20)
    have s : b7 [A, P, V, .dat (.int (n : Nat)), B, .own (bookI n L), .own (bookI n M), .dat (lotD x), .un, .un] = .ok .nx [A, P, V, .dat (.int (n : Nat)), B, .own (bookI n L), .own (bookI n M), .dat (lotD x), .un, .un] := by
      simp [b7, c1, c2, r, law_is_bl, e x]
    obtain ⟨Z', z1, z2⟩ := loop7 (A := A) (P := P) (V := V) (B := B) (pen := pen) n1 n6 hL hM e xs (.dat (lotD x)) (fun y hy => hx y (List.mem_cons_of_mem _ hy)) (.inr ⟨_, rfl⟩)
    refine ⟨Z', z1, ?_⟩
    rw [List.map_cons, forL]
    simp only [s_forget0, s_nameT, List.set_cons_succ, List.set_cons_zero]
    rw [s]
    exact z2
theorem loop8 {n : Nat} {L M : List Lot} {A P V : SV} (n6 : n ≤ 6) (hL : Bk n L) (hM : Bk n M) (e : ∀ x, car M x = !car L (rest n x)) : ∀ (xs : List Lot) (Z X Y : SV), (∀ x ∈ xs, x ∈ M) → ∃ Z',
    forL [8, 9] (nameT 7) b8 (xs.map lotD) [A, P, V, .dat (.int (n : Nat)), .dat (bookD n L), .own (bookI n L), .own (bookI n M), Z, X, Y] = .ok .nx [A, P, V, .dat (.int (n : Nat)), .dat (bookD n L), .own (bookI n L), .own (bookI n M), Z', .un, .un] ∧ (Free Z → Free Z')
  | [], Z, X, Y, _ => ⟨Z, rfl, id⟩
  | x :: xs, Z, X, Y, hx => by
    have mx := hx x List.mem_cons_self
    have h1 : hit L x = true := by
      rw [hit_rest hL.ok, ← e x]; exact car_iff.mpr ⟨x, mx, within_refl x⟩
    have inner : ∀ o, LotOk n o → lcR [9] (nameT 9) (testS (op2S inS (getS 9) (getS 7))) (getS 9) (o.map D.int) [A, P, V, .dat (.int (n : Nat)), .dat (bookD n L), .own (bookI n L), .own (bookI n M), .dat (lotD x), .dat (lotD o), .un] =
        .ok (.own (.lst ((o.filter fun m => decide (m ∈ x)).map .int))) [A, P, V, .dat (.int (n : Nat)), .dat (bookD n L), .own (bookI n L), .own (bookI n M), .dat (lotD x), .dat (lotD o), .un] := fun o ho => by
      refine (lcR_flt (vs := [9]) (L := o) (it := .int) (fun m => decide (m ∈ x)) .int (by rfl) (lot_lim ho (by omega)) fun m _ =>
        ⟨[A, P, V, .dat (.int (n : Nat)), .dat (bookD n L), .own (bookI n L), .own (bookI n M), .dat (lotD x), .dat (lotD o), .dat (.int m)], [A, P, V, .dat (.int (n : Nat)), .dat (bookD n L), .own (bookI n L), .own (bookI n M), .dat (lotD x), .dat (lotD o), .dat (.int m)], by simp, by simp [in_lot],
          fun _ => ⟨[A, P, V, .dat (.int (n : Nat)), .dat (bookD n L), .own (bookI n L), .own (bookI n M), .dat (lotD x), .dat (lotD o), .dat (.int m)], by simp, by simp⟩, fun _ => by simp⟩).trans (by simp)
    have outer : lcR [8] (nameT 8) (testS (op2S eqD (overS 8 (lcR [9] (nameT 9) (testS (op2S inS (getS 9) (getS 7))) (getS 9))) (lstS nilS))) (getS 8) (L.map lotD) [A, P, V, .dat (.int (n : Nat)), .dat (bookD n L), .own (bookI n L), .own (bookI n M), .dat (lotD x), .un, .un] =
        .ok (.own (.lst ((L.filter fun o => (o.filter fun m => decide (m ∈ x)).isEmpty).map lotD))) [A, P, V, .dat (.int (n : Nat)), .dat (bookD n L), .own (bookI n L), .own (bookI n M), .dat (lotD x), .un, .un] := by
      refine (lcR_flt (vs := [8]) (L := L) (it := lotD) (fun o => (o.filter fun m => decide (m ∈ x)).isEmpty) lotD (by rfl) (le_lim (hL.book n6).few) fun o ho =>
        ⟨[A, P, V, .dat (.int (n : Nat)), .dat (bookD n L), .own (bookI n L), .own (bookI n M), .dat (lotD x), .dat (lotD o), .un], [A, P, V, .dat (.int (n : Nat)), .dat (bookD n L), .own (bookI n L), .own (bookI n M), .dat (lotD x), .dat (lotD o), .un], by simp, by simp [inner o (hL.ok o ho), eq_intsN],
          fun _ => ⟨[A, P, V, .dat (.int (n : Nat)), .dat (bookD n L), .own (bookI n L), .own (bookI n M), .dat (lotD x), .dat (lotD o), .un], by simp, by simp⟩, fun _ => by simp⟩).trans (by simp)
    have none : (L.filter fun o => (o.filter fun m => decide (m ∈ x)).isEmpty) = [] := by
      rw [List.filter_eq_nil_iff]
      intro o ho z
      obtain ⟨m, q1, q2⟩ := hit_iff.mp h1 o ho
      rw [List.isEmpty_iff, List.filter_eq_nil_iff] at z
      exact z m q1 (decide_eq_true q2)
    rw [none] at outer
    have nn := ne_lotsN []
    rw [List.map_nil] at nn outer
    have s : b8 [A, P, V, .dat (.int (n : Nat)), .dat (bookD n L), .own (bookI n L), .own (bookI n M), .dat (lotD x), .un, .un] = .ok .nx [A, P, V, .dat (.int (n : Nat)), .dat (bookD n L), .own (bookI n L), .own (bookI n M), .dat (lotD x), .un, .un] := by
      simp [b8, outer, nn]
    obtain ⟨Z', z1, z2⟩ := loop8 (A := A) (P := P) (V := V) n6 hL hM e xs (.dat (lotD x)) .un .un fun y hy => hx y (List.mem_cons_of_mem _ hy)
    refine ⟨Z', ?_, fun _ => z2 (.inr ⟨_, rfl⟩)⟩
    rw [List.map_cons, forL]
    simp only [s_forgetC, s_forget0, s_nameT, List.set_cons_succ, List.set_cons_zero]
    rw [s]
    exact z1
theorem turn_ok {K : Int} {d : D} {A V Z : SV} (h : IsPen K d) (hK : K ≤ 600000) (hZ : Free Z) : ∃ d' S3 S4 S5 S6 Z', turn [A, .own d, V, .un, .un, .un, .un, Z, .un, .un] = .ok .nx [A, .own d', V, S3, S4, S5, S6, Z', .un, .un] ∧ IsPen (K + 400) d' ∧ Free Z' := by
  have hLIM : LIM = 1000000 := rfl
  obtain ⟨r, d1, e1, r0, r1, p1⟩ := draw_ok (m := 6) h (by omega) (by decide) (by decide)
  obtain ⟨n, en⟩ : ∃ n : Nat, 1 + r = (n : Int) := ⟨(1 + r).toNat, by omega⟩
  have n1 : 1 ≤ n := by omega
  have n6 : n ≤ 6 := by omega
  obtain ⟨ls, d2, b0, e2, p2⟩ := drawn_book_ok p1 (by omega) n1 n6
  obtain ⟨L, l1, l2, e3⟩ := law_made_ok n1 n6 (b0.book n6)
  have eL : L = ls := l1.ext b0 fun x _ => l2 x
  subst eL
  obtain ⟨M, m1, m2, e4⟩ := dual_ok (X := .own (bookI n L)) n1 n6 l1 (.inl rfl)
  obtain ⟨ks, k1, k2, e5⟩ := law_dual_ok (b0.book n6) n6
  have eM : ks = M := k1.ext m1 fun x hx => by rw [k2 x hx, m2]
  subst eM
  obtain ⟨N, q1, q2, e6⟩ := dual_ok (X := .own (bookI n ks)) n1 n6 m1 (.inl rfl)
  have eN : N = L := q1.ext l1 fun x hx => by rw [q2, m2, rest_rest hx, Bool.not_not]
  subst eN
  have s1 : t1 [A, .own d, V, .un, .un, .un, .un, Z, .un, .un] = .ok .nx [A, .own d1, V, .dat (.int (n : Nat)), .un, .un, .un, Z, .un, .un] := by simp [t1, e1, en]
  have s2 : t2 [A, .own d1, V, .dat (.int (n : Nat)), .un, .un, .un, Z, .un, .un] = .ok .nx [A, .own d2, V, .dat (.int (n : Nat)), .dat (bookD n N), .un, .un, Z, .un, .un] := by simp [t2, e2]
  have s3 : t3 [A, .own d2, V, .dat (.int (n : Nat)), .dat (bookD n N), .un, .un, Z, .un, .un] = .ok .nx [A, .own d2, V, .dat (.int (n : Nat)), .dat (bookD n N), .own (bookI n N), .un, Z, .un, .un] := by simp [t3, e3]
  have s4 : t4 [A, .own d2, V, .dat (.int (n : Nat)), .dat (bookD n N), .own (bookI n N), .un, Z, .un, .un] = .ok .nx [A, .own d2, V, .dat (.int (n : Nat)), .dat (bookD n N), .own (bookI n N), .own (bookI n ks), Z, .un, .un] := by simp [t4, e4]
  have a1 := law_plain_ok (X := .own (bookI n ks)) (.inl rfl)
  have a2 := law_plain_ok (X := .own (bookI n N)) (.inl rfl)
  have a3 := law_is_book (k := 0) (m1.book n6) (by omega)
  have a4 := law_is_book (k := 0) (l1.book n6) (by omega)
  have a5 := book_ne_ok (X := .dat (bookI n N)) (Y := .own (bookI n N)) (.inr rfl) (.inl rfl)
  rw [decide_eq_true rfl] at a5
  have s5 : t5 [A, .own d2, V, .dat (.int (n : Nat)), .dat (bookD n N), .own (bookI n N), .own (bookI n ks), Z, .un, .un] = .ok .nx [A, .own d2, V, .dat (.int (n : Nat)), .dat (bookD n N), .own (bookI n N), .own (bookI n ks), Z, .un, .un] := by
    simp only [Nat.zero_add] at a3 a4
    simp [t5, a1, a2, a3, a4, a5, e5, e6, ownNe]
  have kf := (m1.book n6).few
  have c1 := lcR_all (vs := [7]) (ft := nameT 7) (tt := yesT) (fe := fnS m_rest_of (consS (getS 3) (consS (getS 7) nilS))) (L := ks) (it := lotD) (y := fun x => lotD (rest n x)) (ρ := [A, .own d2, V, .dat (.int (n : Nat)), .dat (bookD n N), .own (bookI n N), .own (bookI n ks), Z, .un, .un]) (by rcases hZ with rfl | ⟨z, rfl⟩ <;> rfl) (le_lim kf) fun x hx =>
    ⟨[A, .own d2, V, .dat (.int (n : Nat)), .dat (bookD n N), .own (bookI n N), .own (bookI n ks), .dat (lotD x), .un, .un], [A, .own d2, V, .dat (.int (n : Nat)), .dat (bookD n N), .own (bookI n N), .own (bookI n ks), .dat (lotD x), .un, .un], [A, .own d2, V, .dat (.int (n : Nat)), .dat (bookD n N), .own (bookI n N), .own (bookI n ks), .dat (lotD x), .un, .un], by simp, by simp, by simp [rest_of_ok (m1.ok x hx) n1 (by omega : n ≤ 20)], by simp⟩
  have em : (ks.map fun x => lotD (rest n x)) = (ks.map (rest n)).map lotD := by rw [List.map_map]; rfl
  have c1 := c1.trans (show _ = R.ok (XV.own (.lst ((ks.map (rest n)).map lotD))) [A, .own d2, V, .dat (.int (n : Nat)), .dat (bookD n N), .own (bookI n N), .own (bookI n ks), Z, .un, .un] by rw [em]; simp)
  have c2 := failing_ok (X := .own (bookI n N)) n6 l1 (.inl rfl) m1 fun x _ => m2 x
  have lk : (ks.map (rest n)).length ≤ LIM := by rw [List.length_map]; exact le_lim kf
  have c3 := how_many_ok (X := .own (bookI n N)) n1 n6 l1 (.inl rfl)
  have c4 := how_many_ok (X := .own (bookI n ks)) n1 n6 m1 (.inl rfl)
  have c5 : count n (car N) + count n (car ks) = 2 ^ n := by
    have q : count n (car ks) = count n fun x => !car N x := by
      rw [← count_rest n (fun x => !car N x)]
      congr 1; funext x; exact m2 x
    rw [q, count_two fun x _ => by cases car N x <;> simp, count_all]
    intro x _
    cases car N x <;> simp
  have c6 := (encL (encT encI)).neD (by decide) (sortLots (ks.map (rest n))) (sortLots (ks.map (rest n)))
  have c6 : neD (.lst ((sortLots (ks.map (rest n))).map lotD)) (.lst ((sortLots (ks.map (rest n))).map lotD)) = some (.dat (.bl (!decide (sortLots (ks.map (rest n)) = sortLots (ks.map (rest n)))))) := c6
  rw [decide_eq_true rfl] at c6
  have c7 := ne_int ((count n (car N) : Nat) + (count n (car ks) : Nat) : Int) ((lots n).length : Nat)
  rw [decide_eq_true (by rw [lots_len]; omega)] at c7
  have s6 : t6 [A, .own d2, V, .dat (.int (n : Nat)), .dat (bookD n N), .own (bookI n N), .own (bookI n ks), Z, .un, .un] = .ok .nx [A, .own d2, V, .dat (.int (n : Nat)), .dat (bookD n N), .own (bookI n N), .own (bookI n ks), Z, .un, .un] := by
    simp [-s_sortL, -List.map_map, t6, c1, sortL_lots lk, c2, c6, c3, c4, law_all_lots_ok n6, c7]
  have lt : ∀ x ∈ (lots n).take 20, LotOk n x := fun x hx => mem_lots.mp (List.mem_of_mem_take hx)
  obtain ⟨Z1, z1, f7⟩ := loop7 (A := A) (P := .own d2) (V := V) (B := .dat (bookD n N)) (pen := d2) n1 n6 l1 m1 m2 ((lots n).take 20) Z lt hZ
  have ct : cutD ((lots n).map lotD) none (some 20) = ((lots n).take 20).map lotD := by
    rw [show (20 : Int) = ((20 : Nat) : Int) from rfl, cut_to, List.map_take]
  have s7 : t7 [A, .own d2, V, .dat (.int (n : Nat)), .dat (bookD n N), .own (bookI n N), .own (bookI n ks), Z, .un, .un] = .ok .nx [A, .own d2, V, .dat (.int (n : Nat)), .dat (bookD n N), .own (bookI n N), .own (bookI n ks), Z1, .un, .un] := by
    simp [-List.map_take, t7, law_all_lots_ok n6, ct, f7]
  obtain ⟨Z2, f8, z2⟩ := loop8 (A := A) (P := .own d2) (V := V) n6 l1 m1 m2 ks Z1 .un .un fun x hx => hx
  have s8 : t8 [A, .own d2, V, .dat (.int (n : Nat)), .dat (bookD n N), .own (bookI n N), .own (bookI n ks), Z1, .un, .un] = .ok .nx [A, .own d2, V, .dat (.int (n : Nat)), .dat (bookD n N), .own (bookI n N), .own (bookI n ks), Z2, .un, .un] := by
    simp [t8, f8]
  exact ⟨d2, _, _, _, _, Z2, (seq_nx s1).trans ((seq_nx s2).trans ((seq_nx s3).trans ((seq_nx s4).trans ((seq_nx s5).trans ((seq_nx s6).trans ((seq_nx s7).trans s8)))))), p2.mono (by omega), z2 z1⟩
def TurnP (A : SV) (rest : List D) (ρ : Env) : Prop := ∃ d V S3 S4 S5 S6 Z, rest.length ≤ 4 ∧ IsPen ((4 - (rest.length : Int)) * 400) d ∧ Free Z ∧ ρ = [A, .own d, V, S3, S4, S5, S6, Z, .un, .un]
theorem law_ok (ns : List Int) (hl : ns.length ≤ 63) : ∃ outs, m_law [.dat (.rol (ns.map .int))] = .ok (.dat (.bl true)) outs := by
  obtain ⟨A, hA⟩ : ∃ A : SV, A = .dat (.rol (ns.map .int)) := ⟨_, rfl⟩
  obtain ⟨d0, e0, p0⟩ := pen_ok ns
  rw [← hA] at e0 ⊢
  have step : ∀ x xs ρ, TurnP A (x :: xs) ρ → ∃ ρ1 ρ2, nameT 2 x (forget [2, 3, 4, 5, 6, 8, 9] ρ) = some ρ1 ∧ turn ρ1 = .ok .nx ρ2 ∧ TurnP A xs ρ2 := by
    rintro x xs ρ ⟨d, V, S3, S4, S5, S6, Z, hl, p, hz, rfl⟩
    rw [List.length_cons] at hl p
    obtain ⟨d', T3, T4, T5, T6, Z', e, p', hz'⟩ := turn_ok (A := A) (V := .dat x) p (by omega) hz
    exact ⟨_, _, rfl, e, d', _, _, _, _, _, _, by omega, p'.mono (by omega), hz', rfl⟩
  obtain ⟨ρ', e, d, V, S3, S4, S5, S6, Z, _, p, _, rfl⟩ := forL_ind (fg := [2, 3, 4, 5, 6, 8, 9]) (ft := nameT 2) (fb := turn) (TurnP A) step (rangeD 0 4) [A, .own d0, .un, .un, .un, .un, .un, .un, .un, .un]
    ⟨d0, _, _, _, _, _, _, by rw [rangeD_len]; omega, by rw [rangeD_len]; exact p0.mono (by omega), .inl rfl, rfl⟩
  have s1 : asgS 1 (fnS m_law_pen (consS (getS 0) nilS)) [A, .un, .un, .un, .un, .un, .un, .un, .un, .un] = .ok .nx [A, .own d0, .un, .un, .un, .un, .un, .un, .un, .un] := by
    rw [hA] at e0 ⊢
    simp [e0]
  have s2 : forS [2, 3, 4, 5, 6, 8, 9] (rangeI rg1 (consS (constS (.int 4)) nilS)) (nameT 2) turn [A, .own d0, .un, .un, .un, .un, .un, .un, .un, .un] = .ok .nx [A, .own d, .un, .un, .un, .un, .un, Z, .un, .un] := by
    have r5 := rg1_ok (n := 4) (ρ := [A, .own d0, .un, .un, .un, .un, .un, .un, .un, .un]) (Rg.of (by decide) (by decide))
    simpa [r5] using e
  have hb : b_law [A, .un, .un, .un, .un, .un, .un, .un, .un, .un] = .ok (.ret (.dat (.bl true))) [A, .own d, .un, .un, .un, .un, .un, Z, .un, .un] :=
    (seq_nx s1).trans ((seq_nx s2).trans rfl)
  refine ⟨[A], ?_⟩
  rw [hA] at hb ⊢
  simp [m_law, hb]
end k03
end DL
namespace DL
open PySem L2
namespace k03
theorem all_mk {l : PySem.W.OpenLaw} {q : Program} {w : World} {K : PySem.W.Frag} {h : Heap} {mg : Str → Option Value} {fa : Addr} (X : K.In h) (G : h.Ns mainGlobals mg) (hfa : mg "law" = some (.ref fa))
    (TF : ∀ (y : Str) (c P : Addr) (e : DefRec), (PyProof.Rows.recsOf q).find? (fun e => e.name == y) = some e → PySem.W.tabIn K y = some (c, P) → PySem.W.CodeHd h c P ∧ h.get? P = some { cls := .none, data := .fields #[] })
    {XBook flaw_all_lots fis_whole fis_index fis_lot fneed_lot frest_in fneed_many frest_of fis_inside fcarries_in fcarries flaw_is fhits_with fleast_of fmeeting ffailing fevery_lot fhow_many flaw_weight flaw_others flaw_within flaw_carries flaw_without flaw_book_by flaw_dual flaw_plain fBook_init fdual fBook_eq fBook_ne flaw_made flaw_meet flaw_join flaw_least_lots flaw_draw flaw_shuffled flaw_pick flaw_drawn_lot flaw_any_book flaw_weighed_book flaw_drawn_weights flaw_drawn_book flaw_pen flaw : Addr} {klaw_dual_ Plaw_dual klaw_meet_ Plaw_meet klaw_join_ Plaw_join klaw_weighed_book_ Plaw_weighed_book : Addr} {elaw_dual elaw_meet elaw_join elaw_weighed_book : DefRec} {yolaw_dual yolaw_meet yolaw_join yolaw_weighed_book : Value} {ydlaw_dual ydlaw_meet ydlaw_join ydlaw_weighed_book : Option Addr} {yvlaw_dual yvlaw_meet yvlaw_join yvlaw_weighed_book : Array Value} {yslaw_dual yslaw_meet yslaw_join yslaw_weighed_book : Array (Option Value)} {tkMOST_MEMBERS : Tok}
    {odlaw_all_lots anlaw_all_lots odis_whole anis_whole odis_index anis_index odis_lot anis_lot odneed_lot anneed_lot odrest_in anrest_in odneed_many anneed_many odrest_of anrest_of odis_inside anis_inside odcarries_in ancarries_in odcarries ancarries odlaw_is anlaw_is odhits_with anhits_with odleast_of anleast_of odmeeting anmeeting odfailing anfailing odevery_lot anevery_lot odhow_many anhow_many odlaw_weight anlaw_weight odlaw_others anlaw_others odlaw_within anlaw_within odlaw_carries anlaw_carries odlaw_without anlaw_without odlaw_book_by anlaw_book_by odlaw_dual anlaw_dual odlaw_plain anlaw_plain odBook_init anBook_init oddual andual odBook_eq anBook_eq odBook_ne anBook_ne odlaw_made anlaw_made odlaw_meet anlaw_meet odlaw_join anlaw_join odlaw_least_lots anlaw_least_lots odlaw_draw anlaw_draw odlaw_shuffled anlaw_shuffled odlaw_pick anlaw_pick odlaw_drawn_lot anlaw_drawn_lot odlaw_any_book anlaw_any_book odlaw_weighed_book anlaw_weighed_book odlaw_drawn_weights anlaw_drawn_weights odlaw_drawn_book anlaw_drawn_book odlaw_pen anlaw_pen odlaw anlaw : Option Addr} {sllaw_all_lots slis_whole slis_index slis_lot slneed_lot slrest_in slneed_many slrest_of slis_inside slcarries_in slcarries sllaw_is slhits_with slleast_of slmeeting slfailing slevery_lot slhow_many sllaw_weight sllaw_others sllaw_within sllaw_carries sllaw_without sllaw_book_by sllaw_dual sllaw_plain slBook_init sldual slBook_eq slBook_ne sllaw_made sllaw_meet sllaw_join sllaw_least_lots sllaw_draw sllaw_shuffled sllaw_pick sllaw_drawn_lot sllaw_any_book sllaw_weighed_book sllaw_drawn_weights sllaw_drawn_book sllaw_pen sllaw : Array (Option Value)} {oclaw_all_lots kVlaw_all_lots dclaw_all_lots pmlaw_all_lots cdlaw_all_lots ctlaw_all_lots ocis_whole kVis_whole dcis_whole pmis_whole cdis_whole ctis_whole ocis_index kVis_index dcis_index pmis_index cdis_index ctis_index ocis_lot kVis_lot dcis_lot pmis_lot cdis_lot ctis_lot ocneed_lot kVneed_lot dcneed_lot pmneed_lot cdneed_lot ctneed_lot ocrest_in kVrest_in dcrest_in pmrest_in cdrest_in ctrest_in ocneed_many kVneed_many dcneed_many pmneed_many cdneed_many ctneed_many ocrest_of kVrest_of dcrest_of pmrest_of cdrest_of ctrest_of ocis_inside kVis_inside dcis_inside pmis_inside cdis_inside ctis_inside occarries_in kVcarries_in dccarries_in pmcarries_in cdcarries_in ctcarries_in occarries kVcarries dccarries pmcarries cdcarries ctcarries oclaw_is kVlaw_is dclaw_is pmlaw_is cdlaw_is ctlaw_is ochits_with kVhits_with dchits_with pmhits_with cdhits_with cthits_with ocleast_of kVleast_of dcleast_of pmleast_of cdleast_of ctleast_of ocmeeting kVmeeting dcmeeting pmmeeting cdmeeting ctmeeting ocfailing kVfailing dcfailing pmfailing cdfailing ctfailing ocevery_lot kVevery_lot dcevery_lot pmevery_lot cdevery_lot ctevery_lot ochow_many kVhow_many dchow_many pmhow_many cdhow_many cthow_many oclaw_weight kVlaw_weight dclaw_weight pmlaw_weight cdlaw_weight ctlaw_weight oclaw_others kVlaw_others dclaw_others pmlaw_others cdlaw_others ctlaw_others oclaw_within kVlaw_within dclaw_within pmlaw_within cdlaw_within ctlaw_within oclaw_carries kVlaw_carries dclaw_carries pmlaw_carries cdlaw_carries ctlaw_carries oclaw_without kVlaw_without dclaw_without pmlaw_without cdlaw_without ctlaw_without oclaw_book_by kVlaw_book_by dclaw_book_by pmlaw_book_by cdlaw_book_by ctlaw_book_by oclaw_dual kVlaw_dual dclaw_dual pmlaw_dual cdlaw_dual ctlaw_dual oclaw_plain kVlaw_plain dclaw_plain pmlaw_plain cdlaw_plain ctlaw_plain ocBook_init kVBook_init dcBook_init pmBook_init cdBook_init ctBook_init ocdual kVdual dcdual pmdual cddual ctdual ocBook_eq kVBook_eq dcBook_eq pmBook_eq cdBook_eq ctBook_eq ocBook_ne kVBook_ne dcBook_ne pmBook_ne cdBook_ne ctBook_ne oclaw_made kVlaw_made dclaw_made pmlaw_made cdlaw_made ctlaw_made oclaw_meet kVlaw_meet dclaw_meet pmlaw_meet cdlaw_meet ctlaw_meet oclaw_join kVlaw_join dclaw_join pmlaw_join cdlaw_join ctlaw_join oclaw_least_lots kVlaw_least_lots dclaw_least_lots pmlaw_least_lots cdlaw_least_lots ctlaw_least_lots oclaw_draw kVlaw_draw dclaw_draw pmlaw_draw cdlaw_draw ctlaw_draw oclaw_shuffled kVlaw_shuffled dclaw_shuffled pmlaw_shuffled cdlaw_shuffled ctlaw_shuffled oclaw_pick kVlaw_pick dclaw_pick pmlaw_pick cdlaw_pick ctlaw_pick oclaw_drawn_lot kVlaw_drawn_lot dclaw_drawn_lot pmlaw_drawn_lot cdlaw_drawn_lot ctlaw_drawn_lot oclaw_any_book kVlaw_any_book dclaw_any_book pmlaw_any_book cdlaw_any_book ctlaw_any_book oclaw_weighed_book kVlaw_weighed_book dclaw_weighed_book pmlaw_weighed_book cdlaw_weighed_book ctlaw_weighed_book oclaw_drawn_weights kVlaw_drawn_weights dclaw_drawn_weights pmlaw_drawn_weights cdlaw_drawn_weights ctlaw_drawn_weights oclaw_drawn_book kVlaw_drawn_book dclaw_drawn_book pmlaw_drawn_book cdlaw_drawn_book ctlaw_drawn_book oclaw_pen kVlaw_pen dclaw_pen pmlaw_pen cdlaw_pen ctlaw_pen oclaw kVlaw dclaw pmlaw cdlaw ctlaw : Value}
    (xBook : PySem.W.nsIn K mainGlobals "Book" = some (some (.ref XBook)))
    (alaw_all_lots : PySem.W.nsIn K mainGlobals "_law_all_lots" = some (some (.ref flaw_all_lots)))
    (llaw_all_lots : K.lookup flaw_all_lots = some ⟨oclaw_all_lots, odlaw_all_lots, .func (PySem.W.fnOf "_law_all_lots" "_law_all_lots" (defArgs (top 31)) (defBody (top 31)) (defScope (top 31)) .none kVlaw_all_lots dclaw_all_lots pmlaw_all_lots anlaw_all_lots cdlaw_all_lots ctlaw_all_lots), sllaw_all_lots⟩)
    (claw_all_lots : PySem.W.codeIn K cdlaw_all_lots "_law_all_lots" = true)
    (klaw_all_lots : PySem.W.keepIn K (.ref flaw_all_lots) = true)
    (ais_whole : PySem.W.nsIn K mainGlobals "is_whole" = some (some (.ref fis_whole)))
    (lis_whole : K.lookup fis_whole = some ⟨ocis_whole, odis_whole, .func (PySem.W.fnOf "is_whole" "is_whole" (defArgs (top 5)) (defBody (top 5)) (defScope (top 5)) .none kVis_whole dcis_whole pmis_whole anis_whole cdis_whole ctis_whole), slis_whole⟩)
    (cis_whole : PySem.W.codeIn K cdis_whole "is_whole" = true)
    (kis_whole : PySem.W.keepIn K (.ref fis_whole) = true)
    (ais_index : PySem.W.nsIn K mainGlobals "is_index" = some (some (.ref fis_index)))
    (lis_index : K.lookup fis_index = some ⟨ocis_index, odis_index, .func (PySem.W.fnOf "is_index" "is_index" (defArgs (top 6)) (defBody (top 6)) (defScope (top 6)) .none kVis_index dcis_index pmis_index anis_index cdis_index ctis_index), slis_index⟩)
    (cis_index : PySem.W.codeIn K cdis_index "is_index" = true)
    (kis_index : PySem.W.keepIn K (.ref fis_index) = true)
    (ais_lot : PySem.W.nsIn K mainGlobals "is_lot" = some (some (.ref fis_lot)))
    (lis_lot : K.lookup fis_lot = some ⟨ocis_lot, odis_lot, .func (PySem.W.fnOf "is_lot" "is_lot" (defArgs (top 11)) (defBody (top 11)) (defScope (top 11)) .none kVis_lot dcis_lot pmis_lot anis_lot cdis_lot ctis_lot), slis_lot⟩)
    (cis_lot : PySem.W.codeIn K cdis_lot "is_lot" = true)
    (kis_lot : PySem.W.keepIn K (.ref fis_lot) = true)
    (aneed_lot : PySem.W.nsIn K mainGlobals "need_lot" = some (some (.ref fneed_lot)))
    (lneed_lot : K.lookup fneed_lot = some ⟨ocneed_lot, odneed_lot, .func (PySem.W.fnOf "need_lot" "need_lot" (defArgs (top 12)) (defBody (top 12)) (defScope (top 12)) .none kVneed_lot dcneed_lot pmneed_lot anneed_lot cdneed_lot ctneed_lot), slneed_lot⟩)
    (cneed_lot : PySem.W.codeIn K cdneed_lot "need_lot" = true)
    (kneed_lot : PySem.W.keepIn K (.ref fneed_lot) = true)
    (arest_in : PySem.W.nsIn K mainGlobals "rest_in" = some (some (.ref frest_in)))
    (lrest_in : K.lookup frest_in = some ⟨ocrest_in, odrest_in, .func (PySem.W.fnOf "rest_in" "rest_in" (defArgs (top 17)) (defBody (top 17)) (defScope (top 17)) .none kVrest_in dcrest_in pmrest_in anrest_in cdrest_in ctrest_in), slrest_in⟩)
    (crest_in : PySem.W.codeIn K cdrest_in "rest_in" = true)
    (krest_in : PySem.W.keepIn K (.ref frest_in) = true)
    (aneed_many : PySem.W.nsIn K mainGlobals "need_many" = some (some (.ref fneed_many)))
    (lneed_many : K.lookup fneed_many = some ⟨ocneed_many, odneed_many, .func (PySem.W.fnOf "need_many" "need_many" (defArgs (top 10)) (defBody (top 10)) (defScope (top 10)) .none kVneed_many dcneed_many pmneed_many anneed_many cdneed_many ctneed_many), slneed_many⟩)
    (cneed_many : PySem.W.codeIn K cdneed_many "need_many" = true)
    (kneed_many : PySem.W.keepIn K (.ref fneed_many) = true)
    (arest_of : PySem.W.nsIn K mainGlobals "rest_of" = some (some (.ref frest_of)))
    (lrest_of : K.lookup frest_of = some ⟨ocrest_of, odrest_of, .func (PySem.W.fnOf "rest_of" "rest_of" (defArgs (top 18)) (defBody (top 18)) (defScope (top 18)) .none kVrest_of dcrest_of pmrest_of anrest_of cdrest_of ctrest_of), slrest_of⟩)
    (crest_of : PySem.W.codeIn K cdrest_of "rest_of" = true)
    (krest_of : PySem.W.keepIn K (.ref frest_of) = true)
    (ais_inside : PySem.W.nsIn K mainGlobals "is_inside" = some (some (.ref fis_inside)))
    (lis_inside : K.lookup fis_inside = some ⟨ocis_inside, odis_inside, .func (PySem.W.fnOf "is_inside" "is_inside" (defArgs (top 13)) (defBody (top 13)) (defScope (top 13)) .none kVis_inside dcis_inside pmis_inside anis_inside cdis_inside ctis_inside), slis_inside⟩)
    (cis_inside : PySem.W.codeIn K cdis_inside "is_inside" = true)
    (kis_inside : PySem.W.keepIn K (.ref fis_inside) = true)
    (acarries_in : PySem.W.nsIn K mainGlobals "carries_in" = some (some (.ref fcarries_in)))
    (lcarries_in : K.lookup fcarries_in = some ⟨occarries_in, odcarries_in, .func (PySem.W.fnOf "carries_in" "carries_in" (defArgs (top 15)) (defBody (top 15)) (defScope (top 15)) .none kVcarries_in dccarries_in pmcarries_in ancarries_in cdcarries_in ctcarries_in), slcarries_in⟩)
    (ccarries_in : PySem.W.codeIn K cdcarries_in "carries_in" = true)
    (kcarries_in : PySem.W.keepIn K (.ref fcarries_in) = true)
    (acarries : PySem.W.nsIn K mainGlobals "carries" = some (some (.ref fcarries)))
    (lcarries : K.lookup fcarries = some ⟨occarries, odcarries, .func (PySem.W.fnOf "carries" "carries" (defArgs (top 16)) (defBody (top 16)) (defScope (top 16)) .none kVcarries dccarries pmcarries ancarries cdcarries ctcarries), slcarries⟩)
    (ccarries : PySem.W.codeIn K cdcarries "carries" = true)
    (kcarries : PySem.W.keepIn K (.ref fcarries) = true)
    (alaw_is : PySem.W.nsIn K mainGlobals "_law_is" = some (some (.ref flaw_is)))
    (llaw_is : K.lookup flaw_is = some ⟨oclaw_is, odlaw_is, .func (PySem.W.fnOf "_law_is" "_law_is" (defArgs (top 30)) (defBody (top 30)) (defScope (top 30)) .none kVlaw_is dclaw_is pmlaw_is anlaw_is cdlaw_is ctlaw_is), sllaw_is⟩)
    (claw_is : PySem.W.codeIn K cdlaw_is "_law_is" = true)
    (klaw_is : PySem.W.keepIn K (.ref flaw_is) = true)
    (ahits_with : PySem.W.nsIn K mainGlobals "hits_with" = some (some (.ref fhits_with)))
    (lhits_with : K.lookup fhits_with = some ⟨ochits_with, odhits_with, .func (PySem.W.fnOf "hits_with" "hits_with" (defArgs (top 21)) (defBody (top 21)) (defScope (top 21)) .none kVhits_with dchits_with pmhits_with anhits_with cdhits_with cthits_with), slhits_with⟩)
    (chits_with : PySem.W.codeIn K cdhits_with "hits_with" = true)
    (khits_with : PySem.W.keepIn K (.ref fhits_with) = true)
    (aleast_of : PySem.W.nsIn K mainGlobals "least_of" = some (some (.ref fleast_of)))
    (lleast_of : K.lookup fleast_of = some ⟨ocleast_of, odleast_of, .func (PySem.W.fnOf "least_of" "least_of" (defArgs (top 14)) (defBody (top 14)) (defScope (top 14)) .none kVleast_of dcleast_of pmleast_of anleast_of cdleast_of ctleast_of), slleast_of⟩)
    (cleast_of : PySem.W.codeIn K cdleast_of "least_of" = true)
    (kleast_of : PySem.W.keepIn K (.ref fleast_of) = true)
    (ameeting : PySem.W.nsIn K mainGlobals "meeting" = some (some (.ref fmeeting)))
    (lmeeting : K.lookup fmeeting = some ⟨ocmeeting, odmeeting, .func (PySem.W.fnOf "meeting" "meeting" (defArgs (top 22)) (defBody (top 22)) (defScope (top 22)) .none kVmeeting dcmeeting pmmeeting anmeeting cdmeeting ctmeeting), slmeeting⟩)
    (cmeeting : PySem.W.codeIn K cdmeeting "meeting" = true)
    (kmeeting : PySem.W.keepIn K (.ref fmeeting) = true)
    (afailing : PySem.W.nsIn K mainGlobals "failing" = some (some (.ref ffailing)))
    (lfailing : K.lookup ffailing = some ⟨ocfailing, odfailing, .func (PySem.W.fnOf "failing" "failing" (defArgs (top 24)) (defBody (top 24)) (defScope (top 24)) .none kVfailing dcfailing pmfailing anfailing cdfailing ctfailing), slfailing⟩)
    (cfailing : PySem.W.codeIn K cdfailing "failing" = true)
    (kfailing : PySem.W.keepIn K (.ref ffailing) = true)
    (aevery_lot : PySem.W.nsIn K mainGlobals "every_lot" = some (some (.ref fevery_lot)))
    (levery_lot : K.lookup fevery_lot = some ⟨ocevery_lot, odevery_lot, .func (PySem.W.fnOf "every_lot" "every_lot" (defArgs (top 19)) (defBody (top 19)) (defScope (top 19)) .none kVevery_lot dcevery_lot pmevery_lot anevery_lot cdevery_lot ctevery_lot), slevery_lot⟩)
    (cevery_lot : PySem.W.codeIn K cdevery_lot "every_lot" = true)
    (kevery_lot : PySem.W.keepIn K (.ref fevery_lot) = true)
    (ahow_many : PySem.W.nsIn K mainGlobals "how_many" = some (some (.ref fhow_many)))
    (lhow_many : K.lookup fhow_many = some ⟨ochow_many, odhow_many, .func (PySem.W.fnOf "how_many" "how_many" (defArgs (top 20)) (defBody (top 20)) (defScope (top 20)) .none kVhow_many dchow_many pmhow_many anhow_many cdhow_many cthow_many), slhow_many⟩)
    (chow_many : PySem.W.codeIn K cdhow_many "how_many" = true)
    (khow_many : PySem.W.keepIn K (.ref fhow_many) = true)
    (alaw_weight : PySem.W.nsIn K mainGlobals "_law_weight" = some (some (.ref flaw_weight)))
    (llaw_weight : K.lookup flaw_weight = some ⟨oclaw_weight, odlaw_weight, .func (PySem.W.fnOf "_law_weight" "_law_weight" (defArgs (top 37)) (defBody (top 37)) (defScope (top 37)) .none kVlaw_weight dclaw_weight pmlaw_weight anlaw_weight cdlaw_weight ctlaw_weight), sllaw_weight⟩)
    (claw_weight : PySem.W.codeIn K cdlaw_weight "_law_weight" = true)
    (klaw_weight : PySem.W.keepIn K (.ref flaw_weight) = true)
    (alaw_others : PySem.W.nsIn K mainGlobals "_law_others" = some (some (.ref flaw_others)))
    (llaw_others : K.lookup flaw_others = some ⟨oclaw_others, odlaw_others, .func (PySem.W.fnOf "_law_others" "_law_others" (defArgs (top 40)) (defBody (top 40)) (defScope (top 40)) .none kVlaw_others dclaw_others pmlaw_others anlaw_others cdlaw_others ctlaw_others), sllaw_others⟩)
    (claw_others : PySem.W.codeIn K cdlaw_others "_law_others" = true)
    (klaw_others : PySem.W.keepIn K (.ref flaw_others) = true)
    (alaw_within : PySem.W.nsIn K mainGlobals "_law_within" = some (some (.ref flaw_within)))
    (llaw_within : K.lookup flaw_within = some ⟨oclaw_within, odlaw_within, .func (PySem.W.fnOf "_law_within" "_law_within" (defArgs (top 32)) (defBody (top 32)) (defScope (top 32)) .none kVlaw_within dclaw_within pmlaw_within anlaw_within cdlaw_within ctlaw_within), sllaw_within⟩)
    (claw_within : PySem.W.codeIn K cdlaw_within "_law_within" = true)
    (klaw_within : PySem.W.keepIn K (.ref flaw_within) = true)
    (alaw_carries : PySem.W.nsIn K mainGlobals "_law_carries" = some (some (.ref flaw_carries)))
    (llaw_carries : K.lookup flaw_carries = some ⟨oclaw_carries, odlaw_carries, .func (PySem.W.fnOf "_law_carries" "_law_carries" (defArgs (top 33)) (defBody (top 33)) (defScope (top 33)) .none kVlaw_carries dclaw_carries pmlaw_carries anlaw_carries cdlaw_carries ctlaw_carries), sllaw_carries⟩)
    (claw_carries : PySem.W.codeIn K cdlaw_carries "_law_carries" = true)
    (klaw_carries : PySem.W.keepIn K (.ref flaw_carries) = true)
    (alaw_without : PySem.W.nsIn K mainGlobals "_law_without" = some (some (.ref flaw_without)))
    (llaw_without : K.lookup flaw_without = some ⟨oclaw_without, odlaw_without, .func (PySem.W.fnOf "_law_without" "_law_without" (defArgs (top 34)) (defBody (top 34)) (defScope (top 34)) .none kVlaw_without dclaw_without pmlaw_without anlaw_without cdlaw_without ctlaw_without), sllaw_without⟩)
    (claw_without : PySem.W.codeIn K cdlaw_without "_law_without" = true)
    (klaw_without : PySem.W.keepIn K (.ref flaw_without) = true)
    (alaw_book_by : PySem.W.nsIn K mainGlobals "_law_book_by" = some (some (.ref flaw_book_by)))
    (llaw_book_by : K.lookup flaw_book_by = some ⟨oclaw_book_by, odlaw_book_by, .func (PySem.W.fnOf "_law_book_by" "_law_book_by" (defArgs (top 36)) (defBody (top 36)) (defScope (top 36)) .none kVlaw_book_by dclaw_book_by pmlaw_book_by anlaw_book_by cdlaw_book_by ctlaw_book_by), sllaw_book_by⟩)
    (claw_book_by : PySem.W.codeIn K cdlaw_book_by "_law_book_by" = true)
    (klaw_book_by : PySem.W.keepIn K (.ref flaw_book_by) = true)
    (alaw_dual : PySem.W.nsIn K mainGlobals "_law_dual" = some (some (.ref flaw_dual)))
    (llaw_dual : K.lookup flaw_dual = some ⟨oclaw_dual, odlaw_dual, .func (PySem.W.fnOf "_law_dual" "_law_dual" (defArgs (top 39)) (defBody (top 39)) (defScope (top 39)) .none kVlaw_dual dclaw_dual pmlaw_dual anlaw_dual cdlaw_dual ctlaw_dual), sllaw_dual⟩)
    (claw_dual : PySem.W.codeIn K cdlaw_dual "_law_dual" = true)
    (klaw_dual : PySem.W.keepIn K (.ref flaw_dual) = true)
    (alaw_plain : PySem.W.nsIn K mainGlobals "_law_plain" = some (some (.ref flaw_plain)))
    (llaw_plain : K.lookup flaw_plain = some ⟨oclaw_plain, odlaw_plain, .func (PySem.W.fnOf "_law_plain" "_law_plain" (defArgs (top 48)) (defBody (top 48)) (defScope (top 48)) .none kVlaw_plain dclaw_plain pmlaw_plain anlaw_plain cdlaw_plain ctlaw_plain), sllaw_plain⟩)
    (claw_plain : PySem.W.codeIn K cdlaw_plain "_law_plain" = true)
    (klaw_plain : PySem.W.keepIn K (.ref flaw_plain) = true)
    (aBook_init : PySem.W.findIn K (.ref XBook) "__init__" = some (some (.ref fBook_init)))
    (iBook_init : PySem.W.isFn K (.ref fBook_init) = true)
    (lBook_init : K.lookup fBook_init = some ⟨ocBook_init, odBook_init, .func (PySem.W.fnOf "__init__" "Book.__init__" (defArgs (inClass (top 9) 0)) (defBody (inClass (top 9) 0)) (defScope (inClass (top 9) 0)) .none kVBook_init dcBook_init pmBook_init anBook_init cdBook_init ctBook_init), slBook_init⟩)
    (cBook_init : PySem.W.codeIn K cdBook_init "Book.__init__" = true)
    (kBook_init : PySem.W.keepIn K (.ref fBook_init) = true)
    (adual : PySem.W.nsIn K mainGlobals "dual" = some (some (.ref fdual)))
    (ldual : K.lookup fdual = some ⟨ocdual, oddual, .func (PySem.W.fnOf "dual" "dual" (defArgs (top 23)) (defBody (top 23)) (defScope (top 23)) .none kVdual dcdual pmdual andual cddual ctdual), sldual⟩)
    (cdual : PySem.W.codeIn K cddual "dual" = true)
    (kdual : PySem.W.keepIn K (.ref fdual) = true)
    (aBook_eq : PySem.W.findIn K (.ref XBook) "__eq__" = some (some (.ref fBook_eq)))
    (iBook_eq : PySem.W.isFn K (.ref fBook_eq) = true)
    (lBook_eq : K.lookup fBook_eq = some ⟨ocBook_eq, odBook_eq, .func (PySem.W.fnOf "__eq__" "Book.__eq__" (defArgs (inClass (top 9) 1)) (defBody (inClass (top 9) 1)) (defScope (inClass (top 9) 1)) .none kVBook_eq dcBook_eq pmBook_eq anBook_eq cdBook_eq ctBook_eq), slBook_eq⟩)
    (cBook_eq : PySem.W.codeIn K cdBook_eq "Book.__eq__" = true)
    (kBook_eq : PySem.W.keepIn K (.ref fBook_eq) = true)
    (aBook_ne : PySem.W.findIn K (.ref XBook) "__ne__" = some (some (.ref fBook_ne)))
    (iBook_ne : PySem.W.isFn K (.ref fBook_ne) = true)
    (lBook_ne : K.lookup fBook_ne = some ⟨ocBook_ne, odBook_ne, .func (PySem.W.fnOf "__ne__" "Book.__ne__" (defArgs (inClass (top 9) 2)) (defBody (inClass (top 9) 2)) (defScope (inClass (top 9) 2)) .none kVBook_ne dcBook_ne pmBook_ne anBook_ne cdBook_ne ctBook_ne), slBook_ne⟩)
    (cBook_ne : PySem.W.codeIn K cdBook_ne "Book.__ne__" = true)
    (kBook_ne : PySem.W.keepIn K (.ref fBook_ne) = true)
    (alaw_made : PySem.W.nsIn K mainGlobals "_law_made" = some (some (.ref flaw_made)))
    (llaw_made : K.lookup flaw_made = some ⟨oclaw_made, odlaw_made, .func (PySem.W.fnOf "_law_made" "_law_made" (defArgs (top 47)) (defBody (top 47)) (defScope (top 47)) .none kVlaw_made dclaw_made pmlaw_made anlaw_made cdlaw_made ctlaw_made), sllaw_made⟩)
    (claw_made : PySem.W.codeIn K cdlaw_made "_law_made" = true)
    (klaw_made : PySem.W.keepIn K (.ref flaw_made) = true)
    (alaw_meet : PySem.W.nsIn K mainGlobals "_law_meet" = some (some (.ref flaw_meet)))
    (llaw_meet : K.lookup flaw_meet = some ⟨oclaw_meet, odlaw_meet, .func (PySem.W.fnOf "_law_meet" "_law_meet" (defArgs (top 41)) (defBody (top 41)) (defScope (top 41)) .none kVlaw_meet dclaw_meet pmlaw_meet anlaw_meet cdlaw_meet ctlaw_meet), sllaw_meet⟩)
    (claw_meet : PySem.W.codeIn K cdlaw_meet "_law_meet" = true)
    (klaw_meet : PySem.W.keepIn K (.ref flaw_meet) = true)
    (alaw_join : PySem.W.nsIn K mainGlobals "_law_join" = some (some (.ref flaw_join)))
    (llaw_join : K.lookup flaw_join = some ⟨oclaw_join, odlaw_join, .func (PySem.W.fnOf "_law_join" "_law_join" (defArgs (top 42)) (defBody (top 42)) (defScope (top 42)) .none kVlaw_join dclaw_join pmlaw_join anlaw_join cdlaw_join ctlaw_join), sllaw_join⟩)
    (claw_join : PySem.W.codeIn K cdlaw_join "_law_join" = true)
    (klaw_join : PySem.W.keepIn K (.ref flaw_join) = true)
    (alaw_least_lots : PySem.W.nsIn K mainGlobals "_law_least_lots" = some (some (.ref flaw_least_lots)))
    (llaw_least_lots : K.lookup flaw_least_lots = some ⟨oclaw_least_lots, odlaw_least_lots, .func (PySem.W.fnOf "_law_least_lots" "_law_least_lots" (defArgs (top 35)) (defBody (top 35)) (defScope (top 35)) .none kVlaw_least_lots dclaw_least_lots pmlaw_least_lots anlaw_least_lots cdlaw_least_lots ctlaw_least_lots), sllaw_least_lots⟩)
    (claw_least_lots : PySem.W.codeIn K cdlaw_least_lots "_law_least_lots" = true)
    (klaw_least_lots : PySem.W.keepIn K (.ref flaw_least_lots) = true)
    (alaw_draw : PySem.W.nsIn K mainGlobals "_law_draw" = some (some (.ref flaw_draw)))
    (llaw_draw : K.lookup flaw_draw = some ⟨oclaw_draw, odlaw_draw, .func (PySem.W.fnOf "_law_draw" "_law_draw" (defArgs (top 27)) (defBody (top 27)) (defScope (top 27)) .none kVlaw_draw dclaw_draw pmlaw_draw anlaw_draw cdlaw_draw ctlaw_draw), sllaw_draw⟩)
    (claw_draw : PySem.W.codeIn K cdlaw_draw "_law_draw" = true)
    (klaw_draw : PySem.W.keepIn K (.ref flaw_draw) = true)
    (alaw_shuffled : PySem.W.nsIn K mainGlobals "_law_shuffled" = some (some (.ref flaw_shuffled)))
    (llaw_shuffled : K.lookup flaw_shuffled = some ⟨oclaw_shuffled, odlaw_shuffled, .func (PySem.W.fnOf "_law_shuffled" "_law_shuffled" (defArgs (top 29)) (defBody (top 29)) (defScope (top 29)) .none kVlaw_shuffled dclaw_shuffled pmlaw_shuffled anlaw_shuffled cdlaw_shuffled ctlaw_shuffled), sllaw_shuffled⟩)
    (claw_shuffled : PySem.W.codeIn K cdlaw_shuffled "_law_shuffled" = true)
    (klaw_shuffled : PySem.W.keepIn K (.ref flaw_shuffled) = true)
    (alaw_pick : PySem.W.nsIn K mainGlobals "_law_pick" = some (some (.ref flaw_pick)))
    (llaw_pick : K.lookup flaw_pick = some ⟨oclaw_pick, odlaw_pick, .func (PySem.W.fnOf "_law_pick" "_law_pick" (defArgs (top 28)) (defBody (top 28)) (defScope (top 28)) .none kVlaw_pick dclaw_pick pmlaw_pick anlaw_pick cdlaw_pick ctlaw_pick), sllaw_pick⟩)
    (claw_pick : PySem.W.codeIn K cdlaw_pick "_law_pick" = true)
    (klaw_pick : PySem.W.keepIn K (.ref flaw_pick) = true)
    (alaw_drawn_lot : PySem.W.nsIn K mainGlobals "_law_drawn_lot" = some (some (.ref flaw_drawn_lot)))
    (llaw_drawn_lot : K.lookup flaw_drawn_lot = some ⟨oclaw_drawn_lot, odlaw_drawn_lot, .func (PySem.W.fnOf "_law_drawn_lot" "_law_drawn_lot" (defArgs (top 44)) (defBody (top 44)) (defScope (top 44)) .none kVlaw_drawn_lot dclaw_drawn_lot pmlaw_drawn_lot anlaw_drawn_lot cdlaw_drawn_lot ctlaw_drawn_lot), sllaw_drawn_lot⟩)
    (claw_drawn_lot : PySem.W.codeIn K cdlaw_drawn_lot "_law_drawn_lot" = true)
    (klaw_drawn_lot : PySem.W.keepIn K (.ref flaw_drawn_lot) = true)
    (alaw_any_book : PySem.W.nsIn K mainGlobals "_law_any_book" = some (some (.ref flaw_any_book)))
    (llaw_any_book : K.lookup flaw_any_book = some ⟨oclaw_any_book, odlaw_any_book, .func (PySem.W.fnOf "_law_any_book" "_law_any_book" (defArgs (top 45)) (defBody (top 45)) (defScope (top 45)) .none kVlaw_any_book dclaw_any_book pmlaw_any_book anlaw_any_book cdlaw_any_book ctlaw_any_book), sllaw_any_book⟩)
    (claw_any_book : PySem.W.codeIn K cdlaw_any_book "_law_any_book" = true)
    (klaw_any_book : PySem.W.keepIn K (.ref flaw_any_book) = true)
    (alaw_weighed_book : PySem.W.nsIn K mainGlobals "_law_weighed_book" = some (some (.ref flaw_weighed_book)))
    (llaw_weighed_book : K.lookup flaw_weighed_book = some ⟨oclaw_weighed_book, odlaw_weighed_book, .func (PySem.W.fnOf "_law_weighed_book" "_law_weighed_book" (defArgs (top 38)) (defBody (top 38)) (defScope (top 38)) .none kVlaw_weighed_book dclaw_weighed_book pmlaw_weighed_book anlaw_weighed_book cdlaw_weighed_book ctlaw_weighed_book), sllaw_weighed_book⟩)
    (claw_weighed_book : PySem.W.codeIn K cdlaw_weighed_book "_law_weighed_book" = true)
    (klaw_weighed_book : PySem.W.keepIn K (.ref flaw_weighed_book) = true)
    (alaw_drawn_weights : PySem.W.nsIn K mainGlobals "_law_drawn_weights" = some (some (.ref flaw_drawn_weights)))
    (llaw_drawn_weights : K.lookup flaw_drawn_weights = some ⟨oclaw_drawn_weights, odlaw_drawn_weights, .func (PySem.W.fnOf "_law_drawn_weights" "_law_drawn_weights" (defArgs (top 43)) (defBody (top 43)) (defScope (top 43)) .none kVlaw_drawn_weights dclaw_drawn_weights pmlaw_drawn_weights anlaw_drawn_weights cdlaw_drawn_weights ctlaw_drawn_weights), sllaw_drawn_weights⟩)
    (claw_drawn_weights : PySem.W.codeIn K cdlaw_drawn_weights "_law_drawn_weights" = true)
    (klaw_drawn_weights : PySem.W.keepIn K (.ref flaw_drawn_weights) = true)
    (alaw_drawn_book : PySem.W.nsIn K mainGlobals "_law_drawn_book" = some (some (.ref flaw_drawn_book)))
    (llaw_drawn_book : K.lookup flaw_drawn_book = some ⟨oclaw_drawn_book, odlaw_drawn_book, .func (PySem.W.fnOf "_law_drawn_book" "_law_drawn_book" (defArgs (top 46)) (defBody (top 46)) (defScope (top 46)) .none kVlaw_drawn_book dclaw_drawn_book pmlaw_drawn_book anlaw_drawn_book cdlaw_drawn_book ctlaw_drawn_book), sllaw_drawn_book⟩)
    (claw_drawn_book : PySem.W.codeIn K cdlaw_drawn_book "_law_drawn_book" = true)
    (klaw_drawn_book : PySem.W.keepIn K (.ref flaw_drawn_book) = true)
    (alaw_pen : PySem.W.nsIn K mainGlobals "_law_pen" = some (some (.ref flaw_pen)))
    (llaw_pen : K.lookup flaw_pen = some ⟨oclaw_pen, odlaw_pen, .func (PySem.W.fnOf "_law_pen" "_law_pen" (defArgs (top 26)) (defBody (top 26)) (defScope (top 26)) .none kVlaw_pen dclaw_pen pmlaw_pen anlaw_pen cdlaw_pen ctlaw_pen), sllaw_pen⟩)
    (claw_pen : PySem.W.codeIn K cdlaw_pen "_law_pen" = true)
    (klaw_pen : PySem.W.keepIn K (.ref flaw_pen) = true)
    (alaw : PySem.W.nsIn K mainGlobals "law" = some (some (.ref flaw)))
    (llaw : K.lookup flaw = some ⟨oclaw, odlaw, .func (PySem.W.fnOf "law" "law" (defArgs (top 49)) (defBody (top 49)) (defScope (top 49)) .none kVlaw dclaw pmlaw anlaw cdlaw ctlaw), sllaw⟩)
    (claw : PySem.W.codeIn K cdlaw "law" = true)
    (klaw : PySem.W.keepIn K (.ref flaw) = true)
    (pgBook : PySem.W.plainGet K XBook Str.empty = true)
    (hdBook : PySem.W.hasDictIn K XBook = true)
    (poBook : PySem.W.plainOver K XBook = true)
    (saBook : PySem.W.findIn K (.ref XBook) "__setattr__" = some (some (.builtin "object.__setattr__")))
    (mkBook : PySem.W.makesIn K XBook = true)
    (kcBook : PySem.W.keepIn K (.ref XBook) = true)
    (tNoneTypeBook : PySem.W.kitOne K (.type "NoneType") (.ref XBook) = some false)
    (tboolBook : PySem.W.kitOne K (.type "bool") (.ref XBook) = some false)
    (tintBook : PySem.W.kitOne K (.type "int") (.ref XBook) = some false)
    (tstrBook : PySem.W.kitOne K (.type "str") (.ref XBook) = some false)
    (ttupleBook : PySem.W.kitOne K (.type "tuple") (.ref XBook) = some false)
    (tlistBook : PySem.W.kitOne K (.type "list") (.ref XBook) = some false)
    (ttBook : PySem.W.kitOne K (.ref XBook) (.ref XBook) = some true)
    (haBook : PySem.W.findIn K (.ref XBook) "__class__" = some (some (.builtin "object.__class__")))
    (hmBook : PySem.W.mroIn K XBook (.type "object") = some true)
    (hnObj : PySem.W.specialIn K (.builtin "object.__class__") "__get__" = some (some (.builtin "getset_descriptor.__get__")))
    (htObj : PySem.W.takesIn K (.builtin "object.__class__") = some true)
    (zrange : PySem.W.nsIn K mainGlobals "range" = some none)
    (nBookleast : PySem.W.findIn K (.ref XBook) "least" = some none)
    (zsorted : PySem.W.nsIn K mainGlobals "sorted" = some none)
    (zlen : PySem.W.nsIn K mainGlobals "len" = some none)
    (zall : PySem.W.nsIn K mainGlobals "all" = some none)
    (zisinstance : PySem.W.nsIn K mainGlobals "isinstance" = some none)
    (ztuple : PySem.W.nsIn K mainGlobals "tuple" = some none)
    (zint : PySem.W.nsIn K mainGlobals "int" = some none)
    (zbool : PySem.W.nsIn K mainGlobals "bool" = some none)
    (zlist : PySem.W.nsIn K mainGlobals "list" = some none)
    (gMOST_MEMBERS : PySem.W.nsIn K mainGlobals "MOST_MEMBERS" = some (some (.int 20 tkMOST_MEMBERS)))
    (nBookmany : PySem.W.findIn K (.ref XBook) "many" = some none)
    (zany : PySem.W.nsIn K mainGlobals "any" = some none)
    (zstr : PySem.W.nsIn K mainGlobals "str" = some none)
    (zsum : PySem.W.nsIn K mainGlobals "sum" = some none)
    (oBook_eq : PySem.W.notFirst K XBook (.type "tuple") = true)
    (oBook_ne : PySem.W.notFirst K XBook (.type "tuple") = true)
    (zmin : PySem.W.nsIn K mainGlobals "min" = some none)
    (qlaw_dual : cdlaw_dual = PySem.Value.ref klaw_dual_)
    (ylaw_dual : K.lookup klaw_dual_ = some ⟨yolaw_dual, ydlaw_dual, .fields yvlaw_dual, yslaw_dual⟩)
    (vlaw_dual : (yvlaw_dual[11]? : Option Value) = some (.ref Plaw_dual))
    (rlaw_dual : (PyProof.Rows.recsOf q).find? (fun e => e.name == ("_law_dual" : Str)) = some elaw_dual)
    (ulaw_dual : K.lookup Plaw_dual = none)
    (qlaw_meet : cdlaw_meet = PySem.Value.ref klaw_meet_)
    (ylaw_meet : K.lookup klaw_meet_ = some ⟨yolaw_meet, ydlaw_meet, .fields yvlaw_meet, yslaw_meet⟩)
    (vlaw_meet : (yvlaw_meet[11]? : Option Value) = some (.ref Plaw_meet))
    (rlaw_meet : (PyProof.Rows.recsOf q).find? (fun e => e.name == ("_law_meet" : Str)) = some elaw_meet)
    (ulaw_meet : K.lookup Plaw_meet = none)
    (qlaw_join : cdlaw_join = PySem.Value.ref klaw_join_)
    (ylaw_join : K.lookup klaw_join_ = some ⟨yolaw_join, ydlaw_join, .fields yvlaw_join, yslaw_join⟩)
    (vlaw_join : (yvlaw_join[11]? : Option Value) = some (.ref Plaw_join))
    (rlaw_join : (PyProof.Rows.recsOf q).find? (fun e => e.name == ("_law_join" : Str)) = some elaw_join)
    (ulaw_join : K.lookup Plaw_join = none)
    (qlaw_weighed_book : cdlaw_weighed_book = PySem.Value.ref klaw_weighed_book_)
    (ylaw_weighed_book : K.lookup klaw_weighed_book_ = some ⟨yolaw_weighed_book, ydlaw_weighed_book, .fields yvlaw_weighed_book, yslaw_weighed_book⟩)
    (vlaw_weighed_book : (yvlaw_weighed_book[11]? : Option Value) = some (.ref Plaw_weighed_book))
    (rlaw_weighed_book : (PyProof.Rows.recsOf q).find? (fun e => e.name == ("_law_weighed_book" : Str)) = some elaw_weighed_book)
    (ulaw_weighed_book : K.lookup Plaw_weighed_book = none)
    (dlaw_duallaw_meet : Plaw_dual ≠ Plaw_meet)
    (dlaw_duallaw_join : Plaw_dual ≠ Plaw_join)
    (dlaw_meetlaw_join : Plaw_meet ≠ Plaw_join)
    (dlaw_duallaw_weighed_book : Plaw_dual ≠ Plaw_weighed_book)
    (dlaw_meetlaw_weighed_book : Plaw_meet ≠ Plaw_weighed_book)
    (dlaw_joinlaw_weighed_book : Plaw_join ≠ Plaw_weighed_book)
    : LamX.LawAtS l w K (L2.CX l.prog w) 7 63 "script" mg fa h := by
  have e := hfa.symm.trans (PySem.W.mg_of X G alaw)
  cases e
  subst qlaw_dual
  have tflaw_dual := TF _ _ _ _ rlaw_dual (tab_mk alaw_dual llaw_dual rfl ylaw_dual vlaw_dual)
  subst qlaw_meet
  have tflaw_meet := TF _ _ _ _ rlaw_meet (tab_mk alaw_meet llaw_meet rfl ylaw_meet vlaw_meet)
  subst qlaw_join
  have tflaw_join := TF _ _ _ _ rlaw_join (tab_mk alaw_join llaw_join rfl ylaw_join vlaw_join)
  subst qlaw_weighed_book
  have tflaw_weighed_book := TF _ _ _ _ rlaw_weighed_book (tab_mk alaw_weighed_book llaw_weighed_book rfl ylaw_weighed_book vlaw_weighed_book)
  have Flaw_all_lots := fun_mk (st := (top 31)) llaw_all_lots claw_all_lots klaw_all_lots
  have blaw_all_lots := Flaw_all_lots.binds (ps := ["many"]) fun _ _ _ _ _ _ us hl => match us, hl with | [_], _ => rfl
  have Fis_whole := fun_mk (st := (top 5)) lis_whole cis_whole kis_whole
  have bis_whole := Fis_whole.binds (ps := ["value"]) fun _ _ _ _ _ _ us hl => match us, hl with | [_], _ => rfl
  have Fis_index := fun_mk (st := (top 6)) lis_index cis_index kis_index
  have bis_index := Fis_index.binds (ps := ["value", "many"]) fun _ _ _ _ _ _ us hl => match us, hl with | [_, _], _ => rfl
  have Fis_lot := fun_mk (st := (top 11)) lis_lot cis_lot kis_lot
  have bis_lot := Fis_lot.binds (ps := ["many", "value"]) fun _ _ _ _ _ _ us hl => match us, hl with | [_, _], _ => rfl
  have Fneed_lot := fun_mk (st := (top 12)) lneed_lot cneed_lot kneed_lot
  have bneed_lot := Fneed_lot.binds (ps := ["many", "lot"]) fun _ _ _ _ _ _ us hl => match us, hl with | [_, _], _ => rfl
  have Frest_in := fun_mk (st := (top 17)) lrest_in crest_in krest_in
  have brest_in := Frest_in.binds (ps := ["many", "lot"]) fun _ _ _ _ _ _ us hl => match us, hl with | [_, _], _ => rfl
  have Fneed_many := fun_mk (st := (top 10)) lneed_many cneed_many kneed_many
  have bneed_many := Fneed_many.binds (ps := ["many", "most"]) fun _ _ _ _ _ _ us hl => match us, hl with | [_, _], _ => rfl
  have Frest_of := fun_mk (st := (top 18)) lrest_of crest_of krest_of
  have brest_of := Frest_of.binds (ps := ["many", "lot"]) fun _ _ _ _ _ _ us hl => match us, hl with | [_, _], _ => rfl
  have Fis_inside := fun_mk (st := (top 13)) lis_inside cis_inside kis_inside
  have bis_inside := Fis_inside.binds (ps := ["one", "other"]) fun _ _ _ _ _ _ us hl => match us, hl with | [_, _], _ => rfl
  have Fcarries_in := fun_mk (st := (top 15)) lcarries_in ccarries_in kcarries_in
  have bcarries_in := Fcarries_in.binds (ps := ["book", "lot"]) fun _ _ _ _ _ _ us hl => match us, hl with | [_, _], _ => rfl
  have Fcarries := fun_mk (st := (top 16)) lcarries ccarries kcarries
  have bcarries := Fcarries.binds (ps := ["book", "lot"]) fun _ _ _ _ _ _ us hl => match us, hl with | [_, _], _ => rfl
  have Flaw_is := fun_mk (st := (top 30)) llaw_is claw_is klaw_is
  have blaw_is := Flaw_is.binds (ps := ["told", "due"]) fun _ _ _ _ _ _ us hl => match us, hl with | [_, _], _ => rfl
  have Fhits_with := fun_mk (st := (top 21)) lhits_with chits_with khits_with
  have bhits_with := Fhits_with.binds (ps := ["hit", "lot"]) fun _ _ _ _ _ _ us hl => match us, hl with | [_, _], _ => rfl
  have Fleast_of := fun_mk (st := (top 14)) lleast_of cleast_of kleast_of
  have bleast_of := Fleast_of.binds (ps := ["lots"]) fun _ _ _ _ _ _ us hl => match us, hl with | [_], _ => rfl
  have Fmeeting := fun_mk (st := (top 22)) lmeeting cmeeting kmeeting
  have bmeeting := Fmeeting.binds (ps := ["lots"]) fun _ _ _ _ _ _ us hl => match us, hl with | [_], _ => rfl
  have Ffailing := fun_mk (st := (top 24)) lfailing cfailing kfailing
  have bfailing := Ffailing.binds (ps := ["book"]) fun _ _ _ _ _ _ us hl => match us, hl with | [_], _ => rfl
  have Fevery_lot := fun_mk (st := (top 19)) levery_lot cevery_lot kevery_lot
  have bevery_lot := Fevery_lot.binds (ps := ["many"]) fun _ _ _ _ _ _ us hl => match us, hl with | [_], _ => rfl
  have Fhow_many := fun_mk (st := (top 20)) lhow_many chow_many khow_many
  have bhow_many := Fhow_many.binds (ps := ["book"]) fun _ _ _ _ _ _ us hl => match us, hl with | [_], _ => rfl
  have Flaw_weight := fun_mk (st := (top 37)) llaw_weight claw_weight klaw_weight
  have blaw_weight := Flaw_weight.binds (ps := ["weights", "lot"]) fun _ _ _ _ _ _ us hl => match us, hl with | [_, _], _ => rfl
  have Flaw_others := fun_mk (st := (top 40)) llaw_others claw_others klaw_others
  have blaw_others := Flaw_others.binds (ps := ["many", "lot"]) fun _ _ _ _ _ _ us hl => match us, hl with | [_, _], _ => rfl
  have Flaw_within := fun_mk (st := (top 32)) llaw_within claw_within klaw_within
  have blaw_within := Flaw_within.binds (ps := ["one", "other"]) fun _ _ _ _ _ _ us hl => match us, hl with | [_, _], _ => rfl
  have Flaw_carries := fun_mk (st := (top 33)) llaw_carries claw_carries klaw_carries
  have blaw_carries := Flaw_carries.binds (ps := ["book", "lot"]) fun _ _ _ _ _ _ us hl => match us, hl with | [_, _], _ => rfl
  have Flaw_without := fun_mk (st := (top 34)) llaw_without claw_without klaw_without
  have blaw_without := Flaw_without.binds (ps := ["lot", "member"]) fun _ _ _ _ _ _ us hl => match us, hl with | [_, _], _ => rfl
  have Flaw_book_by := fun_mk (st := (top 36)) llaw_book_by claw_book_by klaw_book_by
  have blaw_book_by := Flaw_book_by.binds (ps := ["many", "is_carrying"]) fun _ _ _ _ _ _ us hl => match us, hl with | [_, _], _ => rfl
  have Flaw_dual := fun_mk (st := (top 39)) llaw_dual claw_dual klaw_dual
  have blaw_dual := Flaw_dual.binds (ps := ["book"]) fun _ _ _ _ _ _ us hl => match us, hl with | [_], _ => rfl
  have Flaw_plain := fun_mk (st := (top 48)) llaw_plain claw_plain klaw_plain
  have blaw_plain := Flaw_plain.binds (ps := ["told"]) fun _ _ _ _ _ _ us hl => match us, hl with | [_], _ => rfl
  have FBook_init := fun_mk (st := (inClass (top 9) 0)) lBook_init cBook_init kBook_init
  have bBook_init := FBook_init.binds (ps := ["self", "many", "least"]) fun _ _ _ _ _ _ us hl => match us, hl with | [_, _, _], _ => rfl
  have Fdual := fun_mk (st := (top 23)) ldual cdual kdual
  have bdual := Fdual.binds (ps := ["book"]) fun _ _ _ _ _ _ us hl => match us, hl with | [_], _ => rfl
  have FBook_eq := fun_mk (st := (inClass (top 9) 1)) lBook_eq cBook_eq kBook_eq
  have bBook_eq := FBook_eq.binds (ps := ["self", "other"]) fun _ _ _ _ _ _ us hl => match us, hl with | [_, _], _ => rfl
  have FBook_ne := fun_mk (st := (inClass (top 9) 2)) lBook_ne cBook_ne kBook_ne
  have bBook_ne := FBook_ne.binds (ps := ["self", "other"]) fun _ _ _ _ _ _ us hl => match us, hl with | [_, _], _ => rfl
  have Flaw_made := fun_mk (st := (top 47)) llaw_made claw_made klaw_made
  have blaw_made := Flaw_made.binds (ps := ["book"]) fun _ _ _ _ _ _ us hl => match us, hl with | [_], _ => rfl
  have Flaw_meet := fun_mk (st := (top 41)) llaw_meet claw_meet klaw_meet
  have blaw_meet := Flaw_meet.binds (ps := ["one", "other"]) fun _ _ _ _ _ _ us hl => match us, hl with | [_, _], _ => rfl
  have Flaw_join := fun_mk (st := (top 42)) llaw_join claw_join klaw_join
  have blaw_join := Flaw_join.binds (ps := ["one", "other"]) fun _ _ _ _ _ _ us hl => match us, hl with | [_, _], _ => rfl
  have Flaw_least_lots := fun_mk (st := (top 35)) llaw_least_lots claw_least_lots klaw_least_lots
  have blaw_least_lots := Flaw_least_lots.binds (ps := ["many", "carrying"]) fun _ _ _ _ _ _ us hl => match us, hl with | [_, _], _ => rfl
  have Flaw_draw := fun_mk (st := (top 27)) llaw_draw claw_draw klaw_draw
  have blaw_draw := Flaw_draw.binds (ps := ["pen", "many"]) fun _ _ _ _ _ _ us hl => match us, hl with | [_, _], _ => rfl
  have Flaw_shuffled := fun_mk (st := (top 29)) llaw_shuffled claw_shuffled klaw_shuffled
  have blaw_shuffled := Flaw_shuffled.binds (ps := ["pen", "some"]) fun _ _ _ _ _ _ us hl => match us, hl with | [_, _], _ => rfl
  have Flaw_pick := fun_mk (st := (top 28)) llaw_pick claw_pick klaw_pick
  have blaw_pick := Flaw_pick.binds (ps := ["pen", "some"]) fun _ _ _ _ _ _ us hl => match us, hl with | [_, _], _ => rfl
  have Flaw_drawn_lot := fun_mk (st := (top 44)) llaw_drawn_lot claw_drawn_lot klaw_drawn_lot
  have blaw_drawn_lot := Flaw_drawn_lot.binds (ps := ["pen", "many"]) fun _ _ _ _ _ _ us hl => match us, hl with | [_, _], _ => rfl
  have Flaw_any_book := fun_mk (st := (top 45)) llaw_any_book claw_any_book klaw_any_book
  have blaw_any_book := Flaw_any_book.binds (ps := ["pen", "many"]) fun _ _ _ _ _ _ us hl => match us, hl with | [_, _], _ => rfl
  have Flaw_weighed_book := fun_mk (st := (top 38)) llaw_weighed_book claw_weighed_book klaw_weighed_book
  have blaw_weighed_book := Flaw_weighed_book.binds (ps := ["weights", "quota"]) fun _ _ _ _ _ _ us hl => match us, hl with | [_, _], _ => rfl
  have Flaw_drawn_weights := fun_mk (st := (top 43)) llaw_drawn_weights claw_drawn_weights klaw_drawn_weights
  have blaw_drawn_weights := Flaw_drawn_weights.binds (ps := ["pen", "many"]) fun _ _ _ _ _ _ us hl => match us, hl with | [_, _], _ => rfl
  have Flaw_drawn_book := fun_mk (st := (top 46)) llaw_drawn_book claw_drawn_book klaw_drawn_book
  have blaw_drawn_book := Flaw_drawn_book.binds (ps := ["pen", "many"]) fun _ _ _ _ _ _ us hl => match us, hl with | [_, _], _ => rfl
  have Flaw_pen := fun_mk (st := (top 26)) llaw_pen claw_pen klaw_pen
  have blaw_pen := Flaw_pen.binds (ps := ["script"]) fun _ _ _ _ _ _ us hl => match us, hl with | [_], _ => rfl
  have Flaw := fun_mk (st := (top 49)) llaw claw klaw
  have blaw := Flaw.binds (ps := ["script"]) fun _ _ _ _ _ _ us hl => match us, hl with | [_], _ => rfl
  have clBook : Cls K XBook := ⟨pgBook, hdBook, poBook, saBook⟩
  refine ⟨PySem.W.fnOf "law" "law" (defArgs (top 49)) (defBody (top 49)) (defScope (top 49)) .none kVlaw dclaw pmlaw anlaw cdlaw ctlaw, [(klaw_dual_, Plaw_dual), (klaw_meet_, Plaw_meet), (klaw_join_, Plaw_join), (klaw_weighed_book_, Plaw_weighed_book)], spF ⟨K, fun _ => XBook, [(Plaw_dual, "_law_dual.<locals>.<lambda>"), (Plaw_meet, "_law_meet.<locals>.<lambda>"), (Plaw_join, "_law_join.<locals>.<lambda>"), (Plaw_weighed_book, "_law_weighed_book.<locals>.<lambda>")], lamTab⟩ 1 m_law, (List.forall_mem_cons.mpr ⟨tflaw_dual.2, (List.forall_mem_cons.mpr ⟨tflaw_meet.2, (List.forall_mem_cons.mpr ⟨tflaw_join.2, (List.forall_mem_cons.mpr ⟨tflaw_weighed_book.2, (fun _ h => nomatch h)⟩)⟩)⟩)⟩), (List.forall_mem_cons.mpr ⟨ulaw_dual, (List.forall_mem_cons.mpr ⟨ulaw_meet, (List.forall_mem_cons.mpr ⟨ulaw_join, (List.forall_mem_cons.mpr ⟨ulaw_weighed_book, (fun _ h => nomatch h)⟩)⟩)⟩)⟩), (List.forall_mem_cons.mpr ⟨tflaw_dual.1, (List.forall_mem_cons.mpr ⟨tflaw_meet.1, (List.forall_mem_cons.mpr ⟨tflaw_join.1, (List.forall_mem_cons.mpr ⟨tflaw_weighed_book.1, (fun _ h => nomatch h)⟩)⟩)⟩)⟩), fun s v => .of_eq rfl, fun H a ns hl _ hH hS => sp_startT (C := ⟨K, fun _ => XBook, [(Plaw_dual, "_law_dual.<locals>.<lambda>"), (Plaw_meet, "_law_meet.<locals>.<lambda>"), (Plaw_join, "_law_join.<locals>.<lambda>"), (Plaw_weighed_book, "_law_weighed_book.<locals>.<lambda>")], lamTab⟩) hS ?tt (law_ok ns hl), fun base _ _ TB => ?mm⟩
  · exact (List.forall_mem_cons.mpr ⟨hH (klaw_dual_, Plaw_dual) (.head _), (List.forall_mem_cons.mpr ⟨hH (klaw_meet_, Plaw_meet) (.tail _ (.head _)), (List.forall_mem_cons.mpr ⟨hH (klaw_join_, Plaw_join) (.tail _ (.tail _ (.head _))), (List.forall_mem_cons.mpr ⟨hH (klaw_weighed_book_, Plaw_weighed_book) (.tail _ (.tail _ (.tail _ (.head _)))), (fun _ h => nomatch h)⟩)⟩)⟩)⟩)
  · exact ok_law (C := ⟨K, fun _ => XBook, [(Plaw_dual, "_law_dual.<locals>.<lambda>"), (Plaw_meet, "_law_meet.<locals>.<lambda>"), (Plaw_join, "_law_join.<locals>.<lambda>"), (Plaw_weighed_book, "_law_weighed_book.<locals>.<lambda>")], lamTab⟩) {
    z_range := PySem.W.mg_none_of X G zrange,
    n_least := (List.forall_mem_cons.mpr ⟨⟨clBook, nBookleast⟩, (fun _ h => nomatch h)⟩),
    z_sorted := PySem.W.mg_none_of X G zsorted,
    m_law_all_lots := PySem.W.mg_of X G alaw_all_lots,
    a_law_all_lots := _,
    fd_law_all_lots := _,
    F_law_all_lots := Flaw_all_lots,
    b_law_all_lots := blaw_all_lots,
    z_len := PySem.W.mg_none_of X G zlen,
    z_all := PySem.W.mg_none_of X G zall,
    z_isinstance := PySem.W.mg_none_of X G zisinstance,
    z_tuple := PySem.W.mg_none_of X G ztuple,
    z_int := PySem.W.mg_none_of X G zint,
    z_bool := PySem.W.mg_none_of X G zbool,
    m_is_whole := PySem.W.mg_of X G ais_whole,
    a_is_whole := _,
    fd_is_whole := _,
    F_is_whole := Fis_whole,
    b_is_whole := bis_whole,
    m_is_index := PySem.W.mg_of X G ais_index,
    a_is_index := _,
    fd_is_index := _,
    F_is_index := Fis_index,
    b_is_index := bis_index,
    m_is_lot := PySem.W.mg_of X G ais_lot,
    a_is_lot := _,
    fd_is_lot := _,
    F_is_lot := Fis_lot,
    b_is_lot := bis_lot,
    z_list := PySem.W.mg_none_of X G zlist,
    m_need_lot := PySem.W.mg_of X G aneed_lot,
    a_need_lot := _,
    fd_need_lot := _,
    F_need_lot := Fneed_lot,
    b_need_lot := bneed_lot,
    m_rest_in := PySem.W.mg_of X G arest_in,
    a_rest_in := _,
    fd_rest_in := _,
    F_rest_in := Frest_in,
    b_rest_in := brest_in,
    c_MOST_MEMBERS := ⟨_, PySem.W.mg_of X G gMOST_MEMBERS⟩,
    m_need_many := PySem.W.mg_of X G aneed_many,
    a_need_many := _,
    fd_need_many := _,
    F_need_many := Fneed_many,
    b_need_many := bneed_many,
    m_rest_of := PySem.W.mg_of X G arest_of,
    a_rest_of := _,
    fd_rest_of := _,
    F_rest_of := Frest_of,
    b_rest_of := brest_of,
    n_many := (List.forall_mem_cons.mpr ⟨⟨clBook, nBookmany⟩, (fun _ h => nomatch h)⟩),
    m_is_inside := PySem.W.mg_of X G ais_inside,
    a_is_inside := _,
    fd_is_inside := _,
    F_is_inside := Fis_inside,
    b_is_inside := bis_inside,
    z_any := PySem.W.mg_none_of X G zany,
    m_carries_in := PySem.W.mg_of X G acarries_in,
    a_carries_in := _,
    fd_carries_in := _,
    F_carries_in := Fcarries_in,
    b_carries_in := bcarries_in,
    m_carries := PySem.W.mg_of X G acarries,
    a_carries := _,
    fd_carries := _,
    F_carries := Fcarries,
    b_carries := bcarries,
    z_str := PySem.W.mg_none_of X G zstr,
    m_law_is := PySem.W.mg_of X G alaw_is,
    a_law_is := _,
    fd_law_is := _,
    F_law_is := Flaw_is,
    b_law_is := blaw_is,
    m_hits_with := PySem.W.mg_of X G ahits_with,
    a_hits_with := _,
    fd_hits_with := _,
    F_hits_with := Fhits_with,
    b_hits_with := bhits_with,
    m_least_of := PySem.W.mg_of X G aleast_of,
    a_least_of := _,
    fd_least_of := _,
    F_least_of := Fleast_of,
    b_least_of := bleast_of,
    m_meeting := PySem.W.mg_of X G ameeting,
    a_meeting := _,
    fd_meeting := _,
    F_meeting := Fmeeting,
    b_meeting := bmeeting,
    m_failing := PySem.W.mg_of X G afailing,
    a_failing := _,
    fd_failing := _,
    F_failing := Ffailing,
    b_failing := bfailing,
    m_every_lot := PySem.W.mg_of X G aevery_lot,
    a_every_lot := _,
    fd_every_lot := _,
    F_every_lot := Fevery_lot,
    b_every_lot := bevery_lot,
    m_how_many := PySem.W.mg_of X G ahow_many,
    a_how_many := _,
    fd_how_many := _,
    F_how_many := Fhow_many,
    b_how_many := bhow_many,
    z_sum := PySem.W.mg_none_of X G zsum,
    m_law_weight := PySem.W.mg_of X G alaw_weight,
    a_law_weight := _,
    fd_law_weight := _,
    F_law_weight := Flaw_weight,
    b_law_weight := blaw_weight,
    m_law_others := PySem.W.mg_of X G alaw_others,
    a_law_others := _,
    fd_law_others := _,
    F_law_others := Flaw_others,
    b_law_others := blaw_others,
    m_law_within := PySem.W.mg_of X G alaw_within,
    a_law_within := _,
    fd_law_within := _,
    F_law_within := Flaw_within,
    b_law_within := blaw_within,
    m_law_carries := PySem.W.mg_of X G alaw_carries,
    a_law_carries := _,
    fd_law_carries := _,
    F_law_carries := Flaw_carries,
    b_law_carries := blaw_carries,
    m_law_without := PySem.W.mg_of X G alaw_without,
    a_law_without := _,
    fd_law_without := _,
    F_law_without := Flaw_without,
    b_law_without := blaw_without,
    m_law_book_by := PySem.W.mg_of X G alaw_book_by,
    a_law_book_by := _,
    fd_law_book_by := _,
    F_law_book_by := Flaw_book_by,
    b_law_book_by := blaw_book_by,
    P_law_dual := Plaw_dual,
    k_law_dual := klaw_dual_,
    Q_law_dual := rfl,
    tp_law_dual := (.head _),
    tu_law_dual := (List.forall_mem_cons.mpr ⟨fun _ => rfl, (List.forall_mem_cons.mpr ⟨fun e => absurd e.symm dlaw_duallaw_meet, (List.forall_mem_cons.mpr ⟨fun e => absurd e.symm dlaw_duallaw_join, (List.forall_mem_cons.mpr ⟨fun e => absurd e.symm dlaw_duallaw_weighed_book, (fun _ h => nomatch h)⟩)⟩)⟩)⟩),
    tb_law_dual := TB (klaw_dual_, Plaw_dual) (.head _),
    hL := rfl,
    m_law_dual := PySem.W.mg_of X G alaw_dual,
    a_law_dual := _,
    fd_law_dual := _,
    F_law_dual := Flaw_dual,
    b_law_dual := blaw_dual,
    i_Book := isi_cls (List.forall_mem_cons.mpr ⟨tNoneTypeBook, List.forall_mem_cons.mpr ⟨tboolBook, List.forall_mem_cons.mpr ⟨tintBook, List.forall_mem_cons.mpr ⟨tstrBook, List.forall_mem_cons.mpr ⟨ttupleBook, List.forall_mem_cons.mpr ⟨tlistBook, fun _ h => nomatch h⟩⟩⟩⟩⟩⟩) ⟨clBook, haBook, hnObj, htObj, hmBook⟩ ttBook,
    m_Book := PySem.W.mg_of X G xBook,
    m_law_plain := PySem.W.mg_of X G alaw_plain,
    a_law_plain := _,
    fd_law_plain := _,
    F_law_plain := Flaw_plain,
    b_law_plain := blaw_plain,
    a_Book_init := _,
    fd_Book_init := _,
    F_Book_init := FBook_init,
    b_Book_init := bBook_init,
    M_Book := ⟨mkBook, aBook_init, iBook_init, kcBook⟩,
    m_dual := PySem.W.mg_of X G adual,
    a_dual := _,
    fd_dual := _,
    F_dual := Fdual,
    b_dual := bdual,
    a_Book_eq := _,
    fd_Book_eq := _,
    F_Book_eq := FBook_eq,
    b_Book_eq := bBook_eq,
    O_Book_eq := ⟨aBook_eq, iBook_eq, oBook_eq⟩,
    a_Book_ne := _,
    fd_Book_ne := _,
    F_Book_ne := FBook_ne,
    b_Book_ne := bBook_ne,
    O_Book_ne := ⟨aBook_ne, iBook_ne, oBook_ne⟩,
    m_law_made := PySem.W.mg_of X G alaw_made,
    a_law_made := _,
    fd_law_made := _,
    F_law_made := Flaw_made,
    b_law_made := blaw_made,
    P_law_meet := Plaw_meet,
    k_law_meet := klaw_meet_,
    Q_law_meet := rfl,
    tp_law_meet := (.tail _ (.head _)),
    tu_law_meet := (List.forall_mem_cons.mpr ⟨fun e => absurd e dlaw_duallaw_meet, (List.forall_mem_cons.mpr ⟨fun _ => rfl, (List.forall_mem_cons.mpr ⟨fun e => absurd e.symm dlaw_meetlaw_join, (List.forall_mem_cons.mpr ⟨fun e => absurd e.symm dlaw_meetlaw_weighed_book, (fun _ h => nomatch h)⟩)⟩)⟩)⟩),
    tb_law_meet := TB (klaw_meet_, Plaw_meet) (.tail _ (.head _)),
    m_law_meet := PySem.W.mg_of X G alaw_meet,
    a_law_meet := _,
    fd_law_meet := _,
    F_law_meet := Flaw_meet,
    b_law_meet := blaw_meet,
    P_law_join := Plaw_join,
    k_law_join := klaw_join_,
    Q_law_join := rfl,
    tp_law_join := (.tail _ (.tail _ (.head _))),
    tu_law_join := (List.forall_mem_cons.mpr ⟨fun e => absurd e dlaw_duallaw_join, (List.forall_mem_cons.mpr ⟨fun e => absurd e dlaw_meetlaw_join, (List.forall_mem_cons.mpr ⟨fun _ => rfl, (List.forall_mem_cons.mpr ⟨fun e => absurd e.symm dlaw_joinlaw_weighed_book, (fun _ h => nomatch h)⟩)⟩)⟩)⟩),
    tb_law_join := TB (klaw_join_, Plaw_join) (.tail _ (.tail _ (.head _))),
    m_law_join := PySem.W.mg_of X G alaw_join,
    a_law_join := _,
    fd_law_join := _,
    F_law_join := Flaw_join,
    b_law_join := blaw_join,
    m_law_least_lots := PySem.W.mg_of X G alaw_least_lots,
    a_law_least_lots := _,
    fd_law_least_lots := _,
    F_law_least_lots := Flaw_least_lots,
    b_law_least_lots := blaw_least_lots,
    m_law_draw := PySem.W.mg_of X G alaw_draw,
    a_law_draw := _,
    fd_law_draw := _,
    F_law_draw := Flaw_draw,
    b_law_draw := blaw_draw,
    m_law_shuffled := PySem.W.mg_of X G alaw_shuffled,
    a_law_shuffled := _,
    fd_law_shuffled := _,
    F_law_shuffled := Flaw_shuffled,
    b_law_shuffled := blaw_shuffled,
    m_law_pick := PySem.W.mg_of X G alaw_pick,
    a_law_pick := _,
    fd_law_pick := _,
    F_law_pick := Flaw_pick,
    b_law_pick := blaw_pick,
    z_min := PySem.W.mg_none_of X G zmin,
    m_law_drawn_lot := PySem.W.mg_of X G alaw_drawn_lot,
    a_law_drawn_lot := _,
    fd_law_drawn_lot := _,
    F_law_drawn_lot := Flaw_drawn_lot,
    b_law_drawn_lot := blaw_drawn_lot,
    m_law_any_book := PySem.W.mg_of X G alaw_any_book,
    a_law_any_book := _,
    fd_law_any_book := _,
    F_law_any_book := Flaw_any_book,
    b_law_any_book := blaw_any_book,
    P_law_weighed_book := Plaw_weighed_book,
    k_law_weighed_book := klaw_weighed_book_,
    Q_law_weighed_book := rfl,
    tp_law_weighed_book := (.tail _ (.tail _ (.tail _ (.head _)))),
    tu_law_weighed_book := (List.forall_mem_cons.mpr ⟨fun e => absurd e dlaw_duallaw_weighed_book, (List.forall_mem_cons.mpr ⟨fun e => absurd e dlaw_meetlaw_weighed_book, (List.forall_mem_cons.mpr ⟨fun e => absurd e dlaw_joinlaw_weighed_book, (List.forall_mem_cons.mpr ⟨fun _ => rfl, (fun _ h => nomatch h)⟩)⟩)⟩)⟩),
    tb_law_weighed_book := TB (klaw_weighed_book_, Plaw_weighed_book) (.tail _ (.tail _ (.tail _ (.head _)))),
    m_law_weighed_book := PySem.W.mg_of X G alaw_weighed_book,
    a_law_weighed_book := _,
    fd_law_weighed_book := _,
    F_law_weighed_book := Flaw_weighed_book,
    b_law_weighed_book := blaw_weighed_book,
    m_law_drawn_weights := PySem.W.mg_of X G alaw_drawn_weights,
    a_law_drawn_weights := _,
    fd_law_drawn_weights := _,
    F_law_drawn_weights := Flaw_drawn_weights,
    b_law_drawn_weights := blaw_drawn_weights,
    m_law_drawn_book := PySem.W.mg_of X G alaw_drawn_book,
    a_law_drawn_book := _,
    fd_law_drawn_book := _,
    F_law_drawn_book := Flaw_drawn_book,
    b_law_drawn_book := blaw_drawn_book,
    m_law_pen := PySem.W.mg_of X G alaw_pen,
    a_law_pen := _,
    fd_law_pen := _,
    F_law_pen := Flaw_pen,
    b_law_pen := blaw_pen,
    m_law := PySem.W.mg_of X G alaw,
    a_law := _,
    fd_law := _,
    F_law := Flaw,
    b_law := blaw }
theorem walk {l : PySem.W.OpenLaw} {q : Program} {loose : List Str} {XP : (Str → Option Value) → Heap → Prop} {YP : World → Heap → Prop} {d : DefRec} {K : Params → PySem.W.Frag} (hn : l.most = some 63) (hdf : d.params.defaults = [])
    (hY : ∀ (w : World) (h : Heap), YP w h → (K w.params).In h)
    (F : ∀ (w : World) (mg : Str → Option Value) (fa : Addr) (h : Heap), (K w.params).In h → h.Ns mainGlobals mg → mg d.name = some (.ref fa) →
      (∀ (y : Str) (c P : Addr) (e : DefRec), (PyProof.Rows.recsOf q).find? (fun e => e.name == y) = some e → PySem.W.tabIn (K w.params) y = some (c, P) → PySem.W.CodeHd h c P ∧ h.get? P = some { cls := .none, data := .fields #[] }) → LamX.LawAtS l w (K w.params) (L2.CX l.prog w) 7 63 "script" mg fa h) :
    PySem.W.WalkO q loose XP YP l.row.toRowW d [] (fun f vs => PySem.call f vs) :=
  walk_tabs (CX := fun w => L2.CX l.prog w) hn (by decide) hdf ⟨rfl, by decide, by decide⟩ hY (fun w mg fa h _ => F w mg fa h) fun w H s e s2 h => cx_false h
end k03
end DL
open PySem PySem.W PyProof.Rows
set_option maxRecDepth 100000 in
set_option maxHeartbeats 0 in
theorem PySem.Challenge.cw_weighortrade_k03_whole_dual_books_holds : PySem.Challenge.rw_weighortrade_k03_whole_dual_books.Holds := by
  w_on; o_law; k_head; (case hw => w_witness2)
  k_fill
  refine DL.k03.walk (l := PySem.Challenge.rw_weighortrade_k03_whole_dual_books) rfl rfl (fun w h Y => PySem.W.km_in_of Y) ?F
  case F =>
    intro w mg fa h KX G hmg TF
    refine' DL.k03.all_mk KX G hmg TF ?xBook ?alaw_all_lots ?llaw_all_lots ?claw_all_lots ?klaw_all_lots ?ais_whole ?lis_whole ?cis_whole ?kis_whole ?ais_index ?lis_index ?cis_index ?kis_index ?ais_lot ?lis_lot ?cis_lot ?kis_lot ?aneed_lot ?lneed_lot ?cneed_lot ?kneed_lot ?arest_in ?lrest_in ?crest_in ?krest_in ?aneed_many ?lneed_many ?cneed_many ?kneed_many ?arest_of ?lrest_of ?crest_of ?krest_of ?ais_inside ?lis_inside ?cis_inside ?kis_inside ?acarries_in ?lcarries_in ?ccarries_in ?kcarries_in ?acarries ?lcarries ?ccarries ?kcarries ?alaw_is ?llaw_is ?claw_is ?klaw_is ?ahits_with ?lhits_with ?chits_with ?khits_with ?aleast_of ?lleast_of ?cleast_of ?kleast_of ?ameeting ?lmeeting ?cmeeting ?kmeeting ?afailing ?lfailing ?cfailing ?kfailing ?aevery_lot ?levery_lot ?cevery_lot ?kevery_lot ?ahow_many ?lhow_many ?chow_many ?khow_many ?alaw_weight ?llaw_weight ?claw_weight ?klaw_weight ?alaw_others ?llaw_others ?claw_others ?klaw_others ?alaw_within ?llaw_within ?claw_within ?klaw_within ?alaw_carries ?llaw_carries ?claw_carries ?klaw_carries ?alaw_without ?llaw_without ?claw_without ?klaw_without ?alaw_book_by ?llaw_book_by ?claw_book_by ?klaw_book_by ?alaw_dual ?llaw_dual ?claw_dual ?klaw_dual ?alaw_plain ?llaw_plain ?claw_plain ?klaw_plain ?aBook_init ?iBook_init ?lBook_init ?cBook_init ?kBook_init ?adual ?ldual ?cdual ?kdual ?aBook_eq ?iBook_eq ?lBook_eq ?cBook_eq ?kBook_eq ?aBook_ne ?iBook_ne ?lBook_ne ?cBook_ne ?kBook_ne ?alaw_made ?llaw_made ?claw_made ?klaw_made ?alaw_meet ?llaw_meet ?claw_meet ?klaw_meet ?alaw_join ?llaw_join ?claw_join ?klaw_join ?alaw_least_lots ?llaw_least_lots ?claw_least_lots ?klaw_least_lots ?alaw_draw ?llaw_draw ?claw_draw ?klaw_draw ?alaw_shuffled ?llaw_shuffled ?claw_shuffled ?klaw_shuffled ?alaw_pick ?llaw_pick ?claw_pick ?klaw_pick ?alaw_drawn_lot ?llaw_drawn_lot ?claw_drawn_lot ?klaw_drawn_lot ?alaw_any_book ?llaw_any_book ?claw_any_book ?klaw_any_book ?alaw_weighed_book ?llaw_weighed_book ?claw_weighed_book ?klaw_weighed_book ?alaw_drawn_weights ?llaw_drawn_weights ?claw_drawn_weights ?klaw_drawn_weights ?alaw_drawn_book ?llaw_drawn_book ?claw_drawn_book ?klaw_drawn_book ?alaw_pen ?llaw_pen ?claw_pen ?klaw_pen ?alaw ?llaw ?claw ?klaw ?pgBook ?hdBook ?poBook ?saBook ?mkBook ?kcBook ?tNoneTypeBook ?tboolBook ?tintBook ?tstrBook ?ttupleBook ?tlistBook ?ttBook ?haBook ?hmBook ?hnObj ?htObj ?zrange ?nBookleast ?zsorted ?zlen ?zall ?zisinstance ?ztuple ?zint ?zbool ?zlist ?gMOST_MEMBERS ?nBookmany ?zany ?zstr ?zsum ?oBook_eq ?oBook_ne ?zmin ?qlaw_dual ?ylaw_dual ?vlaw_dual ?rlaw_dual ?ulaw_dual ?qlaw_meet ?ylaw_meet ?vlaw_meet ?rlaw_meet ?ulaw_meet ?qlaw_join ?ylaw_join ?vlaw_join ?rlaw_join ?ulaw_join ?qlaw_weighed_book ?ylaw_weighed_book ?vlaw_weighed_book ?rlaw_weighed_book ?ulaw_weighed_book ?dlaw_duallaw_meet ?dlaw_duallaw_join ?dlaw_meetlaw_join ?dlaw_duallaw_weighed_book ?dlaw_meetlaw_weighed_book ?dlaw_joinlaw_weighed_book
    (case xBook => k_is)
    (case alaw_all_lots => k_is)
    (case llaw_all_lots => k_is)
    (case claw_all_lots => k_is)
    (case klaw_all_lots => k_is)
    (case ais_whole => k_is)
    (case lis_whole => k_is)
    (case cis_whole => k_is)
    (case kis_whole => k_is)
    (case ais_index => k_is)
    (case lis_index => k_is)
    (case cis_index => k_is)
    (case kis_index => k_is)
    (case ais_lot => k_is)
    (case lis_lot => k_is)
    (case cis_lot => k_is)
    (case kis_lot => k_is)
    (case aneed_lot => k_is)
    (case lneed_lot => k_is)
    (case cneed_lot => k_is)
    (case kneed_lot => k_is)
    (case arest_in => k_is)
    (case lrest_in => k_is)
    (case crest_in => k_is)
    (case krest_in => k_is)
    (case aneed_many => k_is)
    (case lneed_many => k_is)
    (case cneed_many => k_is)
    (case kneed_many => k_is)
    (case arest_of => k_is)
    (case lrest_of => k_is)
    (case crest_of => k_is)
    (case krest_of => k_is)
    (case ais_inside => k_is)
    (case lis_inside => k_is)
    (case cis_inside => k_is)
    (case kis_inside => k_is)
    (case acarries_in => k_is)
    (case lcarries_in => k_is)
    (case ccarries_in => k_is)
    (case kcarries_in => k_is)
    (case acarries => k_is)
    (case lcarries => k_is)
    (case ccarries => k_is)
    (case kcarries => k_is)
    (case alaw_is => k_is)
    (case llaw_is => k_is)
    (case claw_is => k_is)
    (case klaw_is => k_is)
    (case ahits_with => k_is)
    (case lhits_with => k_is)
    (case chits_with => k_is)
    (case khits_with => k_is)
    (case aleast_of => k_is)
    (case lleast_of => k_is)
    (case cleast_of => k_is)
    (case kleast_of => k_is)
    (case ameeting => k_is)
    (case lmeeting => k_is)
    (case cmeeting => k_is)
    (case kmeeting => k_is)
    (case afailing => k_is)
    (case lfailing => k_is)
    (case cfailing => k_is)
    (case kfailing => k_is)
    (case aevery_lot => k_is)
    (case levery_lot => k_is)
    (case cevery_lot => k_is)
    (case kevery_lot => k_is)
    (case ahow_many => k_is)
    (case lhow_many => k_is)
    (case chow_many => k_is)
    (case khow_many => k_is)
    (case alaw_weight => k_is)
    (case llaw_weight => k_is)
    (case claw_weight => k_is)
    (case klaw_weight => k_is)
    (case alaw_others => k_is)
    (case llaw_others => k_is)
    (case claw_others => k_is)
    (case klaw_others => k_is)
    (case alaw_within => k_is)
    (case llaw_within => k_is)
    (case claw_within => k_is)
    (case klaw_within => k_is)
    (case alaw_carries => k_is)
    (case llaw_carries => k_is)
    (case claw_carries => k_is)
    (case klaw_carries => k_is)
    (case alaw_without => k_is)
    (case llaw_without => k_is)
    (case claw_without => k_is)
    (case klaw_without => k_is)
    (case alaw_book_by => k_is)
    (case llaw_book_by => k_is)
    (case claw_book_by => k_is)
    (case klaw_book_by => k_is)
    (case alaw_dual => k_is)
    (case llaw_dual => k_is)
    (case claw_dual => k_is)
    (case klaw_dual => k_is)
    (case alaw_plain => k_is)
    (case llaw_plain => k_is)
    (case claw_plain => k_is)
    (case klaw_plain => k_is)
    (case aBook_init => k_is)
    (case iBook_init => k_is)
    (case lBook_init => k_is)
    (case cBook_init => k_is)
    (case kBook_init => k_is)
    (case adual => k_is)
    (case ldual => k_is)
    (case cdual => k_is)
    (case kdual => k_is)
    (case aBook_eq => k_is)
    (case iBook_eq => k_is)
    (case lBook_eq => k_is)
    (case cBook_eq => k_is)
    (case kBook_eq => k_is)
    (case aBook_ne => k_is)
    (case iBook_ne => k_is)
    (case lBook_ne => k_is)
    (case cBook_ne => k_is)
    (case kBook_ne => k_is)
    (case alaw_made => k_is)
    (case llaw_made => k_is)
    (case claw_made => k_is)
    (case klaw_made => k_is)
    (case alaw_meet => k_is)
    (case llaw_meet => k_is)
    (case claw_meet => k_is)
    (case klaw_meet => k_is)
    (case alaw_join => k_is)
    (case llaw_join => k_is)
    (case claw_join => k_is)
    (case klaw_join => k_is)
    (case alaw_least_lots => k_is)
    (case llaw_least_lots => k_is)
    (case claw_least_lots => k_is)
    (case klaw_least_lots => k_is)
    (case alaw_draw => k_is)
    (case llaw_draw => k_is)
    (case claw_draw => k_is)
    (case klaw_draw => k_is)
    (case alaw_shuffled => k_is)
    (case llaw_shuffled => k_is)
    (case claw_shuffled => k_is)
    (case klaw_shuffled => k_is)
    (case alaw_pick => k_is)
    (case llaw_pick => k_is)
    (case claw_pick => k_is)
    (case klaw_pick => k_is)
    (case alaw_drawn_lot => k_is)
    (case llaw_drawn_lot => k_is)
    (case claw_drawn_lot => k_is)
    (case klaw_drawn_lot => k_is)
    (case alaw_any_book => k_is)
    (case llaw_any_book => k_is)
    (case claw_any_book => k_is)
    (case klaw_any_book => k_is)
    (case alaw_weighed_book => k_is)
    (case llaw_weighed_book => k_is)
    (case claw_weighed_book => k_is)
    (case klaw_weighed_book => k_is)
    (case alaw_drawn_weights => k_is)
    (case llaw_drawn_weights => k_is)
    (case claw_drawn_weights => k_is)
    (case klaw_drawn_weights => k_is)
    (case alaw_drawn_book => k_is)
    (case llaw_drawn_book => k_is)
    (case claw_drawn_book => k_is)
    (case klaw_drawn_book => k_is)
    (case alaw_pen => k_is)
    (case llaw_pen => k_is)
    (case claw_pen => k_is)
    (case klaw_pen => k_is)
    (case alaw => k_is)
    (case llaw => k_is)
    (case claw => k_is)
    (case klaw => k_is)
    (case pgBook => k_is)
    (case hdBook => k_is)
    (case poBook => k_is)
    (case saBook => k_is)
    (case mkBook => k_is)
    (case kcBook => k_is)
    (case tNoneTypeBook => kit_is)
    (case tboolBook => kit_is)
    (case tintBook => kit_is)
    (case tstrBook => kit_is)
    (case ttupleBook => kit_is)
    (case tlistBook => kit_is)
    (case ttBook => kit_is)
    (case haBook => k_is)
    (case hmBook => k_is)
    (case hnObj => k_is)
    (case htObj => k_is)
    (case zrange => k_is)
    (case nBookleast => k_is)
    (case zsorted => k_is)
    (case zlen => k_is)
    (case zall => k_is)
    (case zisinstance => k_is)
    (case ztuple => k_is)
    (case zint => k_is)
    (case zbool => k_is)
    (case zlist => k_is)
    (case gMOST_MEMBERS => k_is)
    (case nBookmany => k_is)
    (case zany => k_is)
    (case zstr => k_is)
    (case zsum => k_is)
    (case oBook_eq => k_is)
    (case oBook_ne => k_is)
    (case zmin => k_is)
    (case qlaw_dual => rfl)
    (case ylaw_dual => k_is)
    (case vlaw_dual => rfl)
    (case rlaw_dual => rfl)
    (case ulaw_dual => kernel_rfl)
    (case qlaw_meet => rfl)
    (case ylaw_meet => k_is)
    (case vlaw_meet => rfl)
    (case rlaw_meet => rfl)
    (case ulaw_meet => kernel_rfl)
    (case qlaw_join => rfl)
    (case ylaw_join => k_is)
    (case vlaw_join => rfl)
    (case rlaw_join => rfl)
    (case ulaw_join => kernel_rfl)
    (case qlaw_weighed_book => rfl)
    (case ylaw_weighed_book => k_is)
    (case vlaw_weighed_book => rfl)
    (case rlaw_weighed_book => rfl)
    (case ulaw_weighed_book => kernel_rfl)
    (case dlaw_duallaw_meet => decide)
    (case dlaw_duallaw_join => decide)
    (case dlaw_meetlaw_join => decide)
    (case dlaw_duallaw_weighed_book => decide)
    (case dlaw_meetlaw_weighed_book => decide)
    (case dlaw_joinlaw_weighed_book => decide)

